import PyProof.Rows.All
import Wide.All
import OpenK.AllK
import Wide.FinOn
import PySem.Challenge.RW_pq0187_01
open PySem PySem.W PyProof.Rows PySem.Calls
set_option Elab.async false
set_option maxRecDepth 100000
namespace Mine
abbrev fnO {i : Nat} {n b' : Str} {ps : Arguments} {b : List Stmt} {dl : List Expr} {rt : Option Expr} {tp : List TypeParam} {sc : Scope} {ts : Option Scope} {p : Pos}
    (_ : PySem.Challenge.pw_pq0187_01.main.body[i]? = some (.FunctionDef n ps b dl rt tp sc ts b' p)) (md : Value) (c : Addr) : Obj :=
  { cls := .type "function", data := .func { name := n, qualname := n, params := ps, body := .stmts b, scope := sc, globals := 3, closure := [], defaults := .none, kwdefaults := .none, pyModule := md, code := .ref c } }
noncomputable def hd.view_39 : Program := view PySem.Challenge.pw_pq0187_01 [1, 2, 4, 6, 7, 8, 9, 10, 11, 12, 13, 14, 15, 17, 18, 20, 21, 22, 23, 24, 25, 26, 27, 28, 29, 30, 32, 33, 34, 35, 36, 37, 38]
noncomputable def hd.heap_39 : Params → Frag := fun P => 
  (nat_lit 2, ({ cls := Value.none, data := Data.dict #[{ hash := PyData.keyHash P (Str.ofString "type.__subclasses__.Exception.0"), key := Value.str (Str.ofString "type.__subclasses__.Exception.0") 237, val := Value.int 45 0 }, { hash := PyData.keyHash P (Str.ofString "type.__subclasses__.Exception.n"), key := Value.str (Str.ofString "type.__subclasses__.Exception.n") 238, val := Value.int 1 0 }] 2 } : Obj)) ::
  (nat_lit 3, ({ cls := Value.type "dict", data := Data.dict #[{ hash := PyData.keyHash P (Str.ofString "__name__"), key := Value.str (Str.ofString "__name__") 165, val := Value.str (Str.ofString "law_pq0187_01") 407 }, { hash := PyData.keyHash P (Str.ofString "__doc__"), key := Value.str (Str.ofString "__doc__") 166, val := Value.none }, { hash := PyData.keyHash P (Str.ofString "__package__"), key := Value.str (Str.ofString "__package__") 167, val := Value.none }, { hash := PyData.keyHash P (Str.ofString "__loader__"), key := Value.str (Str.ofString "__loader__") 168, val := Value.builtin "__main__.__loader__#opaque" }, { hash := PyData.keyHash P (Str.ofString "__spec__"), key := Value.str (Str.ofString "__spec__") 169, val := Value.none }, { hash := PyData.keyHash P (Str.ofString "__annotations__"), key := Value.str (Str.ofString "__annotations__") 170, val := Value.ref 6 }, { hash := PyData.keyHash P (Str.ofString "__builtins__"), key := Value.str (Str.ofString "__builtins__") 171, val := Value.ref 4 }, { hash := PyData.keyHash P (Str.ofString "__file__"), key := Value.str (Str.ofString "__file__") 173, val := Value.str (Str.ofString "/claim/cut.py") 172 }, { hash := PyData.keyHash P (Str.ofString "__cached__"), key := Value.str (Str.ofString "__cached__") 174, val := Value.none }, { hash := PyData.keyHash P (Str.ofString "gcd"), key := Value.str (Str.ofString "gcd") 196, val := Value.ref 21 }, { hash := PyData.keyHash P (Str.ofString "root_of"), key := Value.str (Str.ofString "root_of") 207, val := Value.ref 28 }, { hash := PyData.keyHash P (Str.ofString "CasFail"), key := Value.str (Str.ofString "CasFail") 240, val := Value.ref 45 }, { hash := PyData.keyHash P (Str.ofString "R0"), key := Value.str (Str.ofString "R0") 245, val := Value.ref 49 }, { hash := PyData.keyHash P (Str.ofString "R1"), key := Value.str (Str.ofString "R1") 248, val := Value.ref 50 }, { hash := PyData.keyHash P (Str.ofString "rat"), key := Value.str (Str.ofString "rat") 257, val := Value.ref 57 }, { hash := PyData.keyHash P (Str.ofString "radd"), key := Value.str (Str.ofString "radd") 265, val := Value.ref 64 }, { hash := PyData.keyHash P (Str.ofString "rmul"), key := Value.str (Str.ofString "rmul") 273, val := Value.ref 71 }, { hash := PyData.keyHash P (Str.ofString "rdiv"), key := Value.str (Str.ofString "rdiv") 281, val := Value.ref 78 }, { hash := PyData.keyHash P (Str.ofString "rcompare"), key := Value.str (Str.ofString "rcompare") 290, val := Value.ref 85 }, { hash := PyData.keyHash P (Str.ofString "rfloor"), key := Value.str (Str.ofString "rfloor") 297, val := Value.ref 92 }, { hash := PyData.keyHash P (Str.ofString "ONE"), key := Value.str (Str.ofString "ONE") 301, val := Value.ref 93 }, { hash := PyData.keyHash P (Str.ofString "EXP_ONE"), key := Value.str (Str.ofString "EXP_ONE") 304, val := Value.ref 95 }, { hash := PyData.keyHash P (Str.ofString "is_num"), key := Value.str (Str.ofString "is_num") 313, val := Value.ref 102 }, { hash := PyData.keyHash P (Str.ofString "num_of"), key := Value.str (Str.ofString "num_of") 320, val := Value.ref 109 }, { hash := PyData.keyHash P (Str.ofString "SCALE"), key := Value.str (Str.ofString "SCALE") 326, val := Value.int 1000000000000 325 }, { hash := PyData.keyHash P (Str.ofString "MOST_ROOT"), key := Value.str (Str.ofString "MOST_ROOT") 328, val := Value.int 64 327 }, { hash := PyData.keyHash P (Str.ofString "E_BOUNDS"), key := Value.str (Str.ofString "E_BOUNDS") 337, val := Value.ref 112 }, { hash := PyData.keyHash P (Str.ofString "PI_BOUNDS"), key := Value.str (Str.ofString "PI_BOUNDS") 346, val := Value.ref 115 }, { hash := PyData.keyHash P (Str.ofString "least_and_greatest"), key := Value.str (Str.ofString "least_and_greatest") 356, val := Value.ref 122 }, { hash := PyData.keyHash P (Str.ofString "root_bounds"), key := Value.str (Str.ofString "root_bounds") 366, val := Value.ref 129 }, { hash := PyData.keyHash P (Str.ofString "joined_bounds"), key := Value.str (Str.ofString "joined_bounds") 372, val := Value.ref 134 }, { hash := PyData.keyHash P (Str.ofString "bounds_of"), key := Value.str (Str.ofString "bounds_of") 382, val := Value.ref 141 }, { hash := PyData.keyHash P (Str.ofString "bounds_of_ends"), key := Value.str (Str.ofString "bounds_of_ends") 392, val := Value.ref 148 }, { hash := PyData.keyHash P (Str.ofString "nearest_turn"), key := Value.str (Str.ofString "nearest_turn") 400, val := Value.ref 155 }, { hash := PyData.keyHash P (Str.ofString "may_meet_pole"), key := Value.str (Str.ofString "may_meet_pole") 406, val := Value.ref 160 }, { hash := PyData.keyHash P (Str.ofString "_law_take"), key := Value.str (Str.ofString "_law_take") 416, val := Value.ref 167 }, { hash := PyData.keyHash P (Str.ofString "_law_number"), key := Value.str (Str.ofString "_law_number") 427, val := Value.ref 174 }, { hash := PyData.keyHash P (Str.ofString "_law_is_between"), key := Value.str (Str.ofString "_law_is_between") 441, val := Value.ref 181 }, { hash := PyData.keyHash P (Str.ofString "_law_joined_right"), key := Value.str (Str.ofString "_law_joined_right") 457, val := Value.ref 188 }, { hash := PyData.keyHash P (Str.ofString "_law_arc"), key := Value.str (Str.ofString "_law_arc") 468, val := Value.ref 195 }, { hash := PyData.keyHash P (Str.ofString "_law_poles_right"), key := Value.str (Str.ofString "_law_poles_right") 474, val := Value.ref 200 }, { hash := PyData.keyHash P (Str.ofString "law"), key := Value.str (Str.ofString "law") 480, val := Value.ref 205 }] 42 } : Obj)) ::
  (nat_lit 20, ({ cls := Value.type "code", data := Data.fields #[Value.str (Str.ofString "gcd") 189, Value.str (Str.ofString "gcd") 190, Value.str (Str.ofString "/claim/cut.py") 191, Value.int 2 0, Value.int 2 0, Value.int 0 0, Value.int 0 0, Value.int 3 0, Value.ref 15, Value.bool true, Value.int 181 0, Value.ref 16, Value.none, Value.ref 17, Value.ref 18, Value.ref 19, Value.int 194 0, Value.int 2 0, Value.str (Str.ofString "/claim/cut.py") 195] } : Obj)) ::
  (nat_lit 21, fnO (i := 1) rfl (Value.str (Str.ofString "cas.ints") 187) 20) ::
  (nat_lit 27, ({ cls := Value.type "code", data := Data.fields #[Value.str (Str.ofString "root_of") 197, Value.str (Str.ofString "root_of") 198, Value.str (Str.ofString "/claim/cut.py") 199, Value.int 7 0, Value.int 2 0, Value.int 0 0, Value.int 0 0, Value.int 3 0, Value.ref 22, Value.bool true, Value.int 181 0, Value.ref 23, Value.none, Value.ref 24, Value.ref 25, Value.ref 26, Value.int 205 0, Value.int 7 0, Value.str (Str.ofString "/claim/cut.py") 206] } : Obj)) ::
  (nat_lit 28, fnO (i := 2) rfl (Value.str (Str.ofString "cas.ints") 187) 27) ::
  (nat_lit 49, ({ cls := Value.type "tuple", data := Data.seq #[Value.int 0 243, Value.int 1 244] } : Obj)) ::
  (nat_lit 50, ({ cls := Value.type "tuple", data := Data.seq #[Value.int 1 246, Value.int 1 247] } : Obj)) ::
  (nat_lit 56, ({ cls := Value.type "code", data := Data.fields #[Value.str (Str.ofString "rat") 249, Value.str (Str.ofString "rat") 250, Value.str (Str.ofString "/claim/cut.py") 251, Value.int 28 0, Value.int 2 0, Value.int 0 0, Value.int 0 0, Value.int 3 0, Value.ref 51, Value.bool true, Value.int 181 0, Value.ref 52, Value.none, Value.ref 53, Value.ref 54, Value.ref 55, Value.int 255 0, Value.int 28 0, Value.str (Str.ofString "/claim/cut.py") 256] } : Obj)) ::
  (nat_lit 57, fnO (i := 8) rfl (Value.str (Str.ofString "cas.rats") 241) 56) ::
  (nat_lit 63, ({ cls := Value.type "code", data := Data.fields #[Value.str (Str.ofString "radd") 258, Value.str (Str.ofString "radd") 259, Value.str (Str.ofString "/claim/cut.py") 260, Value.int 33 0, Value.int 2 0, Value.int 0 0, Value.int 0 0, Value.int 3 0, Value.ref 58, Value.bool true, Value.int 181 0, Value.ref 59, Value.none, Value.ref 60, Value.ref 61, Value.ref 62, Value.int 263 0, Value.int 33 0, Value.str (Str.ofString "/claim/cut.py") 264] } : Obj)) ::
  (nat_lit 64, fnO (i := 9) rfl (Value.str (Str.ofString "cas.rats") 241) 63) ::
  (nat_lit 70, ({ cls := Value.type "code", data := Data.fields #[Value.str (Str.ofString "rmul") 266, Value.str (Str.ofString "rmul") 267, Value.str (Str.ofString "/claim/cut.py") 268, Value.int 35 0, Value.int 2 0, Value.int 0 0, Value.int 0 0, Value.int 3 0, Value.ref 65, Value.bool true, Value.int 181 0, Value.ref 66, Value.none, Value.ref 67, Value.ref 68, Value.ref 69, Value.int 271 0, Value.int 35 0, Value.str (Str.ofString "/claim/cut.py") 272] } : Obj)) ::
  (nat_lit 71, fnO (i := 10) rfl (Value.str (Str.ofString "cas.rats") 241) 70) ::
  (nat_lit 77, ({ cls := Value.type "code", data := Data.fields #[Value.str (Str.ofString "rdiv") 274, Value.str (Str.ofString "rdiv") 275, Value.str (Str.ofString "/claim/cut.py") 276, Value.int 37 0, Value.int 2 0, Value.int 0 0, Value.int 0 0, Value.int 3 0, Value.ref 72, Value.bool true, Value.int 181 0, Value.ref 73, Value.none, Value.ref 74, Value.ref 75, Value.ref 76, Value.int 279 0, Value.int 37 0, Value.str (Str.ofString "/claim/cut.py") 280] } : Obj)) ::
  (nat_lit 78, fnO (i := 11) rfl (Value.str (Str.ofString "cas.rats") 241) 77) ::
  (nat_lit 84, ({ cls := Value.type "code", data := Data.fields #[Value.str (Str.ofString "rcompare") 282, Value.str (Str.ofString "rcompare") 283, Value.str (Str.ofString "/claim/cut.py") 284, Value.int 39 0, Value.int 2 0, Value.int 0 0, Value.int 0 0, Value.int 3 0, Value.ref 79, Value.bool true, Value.int 181 0, Value.ref 80, Value.none, Value.ref 81, Value.ref 82, Value.ref 83, Value.int 288 0, Value.int 39 0, Value.str (Str.ofString "/claim/cut.py") 289] } : Obj)) ::
  (nat_lit 85, fnO (i := 12) rfl (Value.str (Str.ofString "cas.rats") 241) 84) ::
  (nat_lit 91, ({ cls := Value.type "code", data := Data.fields #[Value.str (Str.ofString "rfloor") 291, Value.str (Str.ofString "rfloor") 292, Value.str (Str.ofString "/claim/cut.py") 293, Value.int 42 0, Value.int 1 0, Value.int 0 0, Value.int 0 0, Value.int 3 0, Value.ref 86, Value.bool true, Value.int 181 0, Value.ref 87, Value.none, Value.ref 88, Value.ref 89, Value.ref 90, Value.int 295 0, Value.int 42 0, Value.str (Str.ofString "/claim/cut.py") 296] } : Obj)) ::
  (nat_lit 92, fnO (i := 13) rfl (Value.str (Str.ofString "cas.rats") 241) 91) ::
  (nat_lit 93, ({ cls := Value.type "tuple", data := Data.seq #[Value.str (Str.ofString "num") 298, Value.int 1 299, Value.int 1 300] } : Obj)) ::
  (nat_lit 94, ({ cls := Value.type "tuple", data := Data.seq #[Value.ref 93] } : Obj)) ::
  (nat_lit 95, ({ cls := Value.type "tuple", data := Data.seq #[Value.str (Str.ofString "call") 302, Value.str (Str.ofString "exp") 303, Value.ref 94] } : Obj)) ::
  (nat_lit 101, ({ cls := Value.type "code", data := Data.fields #[Value.str (Str.ofString "is_num") 307, Value.str (Str.ofString "is_num") 308, Value.str (Str.ofString "/claim/cut.py") 309, Value.int 47 0, Value.int 1 0, Value.int 0 0, Value.int 0 0, Value.int 3 0, Value.ref 96, Value.bool true, Value.int 181 0, Value.ref 97, Value.none, Value.ref 98, Value.ref 99, Value.ref 100, Value.int 311 0, Value.int 47 0, Value.str (Str.ofString "/claim/cut.py") 312] } : Obj)) ::
  (nat_lit 102, fnO (i := 17) rfl (Value.str (Str.ofString "cas.terms") 305) 101) ::
  (nat_lit 108, ({ cls := Value.type "code", data := Data.fields #[Value.str (Str.ofString "num_of") 314, Value.str (Str.ofString "num_of") 315, Value.str (Str.ofString "/claim/cut.py") 316, Value.int 49 0, Value.int 1 0, Value.int 0 0, Value.int 0 0, Value.int 3 0, Value.ref 103, Value.bool true, Value.int 181 0, Value.ref 104, Value.none, Value.ref 105, Value.ref 106, Value.ref 107, Value.int 318 0, Value.int 49 0, Value.str (Str.ofString "/claim/cut.py") 319] } : Obj)) ::
  (nat_lit 109, fnO (i := 18) rfl (Value.str (Str.ofString "cas.terms") 305) 108) ::
  (nat_lit 110, ({ cls := Value.type "tuple", data := Data.seq #[Value.int 2718281828459 329, Value.int 1000000000000 332] } : Obj)) ::
  (nat_lit 111, ({ cls := Value.type "tuple", data := Data.seq #[Value.int 2718281828460 333, Value.int 1000000000000 336] } : Obj)) ::
  (nat_lit 112, ({ cls := Value.type "tuple", data := Data.seq #[Value.ref 110, Value.ref 111] } : Obj)) ::
  (nat_lit 113, ({ cls := Value.type "tuple", data := Data.seq #[Value.int 3141592653589793238462643383279 338, Value.int 1000000000000000000000000000000 341] } : Obj)) ::
  (nat_lit 114, ({ cls := Value.type "tuple", data := Data.seq #[Value.int 3141592653589793238462643383280 342, Value.int 1000000000000000000000000000000 345] } : Obj)) ::
  (nat_lit 115, ({ cls := Value.type "tuple", data := Data.seq #[Value.ref 113, Value.ref 114] } : Obj)) ::
  (nat_lit 121, ({ cls := Value.type "code", data := Data.fields #[Value.str (Str.ofString "least_and_greatest") 347, Value.str (Str.ofString "least_and_greatest") 348, Value.str (Str.ofString "/claim/cut.py") 349, Value.int 56 0, Value.int 1 0, Value.int 0 0, Value.int 0 0, Value.int 3 0, Value.ref 116, Value.bool true, Value.int 181 0, Value.ref 117, Value.none, Value.ref 118, Value.ref 119, Value.ref 120, Value.int 354 0, Value.int 56 0, Value.str (Str.ofString "/claim/cut.py") 355] } : Obj)) ::
  (nat_lit 122, fnO (i := 24) rfl (Value.str (Str.ofString "cas.numbounds") 321) 121) ::
  (nat_lit 128, ({ cls := Value.type "code", data := Data.fields #[Value.str (Str.ofString "root_bounds") 357, Value.str (Str.ofString "root_bounds") 358, Value.str (Str.ofString "/claim/cut.py") 359, Value.int 62 0, Value.int 2 0, Value.int 0 0, Value.int 0 0, Value.int 3 0, Value.ref 123, Value.bool true, Value.int 181 0, Value.ref 124, Value.none, Value.ref 125, Value.ref 126, Value.ref 127, Value.int 364 0, Value.int 62 0, Value.str (Str.ofString "/claim/cut.py") 365] } : Obj)) ::
  (nat_lit 129, fnO (i := 25) rfl (Value.str (Str.ofString "cas.numbounds") 321) 128) ::
  (nat_lit 133, ({ cls := Value.type "code", data := Data.fields #[Value.str (Str.ofString "joined_bounds") 367, Value.str (Str.ofString "joined_bounds") 368, Value.str (Str.ofString "/claim/cut.py") 369, Value.int 68 0, Value.int 3 0, Value.int 0 0, Value.int 0 0, Value.int 3 0, Value.ref 130, Value.bool true, Value.int 181 0, Value.ref 131, Value.none, Value.none, Value.none, Value.ref 132, Value.int 370 0, Value.int 68 0, Value.str (Str.ofString "/claim/cut.py") 371] } : Obj)) ::
  (nat_lit 134, fnO (i := 26) rfl (Value.str (Str.ofString "cas.numbounds") 321) 133) ::
  (nat_lit 140, ({ cls := Value.type "code", data := Data.fields #[Value.str (Str.ofString "bounds_of") 373, Value.str (Str.ofString "bounds_of") 374, Value.str (Str.ofString "/claim/cut.py") 375, Value.int 72 0, Value.int 1 0, Value.int 0 0, Value.int 0 0, Value.int 3 0, Value.ref 135, Value.bool true, Value.int 181 0, Value.ref 136, Value.none, Value.ref 137, Value.ref 138, Value.ref 139, Value.int 380 0, Value.int 72 0, Value.str (Str.ofString "/claim/cut.py") 381] } : Obj)) ::
  (nat_lit 141, fnO (i := 27) rfl (Value.str (Str.ofString "cas.numbounds") 321) 140) ::
  (nat_lit 147, ({ cls := Value.type "code", data := Data.fields #[Value.str (Str.ofString "bounds_of_ends") 383, Value.str (Str.ofString "bounds_of_ends") 384, Value.str (Str.ofString "/claim/cut.py") 385, Value.int 88 0, Value.int 2 0, Value.int 0 0, Value.int 0 0, Value.int 3 0, Value.ref 142, Value.bool true, Value.int 181 0, Value.ref 143, Value.none, Value.ref 144, Value.ref 145, Value.ref 146, Value.int 390 0, Value.int 88 0, Value.str (Str.ofString "/claim/cut.py") 391] } : Obj)) ::
  (nat_lit 148, fnO (i := 28) rfl (Value.str (Str.ofString "cas.numbounds") 321) 147) ::
  (nat_lit 154, ({ cls := Value.type "code", data := Data.fields #[Value.str (Str.ofString "nearest_turn") 393, Value.str (Str.ofString "nearest_turn") 394, Value.str (Str.ofString "/claim/cut.py") 395, Value.int 91 0, Value.int 2 0, Value.int 0 0, Value.int 0 0, Value.int 3 0, Value.ref 149, Value.bool true, Value.int 181 0, Value.ref 150, Value.none, Value.ref 151, Value.ref 152, Value.ref 153, Value.int 398 0, Value.int 91 0, Value.str (Str.ofString "/claim/cut.py") 399] } : Obj)) ::
  (nat_lit 155, fnO (i := 29) rfl (Value.str (Str.ofString "cas.numbounds") 321) 154) ::
  (nat_lit 159, ({ cls := Value.type "code", data := Data.fields #[Value.str (Str.ofString "may_meet_pole") 401, Value.str (Str.ofString "may_meet_pole") 402, Value.str (Str.ofString "/claim/cut.py") 403, Value.int 93 0, Value.int 2 0, Value.int 0 0, Value.int 0 0, Value.int 3 0, Value.ref 156, Value.bool true, Value.int 181 0, Value.ref 157, Value.none, Value.none, Value.none, Value.ref 158, Value.int 404 0, Value.int 93 0, Value.str (Str.ofString "/claim/cut.py") 405] } : Obj)) ::
  (nat_lit 160, fnO (i := 30) rfl (Value.str (Str.ofString "cas.numbounds") 321) 159) ::
  (nat_lit 166, ({ cls := Value.type "code", data := Data.fields #[Value.str (Str.ofString "_law_take") 409, Value.str (Str.ofString "_law_take") 410, Value.str (Str.ofString "/claim/cut.py") 411, Value.int 97 0, Value.int 2 0, Value.int 0 0, Value.int 0 0, Value.int 3 0, Value.ref 161, Value.bool true, Value.int 181 0, Value.ref 162, Value.none, Value.ref 163, Value.ref 164, Value.ref 165, Value.int 414 0, Value.int 97 0, Value.str (Str.ofString "/claim/cut.py") 415] } : Obj)) ::
  (nat_lit 167, fnO (i := 32) rfl (Value.str (Str.ofString "law_pq0187_01") 407) 166) ::
  (nat_lit 173, ({ cls := Value.type "code", data := Data.fields #[Value.str (Str.ofString "_law_number") 417, Value.str (Str.ofString "_law_number") 418, Value.str (Str.ofString "/claim/cut.py") 419, Value.int 102 0, Value.int 1 0, Value.int 0 0, Value.int 0 0, Value.int 3 0, Value.ref 168, Value.bool true, Value.int 181 0, Value.ref 169, Value.none, Value.ref 170, Value.ref 171, Value.ref 172, Value.int 425 0, Value.int 102 0, Value.str (Str.ofString "/claim/cut.py") 426] } : Obj)) ::
  (nat_lit 174, fnO (i := 33) rfl (Value.str (Str.ofString "law_pq0187_01") 407) 173) ::
  (nat_lit 180, ({ cls := Value.type "code", data := Data.fields #[Value.str (Str.ofString "_law_is_between") 428, Value.str (Str.ofString "_law_is_between") 429, Value.str (Str.ofString "/claim/cut.py") 430, Value.int 111 0, Value.int 4 0, Value.int 0 0, Value.int 0 0, Value.int 3 0, Value.ref 175, Value.bool true, Value.int 181 0, Value.ref 176, Value.none, Value.ref 177, Value.ref 178, Value.ref 179, Value.int 439 0, Value.int 111 0, Value.str (Str.ofString "/claim/cut.py") 440] } : Obj)) ::
  (nat_lit 181, fnO (i := 34) rfl (Value.str (Str.ofString "law_pq0187_01") 407) 180) ::
  (nat_lit 187, ({ cls := Value.type "code", data := Data.fields #[Value.str (Str.ofString "_law_joined_right") 442, Value.str (Str.ofString "_law_joined_right") 443, Value.str (Str.ofString "/claim/cut.py") 444, Value.int 122 0, Value.int 4 0, Value.int 0 0, Value.int 0 0, Value.int 3 0, Value.ref 182, Value.bool true, Value.int 181 0, Value.ref 183, Value.none, Value.ref 184, Value.ref 185, Value.ref 186, Value.int 455 0, Value.int 122 0, Value.str (Str.ofString "/claim/cut.py") 456] } : Obj)) ::
  (nat_lit 188, fnO (i := 35) rfl (Value.str (Str.ofString "law_pq0187_01") 407) 187) ::
  (nat_lit 194, ({ cls := Value.type "code", data := Data.fields #[Value.str (Str.ofString "_law_arc") 458, Value.str (Str.ofString "_law_arc") 459, Value.str (Str.ofString "/claim/cut.py") 460, Value.int 134 0, Value.int 1 0, Value.int 0 0, Value.int 0 0, Value.int 3 0, Value.ref 189, Value.bool true, Value.int 181 0, Value.ref 190, Value.none, Value.ref 191, Value.ref 192, Value.ref 193, Value.int 466 0, Value.int 134 0, Value.str (Str.ofString "/claim/cut.py") 467] } : Obj)) ::
  (nat_lit 195, fnO (i := 36) rfl (Value.str (Str.ofString "law_pq0187_01") 407) 194) ::
  (nat_lit 199, ({ cls := Value.type "code", data := Data.fields #[Value.str (Str.ofString "_law_poles_right") 469, Value.str (Str.ofString "_law_poles_right") 470, Value.str (Str.ofString "/claim/cut.py") 471, Value.int 139 0, Value.int 1 0, Value.int 0 0, Value.int 0 0, Value.int 3 0, Value.ref 196, Value.bool true, Value.int 181 0, Value.ref 197, Value.none, Value.none, Value.none, Value.ref 198, Value.int 472 0, Value.int 139 0, Value.str (Str.ofString "/claim/cut.py") 473] } : Obj)) ::
  (nat_lit 200, fnO (i := 37) rfl (Value.str (Str.ofString "law_pq0187_01") 407) 199) ::
  (nat_lit 204, ({ cls := Value.type "code", data := Data.fields #[Value.str (Str.ofString "law") 475, Value.str (Str.ofString "law") 476, Value.str (Str.ofString "/claim/cut.py") 477, Value.int 145 0, Value.int 1 0, Value.int 0 0, Value.int 0 0, Value.int 3 0, Value.ref 201, Value.bool true, Value.int 181 0, Value.ref 202, Value.none, Value.none, Value.none, Value.ref 203, Value.int 478 0, Value.int 145 0, Value.str (Str.ofString "/claim/cut.py") 479] } : Obj)) ::
  (nat_lit 205, fnO (i := 38) rfl (Value.str (Str.ofString "law_pq0187_01") 407) 204) :: []
abbrev kas : List Nat := [nat_lit 2, nat_lit 3, nat_lit 20, nat_lit 21, nat_lit 27, nat_lit 28, nat_lit 49, nat_lit 50, nat_lit 56, nat_lit 57, nat_lit 63, nat_lit 64, nat_lit 70, nat_lit 71, nat_lit 77, nat_lit 78, nat_lit 84, nat_lit 85, nat_lit 91, nat_lit 92, nat_lit 93, nat_lit 94, nat_lit 95, nat_lit 101, nat_lit 102, nat_lit 108, nat_lit 109, nat_lit 110, nat_lit 111, nat_lit 112, nat_lit 113, nat_lit 114, nat_lit 115, nat_lit 121, nat_lit 122, nat_lit 128, nat_lit 129, nat_lit 133, nat_lit 134, nat_lit 140, nat_lit 141, nat_lit 147, nat_lit 148, nat_lit 154, nat_lit 155, nat_lit 159, nat_lit 160, nat_lit 166, nat_lit 167, nat_lit 173, nat_lit 174, nat_lit 180, nat_lit 181, nat_lit 187, nat_lit 188, nat_lit 194, nat_lit 195, nat_lit 199, nat_lit 200, nat_lit 204, nat_lit 205]
theorem kas_eq (P : Params) : kas = (hd.heap_39 P).map (·.1) := by kernel_rfl
abbrev pw : Program := PySem.Challenge.rw_pq0187_01.row.toRowW.prog
theorem leftO_boot {p q : Program} {loose : List Str} {Xt : Shared → Bool} {α : Type} {Yf : Shared → α} {Ya : World → α} {N : Nat} {g0 : Bool}
    (e : opening p = plainProg p.main.scope.names) (hN : Nat.ble 600 N = true) (f : ∀ s, fenceModules? p s = some s)
    (h : ∀ w os, (topFrom treeTable p w N ⟨boot_heap w.params, Array.mk [], boot_drawn, boot_toks, os⟩).map (fun s => (openSeen q loose (importedModules p.main.body) Xt g0 s, Yf s)) = some (openGood q loose, Ya w)) :
    LeftO p q loose Xt Yf Ya N g0 := fun w => by
  obtain ⟨⟨h', gs, d, k, os⟩, e1, e2⟩ := Option.map_eq_some_iff.mp (boot_open e hN f w)
  obtain ⟨rfl, rfl, rfl, rfl⟩ : h' = boot_heap w.params ∧ gs = Array.mk [] ∧ d = boot_drawn ∧ k = boot_toks := by simpa using e2
  unfold openEnds
  rw [e1]
  exact h w os

theorem boot_f1 : opening pw = plainProg pw.main.scope.names := by kernel_rfl
theorem boot_f2 (s : Shared) : fenceModules? pw s = some s := by kernel_rfl
noncomputable abbrev hdX : Shared → Bool := fun s => xlAt hd.view_39 [(Str.ofString "EXP_ONE", WData.tuple [WData.str { cps := #[99, 97, 108, 108] }, WData.str { cps := #[101, 120, 112] }, WData.tuple [WData.tuple [WData.str { cps := #[110, 117, 109] }, WData.int 1, WData.int 1]]]), (Str.ofString "SCALE", WData.int 1000000000000), (Str.ofString "E_BOUNDS", WData.tuple [WData.tuple [WData.int 2718281828459, WData.int 1000000000000], WData.tuple [WData.int 2718281828460, WData.int 1000000000000]]), (Str.ofString "PI_BOUNDS", WData.tuple [WData.tuple [WData.int 3141592653589793238462643383279, WData.int 1000000000000000000000000000000], WData.tuple [WData.int 3141592653589793238462643383280, WData.int 1000000000000000000000000000000]])] s && recOk (RowW.records PySem.Challenge.rw_pq0187_01.row.toRowW) s
theorem hd_run (w : World) (os : OsState) :
    (topFrom treeTable pw w 2436 ⟨boot_heap w.params, Array.mk [], boot_drawn, boot_toks, os⟩).map
      (fun s => (openSeen hd.view_39 [Str.ofString "EXP_ONE", Str.ofString "SCALE", Str.ofString "E_BOUNDS", Str.ofString "PI_BOUNDS"] (importedModules pw.main.body) hdX true s, kas.map s.heap.get?))
    = some (openGood hd.view_39 [Str.ofString "EXP_ONE", Str.ofString "SCALE", Str.ofString "E_BOUNDS", Str.ofString "PI_BOUNDS"], (hd.heap_39 w.params).map fun p => some p.2) := by
  unfold topFrom
  rw [PySem.W.Fast.te14082659384304107361, PySem.W.Fast.te14364793385576792824, PySem.W.Fast.te4187177175401517315]
  kernel_rfl
theorem hd_left : LeftO pw hd.view_39 [Str.ofString "EXP_ONE", Str.ofString "SCALE", Str.ofString "E_BOUNDS", Str.ofString "PI_BOUNDS"] hdX (kHook hd.heap_39 kas kas_eq).obs (kHook hd.heap_39 kas kas_eq).val 2436 :=
  leftO_boot boot_f1 (by decide) boot_f2 hd_run
theorem hd {d : DefRec} {kwd : List (Str × Expr)} (hdef : defOf hd.view_39 PySem.Challenge.rw_pq0187_01.row.name = some (d, kwd))
    (hp : PySem.Challenge.rw_pq0187_01.row.prog.theDef PySem.Challenge.rw_pq0187_01.row.name = some (d.params, d.body, d.scope)) (hk : kwWritten? d.params.kwonlyargs d.params.kw_defaults = some kwd)
    (walk : WalkO hd.view_39 [Str.ofString "EXP_ONE", Str.ofString "SCALE", Str.ofString "E_BOUNDS", Str.ofString "PI_BOUNDS"] (XL hd.view_39 [(Str.ofString "EXP_ONE", WData.tuple [WData.str { cps := #[99, 97, 108, 108] }, WData.str { cps := #[101, 120, 112] }, WData.tuple [WData.tuple [WData.str { cps := #[110, 117, 109] }, WData.int 1, WData.int 1]]]), (Str.ofString "SCALE", WData.int 1000000000000), (Str.ofString "E_BOUNDS", WData.tuple [WData.tuple [WData.int 2718281828459, WData.int 1000000000000], WData.tuple [WData.int 2718281828460, WData.int 1000000000000]]), (Str.ofString "PI_BOUNDS", WData.tuple [WData.tuple [WData.int 3141592653589793238462643383279, WData.int 1000000000000000000000000000000], WData.tuple [WData.int 3141592653589793238462643383280, WData.int 1000000000000000000000000000000]])]) (kHook hd.heap_39 kas kas_eq).says PySem.Challenge.rw_pq0187_01.row.toRowW d kwd fun f vs => PySem.call f vs) : PySem.Challenge.rw_pq0187_01.Holds := by
  o_law
  exact PySem.W.holds_open (r := PySem.Challenge.rw_pq0187_01.row) hd_left (kHook hd.heap_39 kas kas_eq).of (kHook hd.heap_39 kas kas_eq).keeps (fun s e => xl_of s (Bool.and_eq_true_iff.mp e).1) XL.keeps hdef hp hk
      (fun s e => recFacts_of (Bool.and_eq_true_iff.mp e).2) rfl (by assumption) (by decide +kernel) ⟨rfl, rfl, rfl, rfl, rfl, by decide +kernel⟩ ⟨[WData.list []], by decide +kernel, by decide +kernel⟩ walk
section
noncomputable abbrev LO : List Str := looseW hd.view_39 [Str.ofString "EXP_ONE", Str.ofString "SCALE", Str.ofString "E_BOUNDS", Str.ofString "PI_BOUNDS"]
abbrev TopH (mean : ExcName → Option Value) (mg mb : Str → Option Value) (h : Heap) : Prop := Top hd.view_39 LO mean mg mb h

abbrev arnd (dp un : Nat) (fr : List Env) (gd : Option (List Code)) : Around := { handled := none, depth := dp, frames := some fr, guards := gd, units := un }

/-- a call that only makes new objects: its contract -/
def PC (w : World) (mean : ExcName → Option Value) (mg mb : Str → Option Value) (f : Addr) (vs : List Value) (k : Nat) (pre : Heap → Prop) (R : Heap → Heap → Value → Prop) : Prop :=
  ∀ (dp un : Nat) (fr : List Env) (gd : Option (List Code)) (s : Shared) (Q E : Value → Shared → Prop),
    (hd.heap_39 w.params).In s.heap → TopH mean mg mb s.heap → dp + k < recursionLimit → un + 8 * k < cLine → pre s.heap →
    (∀ v h' tk', s.heap.StaysIn h' → R s.heap h' v → Q v { s with heap := h', toks := tk' }) →
    wpAny (model PySem.Challenge.rw_pq0187_01.row.prog w) (arnd dp un fr gd) (call (.ref f) vs) Q E s

def PcEnd (R : Heap → Heap → Value → Prop) (Q : Value → Shared → Prop) (s : Shared) (v : Value) (s' : Shared) : Prop :=
  (∀ v h' tk', s.heap.StaysIn h' → R s.heap h' v → Q v { s with heap := h', toks := tk' }) → Q v s'

theorem pcEnd_of {R : Heap → Heap → Value → Prop} {Q : Value → Shared → Prop} {s : Shared} {v : Value} {L : Addr} {h' : Heap} {tk : Nat} {m : Str → Option Value}
    (F : Fr s.heap L h' m) (r : R s.heap h' v) : PcEnd R Q s v { s with heap := h', toks := tk } := fun hret => hret v h' tk F.keep r

theorem pc_enter {w : World} {mean : ExcName → Option Value} {mg mb : Str → Option Value} {f : Addr} {vs : List Value} {k : Nat} {pre : Heap → Prop} {R : Heap → Heap → Value → Prop}
    {name qual : Str} {params : Arguments} {body : List Stmt} {scope : Scope} {dV kV doc pm cdv ct oc : Value} {an od : Option Addr} {osl : Array (Option Value)} {binds : List (Str × Value)}
    (ho : (hd.heap_39 w.params).lookup f = some ⟨oc, od, .func (fnOf name qual params body scope dV kV doc pm an cdv ct), osl⟩) (hcd : codeIn (hd.heap_39 w.params) cdv qual = true)
    (hk0 : 1 ≤ k)
    (hbind : ∀ s, BindsTo s (fnOf name qual params body scope dV kV doc pm an cdv ct) ⟨vs, []⟩ binds) (hloc : ∀ y ∈ binds, scope.names.lookup y.1 = some .local)
    (h : ∀ (dp un : Nat) (fr : List Env) (gd : Option (List Code)) (s : Shared) (Q : Value → Shared → Prop) (L : Addr) (h₁ : Heap) (tk : Nat),
      Fr s.heap L h₁ (fun y => binds.reverse.lookup y) → News s.heap L h₁ [] → (hd.heap_39 w.params).In s.heap → TopH mean mg mb s.heap → pre s.heap → dp + k < recursionLimit → un + 8 * k < cLine →
      wpAny (model PySem.Challenge.rw_pq0187_01.row.prog w) ((arnd dp un fr gd).deeper (envOf qual scope L f cdv)) (execs body (envOf qual scope L f cdv))
        (fun fl s' => PcEnd R Q s (match fl with | .ret v => v | _ => .none) s')
        (fun _ _ => False)
        { s with heap := h₁, toks := tk })
    (hco : scope.isCoroutine = false) (hgen : scope.isGenerator = false) (hk : scope.kind = .function)
    (hcell : ∀ x ∈ scope.names, x.2 ≠ .cell) : PC w mean mg mb f vs k pre R := by
  intro dp un fr gd s Q E X T hd hu hp hret
  refine wpAny_call ?_
  refine codeAny_call_def (fd := fnOf name qual params body scope dV kV doc pm an cdv ct) (body := body) (binds := binds) (by show dp < recursionLimit; omega) (X _ _ ho) rfl T.nolimit (codeRec_of X hcd) rfl (hbind s) hcell hloc (fun h₁ hns hk₁ => ?_) hco hgen hk
  refine wpAny_mono (h dp un fr gd s Q s.heap.objs.size h₁ (s.toks + binds.length) ⟨hns, hk₁, Nat.le_refl _⟩ News.nil X T hp hd hu) (fun fl s' hl => ?_) (fun _ _ x => x.elim)
  exact hl hret

theorem fr_stays {H h h' : Heap} {L : Addr} {m : Str → Option Value} (F : Fr H L h m) (st : h.StaysIn h') : Fr H L h' m :=
  ⟨F.ns.keeps st, fun b o e => st b o (F.keep b o e), F.above⟩
theorem news_stays {H h h' : Heap} {L : Addr} {news : List (Addr × Obj)} (N : News H L h news) (st : h.StaysIn h') : News H L h' news :=
  fun p hp => ⟨st _ _ (N p hp).1, (N p hp).2⟩

def NewL (H h' : Heap) (l : List (Addr × Obj)) : Prop := ∀ p ∈ l, h'.get? p.1 = some p.2 ∧ H.get? p.1 = none
theorem NewL.nil {H h' : Heap} : NewL H h' [] := fun _ hp => nomatch hp
theorem NewL.cons {H h' : Heap} {L : Addr} {news l : List (Addr × Obj)} {p : Addr × Obj} (N : News H L h' news) (hm : p ∈ news) (r : NewL H h' l) : NewL H h' (p :: l) := by
  intro q hq
  rcases List.mem_cons.mp hq with rfl | hq
  · exact ⟨(N _ hm).1, (N _ hm).2.2⟩
  · exact r q hq
theorem NewL.app {H h h' : Heap} {L : Addr} {m : Str → Option Value} {news l : List (Addr × Obj)} (F : Fr H L h m) (N : News H L h news) (st : h.StaysIn h') (n : NewL h h' l) : News H L h' (l ++ news) := by
  intro p hp
  rcases List.mem_append.mp hp with hp | hp
  · refine ⟨(n p hp).1, fun e => ?_, ?_⟩
    · obtain ⟨oL, _, _, hL, _⟩ := F.ns
      have := (n p hp).2
      rw [e, hL] at this; cases this
    · cases q : H.get? p.1 with
      | none => rfl
      | some o => have := (n p hp).2; rw [F.keep _ _ q] at this; cases this
  · exact news_stays N st p hp

theorem pc_use {w : World} {mean : ExcName → Option Value} {mg mb : Str → Option Value} {f : Addr} {vs : List Value} {k : Nat} {pre : Heap → Prop} {R : Heap → Heap → Value → Prop}
    {dp un : Nat} {fr : List Env} {gd : Option (List Code)} {s : Shared} {Q E : Value → Shared → Prop} {H : Heap} {L : Addr} {m : Str → Option Value} {news : List (Addr × Obj)}
    (C : PC w mean mg mb f vs k pre R) (F : Fr H L s.heap m) (N : News H L s.heap news) (X : (hd.heap_39 w.params).In H) (T : TopH mean mg mb H)
    (hd : dp + k < recursionLimit) (hu : un + 8 * k < cLine) (hp : pre s.heap)
    (ret : ∀ v h' tk', Fr H L h' m → (∀ l, NewL s.heap h' l → News H L h' (l ++ news)) → s.heap.StaysIn h' → R s.heap h' v → Q v { s with heap := h', toks := tk' }) :
    wpAny (model PySem.Challenge.rw_pq0187_01.row.prog w) (arnd dp un fr gd) (call (.ref f) vs) Q E s :=
  C dp un fr gd s Q E (X.keeps F.keep) (T.keeps F.keep) hd hu hp (fun v h' tk' st r => ret v h' tk' (fr_stays F st) (fun _ n => NewL.app F N st n) st r)

/-- an int of modest size -/
def Sz (x : Int) : Prop := Builtin.Int.intBits x ≤ 2 ^ 20
theorem Sz.mul {a b : Int} (ha : Sz a) (hb : Sz b) : IntMulOk a b := IntMulOk.of_bits ha hb

theorem imports_none : importsNone hd.view_39 = true := by decide +kernel
theorem room {w : World} {mean : ExcName → Option Value} {mg mb : Str → Option Value} {dp un : Nat} {fr : List Env} {gd : Option (List Code)} {s : Shared} {H : Heap} {L : Addr} {m : Str → Option Value} {name : Str} {scope : Scope} {L' f : Addr} {cd : Value}
    (F : Fr H L s.heap m) (T : TopH mean mg mb H) (hd : dp + 110 < recursionLimit) (hg : scope.isGenerator = false) (hc : scope.isCoroutine = false) : PySem.PylongRoom (model PySem.Challenge.rw_pq0187_01.row.prog w) ((arnd dp un fr gd).deeper (envOf name scope L' f cd)) s := by
  refine PySem.PylongRoom.of (T.nolimit.keeps F.keep) ?_ (PySem.SeerAt.of ((T.seer imports_none).keeps F.keep) rfl rfl hg hc rfl rfl)
  have e : Builtin.pylongFrames = 100 := rfl
  have e2 : ((arnd dp un fr gd).deeper (envOf name scope L' f cd)).depth = dp + 1 := rfl
  rw [e, e2]; omega
end
section
theorem bits_le {x : Int} {b : Nat} (h : x.natAbs < 2 ^ b) : Builtin.Int.intBits x ≤ b := by
  unfold Builtin.Int.intBits
  split
  · exact Nat.zero_le _
  · rename_i h0
    have h0' : x.natAbs ≠ 0 := by
      intro e; apply h0; simp; omega
    have := (Nat.log2_lt h0').mpr h
    omega
theorem lt_bits {x : Int} {b : Nat} (h : Builtin.Int.intBits x ≤ b) : x.natAbs < 2 ^ b := by
  unfold Builtin.Int.intBits at h
  split at h
  · rename_i h0
    have : x = 0 := by simpa using h0
    subst this
    exact Nat.two_pow_pos b
  · rename_i h0
    have h0' : x.natAbs ≠ 0 := by
      intro e; apply h0; simp; omega
    exact (Nat.log2_lt h0').mp (by omega)
theorem bits_mono {x y : Int} (h : x.natAbs ≤ y.natAbs) : Builtin.Int.intBits x ≤ Builtin.Int.intBits y :=
  bits_le (Nat.lt_of_le_of_lt h (lt_bits (Nat.le_refl _)))
theorem Sz.of_le {x y : Int} (hy : Sz y) (h : x.natAbs ≤ y.natAbs) : Sz x := Nat.le_trans (bits_mono h) hy
theorem sz_of {x : Int} {b : Nat} (hb : b ≤ 2 ^ 20) (h : x.natAbs < 2 ^ b) : Sz x := Nat.le_trans (bits_le h) hb
end
theorem fill_goal_Gcd : hd.heap_39 = hd.heap_39 ∧ PySem.Challenge.rw_pq0187_01 = PySem.Challenge.rw_pq0187_01 := by
  k_fill
  exact ⟨rfl, rfl⟩
local macro_rules | `(tactic| walk_at "binaryOp FloorDiv int int") => `(tactic| (k_here; refine floordiv_int ?kb ?_ (Or.inr (room (by k_asm) (by k_asm) (by omega) rfl rfl)); (case kb => first | assumption | omega | decide | k_extra "ne")))
local macro_rules | `(tactic| walk_at "binaryOp Mod int int") => `(tactic| (k_here; refine mod_int' ?kb ?_; (case kb => first | assumption | omega | decide | k_extra "ne")))
local macro_rules | `(tactic| walk_at "binaryOp Mult int int") => `(tactic| (k_here; refine mul_int ?_ ?kb; (case kb => first | exact Sz.mul (by assumption) (by assumption) | mul_fits)))
local macro_rules | `(tactic| walk_at "PcEnd") => `(tactic| (refine pcEnd_of (by k_asm) ?_; (try dsimp only); first | done | k_dflt (k_extra "pcend")))
local macro_rules | `(tactic| walk_at "exec While Compare cons nil") => `(tactic| (k_here; k_extra "while"))
local macro_rules | `(tactic| walk_at "binaryOp Pow int int") => `(tactic| (k_here; refine pow_int ?ka ?kb ?_; (case ka => first | omega | decide); (case kb => first | k_extra "pow" | decide)))
local macro_rules | `(tactic| walk_at "call ref") => `(tactic| (k_here; k_dflt (k_extra "callpc")))
local macro_rules | `(tactic| walk_at "ite") => `(tactic| (k_here; k_openite; first | refine ite_pos (by first | with_reducible assumption | omega | ((simp only [decide_eq_true_eq, beq_iff_eq, bne_iff_ne, ne_eq]); omega)) ?_ | refine ite_neg (by first | with_reducible assumption | omega | ((simp only [decide_eq_true_eq, beq_iff_eq, bne_iff_ne, ne_eq]); omega)) ?_))
local macro_rules | `(tactic| walk_at "exec For Name Name cons nil") => `(tactic| (k_here; k_dflt (k_extra "for")))
local macro_rules | `(tactic| walk_at "pyIter ref") => `(tactic| (k_here; k_dflt (k_extra "pyiter")))
local macro_rules | `(tactic| walk_at "InvEnd") => `(tactic| (k_dflt (k_extra "inv")))
local macro_rules | `(tactic| walk_at "subscriptTail") => `(tactic| (k_here; k_dflt (k_extra "sub")))
local macro_rules | `(tactic| walk_at "eval ListComp") => `(tactic| (k_here; k_dflt (k_extra "comp")))
local macro_rules | `(tactic| walk_at "TurnEnd") => `(tactic| (k_dflt (k_extra "turnend")))
local macro_rules | `(tactic| walk_at "eval Name") => `(tactic| (k_here; k_dflt (k_extra "nm")))
local macro_rules | `(tactic| walk_at "compareOp Eq ref ref") => `(tactic| (k_here; k_dflt (k_extra "eq")))
local macro_rules | `(tactic| walk_at "exec For Name Subscript cons nil") => `(tactic| (k_here; k_dflt (k_extra "for")))
local macro_rules | `(tactic| walk_at "TPost") => `(tactic| (dsimp only [TPost]))
local macro_rules | `(tactic| walk_at "TEnd") => `(tactic| (k_dflt (k_extra "tend")))
local macro_rules | `(tactic| walk_at "call type:list") => `(tactic| (k_here; k_dflt (k_extra "list")))
local macro_rules | `(tactic| walk_at "McEnd") => `(tactic| (refine mcEnd_of (by k_asm) (by k_asm) (by k_mem) ?_; (try dsimp only); k_dflt (k_extra "mcend")))
section
theorem gcd_step {a b : Int} (ha : 0 ≤ a) (hb : 0 ≤ b) : Int.gcd b (a.fmod b) = Int.gcd a b := by
  rw [Int.fmod_eq_emod_of_nonneg _ hb]
  obtain ⟨n, rfl⟩ := Int.eq_ofNat_of_zero_le ha
  obtain ⟨k, rfl⟩ := Int.eq_ofNat_of_zero_le hb
  show Nat.gcd k ((n : Int) % (k : Int)).natAbs = Nat.gcd n k
  rw [← Int.natCast_emod, Int.natAbs_natCast, Nat.gcd_comm n k, Nat.gcd_comm k (n % k)]
  exact (Nat.gcd_rec k n).symm
theorem gcd_start (x y : Int) : 0 ≤ (if x < 0 then -x else x) ∧ 0 ≤ (if y < 0 then -y else y) ∧ Int.gcd (if x < 0 then -x else x) (if y < 0 then -y else y) = Int.gcd x y := by
  refine ⟨by split <;> omega, by split <;> omega, ?_⟩
  split <;> split <;> simp
theorem gcd_word {x y a b : Int} (ha : 0 ≤ a) (h1 : 0 ≤ b) (h2 : Int.gcd a b = Int.gcd x y) (h0 : b ≠ 0) : 0 ≤ b ∧ 0 ≤ a.fmod b ∧ Int.gcd b (a.fmod b) = Int.gcd x y :=
  ⟨h1, by rw [Int.fmod_eq_emod_of_nonneg _ h1]; exact Int.emod_nonneg _ h0, (gcd_step ha h1).trans h2⟩
theorem gcd_less {a b : Int} (h1 : 0 ≤ b) (h0 : b ≠ 0) : (a.fmod b).toNat < b.toNat := by
  rw [Int.fmod_eq_emod_of_nonneg _ h1]
  have := Int.emod_lt_of_pos a (by omega : 0 < b)
  have := Int.emod_nonneg a h0
  omega
theorem gcd_end {x y a b : Int} {t : Tok} (ha : 0 ≤ a) (h2 : Int.gcd a b = Int.gcd x y) (h0 : b = 0) : ∃ u, Value.int a t = Value.int (Int.gcd x y) u := by
  subst h0
  refine ⟨t, ?_⟩
  rw [← h2]
  simp
  omega

set_option maxHeartbeats 8000000 in
theorem gcd_pc {w mean mg mb} (x y : Int) (t u : Tok) :
    PC w mean mg mb 21 [.int x t, .int y u] 1 (fun _ => True) (fun _ _ v => ∃ t, v = .int (Int.gcd x y) t) := by
  k_with_none
  k_with "while" => k_while (fun _ a b => 0 ≤ a ∧ 0 ≤ b ∧ Int.gcd a b = Int.gcd x y) (fun _ a b => b.toNat) "a" "b"
  k_with "state" => (first | exact gcd_start _ _ | exact gcd_word (by assumption) (by assumption) (by assumption) (by assumption))
  k_with "measure" => exact gcd_less (by assumption) (by assumption)
  k_with "pcend" => exact gcd_end (by assumption) (by assumption) (by assumption)
  refine' pc_enter (binds := [(Str.ofString "a", .int x t), (Str.ofString "b", .int y u)]) ?k1 ?k2 ?k3 ?k4 ?k5 ?_ ?c2 ?c3 ?c4 ?c5
  case k1 => k_dflt k_is
  case k2 => k_dflt k_is
  case k3 => decide
  case k4 => intro s; exact BindsTo.of_eq rfl
  case k5 => exact locs rfl
  case c2 => exact rfl
  case c3 => exact rfl
  case c4 => exact rfl
  case c5 => decide
  intro dp un fr gd s Q L h₁ tk F N X T hp hd hu
  try dsimp only
  k_fold
  repeat' (first | (k_unfold; (try dsimp only)) | walk1 | (dsimp only; walk1) | (dsimp only; k_unfold; (try dsimp only)) | (leave1; walk_say "STEP leave1"; try dsimp only) | fail "no step")
end
section
theorem pow_le_self {a : Int} {e : Nat} (ha : 1 ≤ a) (he : e ≠ 0) : a ≤ a ^ e := by
  obtain ⟨d, rfl⟩ : ∃ d, e = d + 1 := ⟨e - 1, by omega⟩
  rw [Int.pow_succ]
  have h1 : 1 ≤ a ^ d := by
    have : 0 < a ^ d := Int.pow_pos (by omega)
    omega
  have := Int.mul_le_mul h1 (Int.le_refl a) (by omega) (by omega)
  simpa using this
theorem zero_pow_ne {e : Nat} (he : e ≠ 0) : (0 : Int) ^ e = 0 := by
  obtain ⟨d, rfl⟩ : ∃ d, e = d + 1 := ⟨e - 1, by omega⟩
  simp [Int.pow_succ]

def RootA (n k low high : Int) : Prop := 0 ≤ low ∧ low < high ∧ low ^ k.toNat ≤ n ∧ high ≤ 2 * n + 1
def RootB (n k low high : Int) : Prop := RootA n k low high ∧ n < high ^ k.toNat
theorem rootA_start {n k : Int} (hn : 0 ≤ n) (hk : 1 ≤ k) : RootA n k 0 1 := ⟨by omega, by omega, by rw [zero_pow_ne (by omega)]; exact hn, by omega⟩
theorem rootA_high {n k low high : Int} (hk : 1 ≤ k) (h : RootA n k low high) (hc : high ^ k.toNat ≤ n) : high ≤ n := by
  have := pow_le_self (a := high) (e := k.toNat) (by have := h.1; have := h.2.1; omega) (by omega)
  omega
theorem rootA_turn {n k low high : Int} (hk : 1 ≤ k) (h : RootA n k low high) (hc : high ^ k.toNat ≤ n) : RootA n k high (2 * high) := by
  have h1 := rootA_high hk h hc
  obtain ⟨a, b, c, d⟩ := h
  exact ⟨by omega, by omega, hc, by omega⟩
theorem rootA_less {n k low high : Int} (hk : 1 ≤ k) (h : RootA n k low high) (hc : high ^ k.toNat ≤ n) : (n + 1 - high).toNat < (n + 1 - low).toNat := by
  have h1 := rootA_high hk h hc
  obtain ⟨a, b, c, d⟩ := h
  omega
theorem rootB_start {n k low high : Int} (h : RootA n k low high) (hc : ¬ high ^ k.toNat ≤ n) : RootB n k low high := ⟨h, by omega⟩
theorem rootB_low {n k low high : Int} (h : RootB n k low high) (hg : high - low > 1) (hc : ((low + high).fdiv 2) ^ k.toNat ≤ n) : RootB n k ((low + high).fdiv 2) high := by
  obtain ⟨⟨a, b, c, d⟩, f⟩ := h
  rw [Int.fdiv_eq_ediv_of_nonneg _ (by omega)] at hc ⊢
  exact ⟨⟨by omega, by omega, hc, d⟩, f⟩
theorem rootB_high {n k low high : Int} (h : RootB n k low high) (hg : high - low > 1) (hc : ¬ ((low + high).fdiv 2) ^ k.toNat ≤ n) : RootB n k low ((low + high).fdiv 2) := by
  obtain ⟨⟨a, b, c, d⟩, f⟩ := h
  rw [Int.fdiv_eq_ediv_of_nonneg _ (by omega)] at hc ⊢
  exact ⟨⟨a, by omega, c, by omega⟩, by omega⟩
theorem rootB_lessL {n k low high : Int} (h : RootB n k low high) (hg : high - low > 1) : (high - (low + high).fdiv 2).toNat < (high - low).toNat := by
  rw [Int.fdiv_eq_ediv_of_nonneg _ (by omega)]; omega
theorem rootB_lessH {n k low high : Int} (h : RootB n k low high) (hg : high - low > 1) : ((low + high).fdiv 2 - low).toNat < (high - low).toNat := by
  rw [Int.fdiv_eq_ediv_of_nonneg _ (by omega)]; omega
def IsRoot (n k r : Int) : Prop := 0 ≤ r ∧ r ^ k.toNat ≤ n ∧ n < (r + 1) ^ k.toNat
theorem rootB_end {n k low high : Int} {t : Tok} (h : RootB n k low high) (hg : ¬ high - low > 1) : ∃ r u, Value.int low t = Value.int r u ∧ IsRoot n k r := by
  obtain ⟨⟨a, b, c, d⟩, f⟩ := h
  have e : high = low + 1 := by omega
  subst e
  exact ⟨low, t, rfl, a, c, f⟩
set_option exponentiation.threshold 2000000 in
theorem root_pow {n k x : Int} (hs : Sz n) (hk : 1 ≤ k) (hk2 : k ≤ 64) (h0 : 0 ≤ x) (h1 : x ≤ 2 * n + 1) (hn : 0 ≤ n) : (Builtin.Int.intBits x : Int) * k ≤ 2 ^ 27 := by
  have hb : Builtin.Int.intBits x ≤ 2 ^ 20 + 1 := by
    have h2 : n.natAbs < 2 ^ (2 ^ 20) := lt_bits hs
    refine bits_le ?_
    rw [Nat.pow_succ]
    generalize 2 ^ (2 ^ 20) = X at h2 ⊢
    omega
  have h3 : (Builtin.Int.intBits x : Int) ≤ 1048577 := by
    have e : (2 : Nat) ^ 20 = 1048576 := by decide
    omega
  have h4 := Int.mul_le_mul h3 hk2 (by omega) (by omega)
  have e : (2 : Int) ^ 27 = 134217728 := by decide
  omega
theorem root_powA {n k low high : Int} (hs : Sz n) (hk : 1 ≤ k) (hk2 : k ≤ 64) (hn : 0 ≤ n) (h : RootA n k low high) : (Builtin.Int.intBits high : Int) * k ≤ 2 ^ 27 :=
  root_pow hs hk hk2 (by have := h.1; have := h.2.1; omega) h.2.2.2 hn
theorem root_powB {n k low high : Int} (hs : Sz n) (hk : 1 ≤ k) (hk2 : k ≤ 64) (hn : 0 ≤ n) (h : RootB n k low high) : (Builtin.Int.intBits ((low + high).fdiv 2) : Int) * k ≤ 2 ^ 27 := by
  obtain ⟨⟨a, b, c, d⟩, f⟩ := h
  refine root_pow hs hk hk2 ?_ ?_ hn <;> (rw [Int.fdiv_eq_ediv_of_nonneg _ (by omega)]; omega)

set_option maxHeartbeats 8000000 in
theorem root_pc {w mean mg mb} (n k : Int) (t u : Tok) (hn : 0 ≤ n) (hk : 1 ≤ k) (hk2 : k ≤ 64) (hs : Sz n) :
    PC w mean mg mb 28 [.int n t, .int k u] 120 (fun _ => True) (fun _ _ v => ∃ r t, v = .int r t ∧ IsRoot n k r) := by
  k_with_none
  k_with "while" => k_while (fun _ low high => RootA n k low high) (fun _ low high => (n + 1 - low).toNat) "low" "high"
  k_with "while" => k_while (fun _ low high => RootB n k low high) (fun _ low high => (high - low).toNat) "low" "high"
  k_with "state" => (first | exact rootB_start (by assumption) (by first | assumption | omega) | exact rootA_start hn hk | exact rootA_turn hk (by assumption) (by first | assumption | omega) | exact rootB_low (by assumption) (by first | assumption | omega) (by first | assumption | omega) | exact rootB_high (by assumption) (by first | assumption | omega) (by first | assumption | omega))
  k_with "measure" => first | exact rootA_less hk (by assumption) (by first | assumption | omega) | exact rootB_lessL (by assumption) (by first | assumption | omega) | exact rootB_lessH (by assumption) (by first | assumption | omega)
  k_with "pcend" => exact rootB_end (by assumption) (by first | assumption | omega)
  k_with "pow" => first | exact root_powA hs hk hk2 hn (by assumption) | exact root_powB hs hk hk2 hn (by assumption)
  refine' pc_enter (binds := [(Str.ofString "n", .int n t), (Str.ofString "k", .int k u)]) ?k1 ?k2 ?k3 ?k4 ?k5 ?_ ?c2 ?c3 ?c4 ?c5
  case k1 => k_dflt k_is
  case k2 => k_dflt k_is
  case k3 => decide
  case k4 => intro s; exact BindsTo.of_eq rfl
  case k5 => exact locs rfl
  case c2 => exact rfl
  case c3 => exact rfl
  case c4 => exact rfl
  case c5 => decide
  intro dp un fr gd s Q L h₁ tk F N X T hp hd hu
  try dsimp only
  k_fold
  repeat' (first | (k_unfold; (try dsimp only)) | walk1 | (dsimp only; walk1) | (dsimp only; k_unfold; (try dsimp only)) | (leave1; walk_say "STEP leave1"; try dsimp only) | fail "no step")
end
section
@[irreducible] def ratG (a b : Int) : Int := if b > 0 then (Int.gcd a b : Int) else 0 - (Int.gcd a b : Int)
@[irreducible] def ratP (a b : Int) : Int := a.fdiv (ratG a b)
@[irreducible] def ratQ (a b : Int) : Int := b.fdiv (ratG a b)
theorem gcd_ne {a b : Int} (hb : b ≠ 0) : (Int.gcd a b : Int) ≠ 0 := by
  intro h
  have h1 : Int.gcd a b = 0 := by omega
  exact hb (Int.gcd_eq_zero_iff.mp h1).2
theorem gcd_neN {a b : Int} (hb : b ≠ 0) : 0 - (Int.gcd a b : Int) ≠ 0 := by
  have := gcd_ne (a := a) hb
  omega
/-- a new pair of two ints -/
def Tup2 (H h' : Heap) (v : Value) (p q : Int) : Prop := ∃ D t1 t2, v = .ref D ∧ NewL H h' [(D, ({ cls := .type "tuple", data := .seq #[.int p t1, .int q t2] } : Obj))]
theorem tup2_end {H h' : Heap} {L D : Addr} {news : List (Addr × Obj)} {p q p' q' : Int} {t1 t2 : Tok} (N : News H L h' news)
    (hm : (D, ({ cls := .type "tuple", data := .seq #[.int p' t1, .int q' t2] } : Obj)) ∈ news) (hp : p' = p) (hq : q' = q) : Tup2 H h' (.ref D) p q := by
  subst hp; subst hq
  exact ⟨D, t1, t2, rfl, .cons N hm .nil⟩
theorem ratP_pos {a b : Int} (h : b > 0) : a.fdiv (Int.gcd a b : Int) = ratP a b := by unfold ratP ratG; rw [if_pos h]
theorem ratQ_pos {a b : Int} (h : b > 0) : b.fdiv (Int.gcd a b : Int) = ratQ a b := by unfold ratQ ratG; rw [if_pos h]
theorem ratP_neg {a b : Int} (h : ¬ b > 0) : a.fdiv (0 - (Int.gcd a b : Int)) = ratP a b := by unfold ratP ratG; rw [if_neg h]
theorem ratQ_neg {a b : Int} (h : ¬ b > 0) : b.fdiv (0 - (Int.gcd a b : Int)) = ratQ a b := by unfold ratQ ratG; rw [if_neg h]

set_option maxHeartbeats 8000000 in
theorem rat_pc {w mean mg mb} (a b : Int) (t u : Tok) (hb : b ≠ 0) :
    PC w mean mg mb 57 [.int a t, .int b u] 120 (fun _ => True) (fun H h' v => Tup2 H h' v (ratP a b) (ratQ a b)) := by
  k_with_none
  k_with "callpc" => ((rename News _ _ _ _ => pN'); refine' pc_use (gcd_pc _ _ _ _) ?pF pN' ?pX ?pT ?pd ?pu ?pp ?_; (case pF => k_asm); (case pX => k_asm); (case pT => k_asm); (case pd => ((try dsimp only [arnd, Around.deeper]); omega)); (case pu => ((try dsimp only [arnd, Around.deeper]); omega)); (case pp => trivial); clear pN'; intro v' h' tk' F' G' st' r'; (obtain ⟨t', rfl⟩ := r'; have N' := G' [] NewL.nil; clear G'; (try simp only [List.nil_append] at N')); (try k_sweep))
  k_with "ne" => first | exact gcd_ne hb | exact gcd_neN hb
  k_with "pcend" => first | exact tup2_end (by k_asm) (by k_mem) (ratP_pos (by omega)) (ratQ_pos (by omega)) | exact tup2_end (by k_asm) (by k_mem) (ratP_neg (by omega)) (ratQ_neg (by omega))
  refine' pc_enter (binds := [(Str.ofString "top", .int a t), (Str.ofString "bottom", .int b u)]) ?k1 ?k2 ?k3 ?k4 ?k5 ?_ ?c2 ?c3 ?c4 ?c5
  case k1 => k_dflt k_is
  case k2 => k_dflt k_is
  case k3 => decide
  case k4 => intro s; exact BindsTo.of_eq rfl
  case k5 => exact locs rfl
  case c2 => exact rfl
  case c3 => exact rfl
  case c4 => exact rfl
  case c5 => decide
  intro dp un fr gd s Q L h₁ tk F N X T hp hd hu
  try dsimp only
  k_fold
  repeat' (first | (k_unfold; (try dsimp only)) | walk1 | (dsimp only; walk1) | (dsimp only; k_unfold; (try dsimp only)) | (leave1; walk_say "STEP leave1"; try dsimp only) | fail "no step")

def Pair (h : Heap) (A : Addr) (p q : Int) : Prop := ∃ t u, IsTup h A #[.int p t, .int q u]
theorem Pair.keeps {h h' : Heap} {A : Addr} {p q : Int} (x : Pair h A p q) (k : ∀ b o, h.get? b = some o → h'.get? b = some o) : Pair h' A p q := by
  obtain ⟨t, u, x⟩ := x
  exact ⟨t, u, IsTup.keeps x k⟩
theorem Pair.ofNews {H h : Heap} {L A : Addr} {news : List (Addr × Obj)} {p q : Int} {t u : Tok} (N : News H L h news) (hm : (A, ({ cls := .type "tuple", data := .seq #[.int p t, .int q u] } : Obj)) ∈ news) : Pair h A p q :=
  ⟨t, u, News.isTup N hm⟩
end
section
set_option maxHeartbeats 8000000 in
theorem radd_pc {w mean mg mb} (A B : Addr) (a0 a1 b0 b1 : Int) (ha0 : Sz a0) (ha1 : Sz a1) (hb0 : Sz b0) (hb1 : Sz b1) (hne : a1 * b1 ≠ 0) :
    PC w mean mg mb 64 [.ref A, .ref B] 130 (fun h => Pair h A a0 a1 ∧ Pair h B b0 b1) (fun H h' v => Tup2 H h' v (ratP (a0 * b1 + b0 * a1) (a1 * b1)) (ratQ (a0 * b1 + b0 * a1) (a1 * b1))) := by
  k_with_none
  k_with "callpc" => ((rename News _ _ _ _ => pN'); refine' pc_use (rat_pc _ _ _ _ hne) ?pF pN' ?pX ?pT ?pd ?pu ?pp ?_; (case pF => k_asm); (case pX => k_asm); (case pT => k_asm); (case pd => ((try dsimp only [arnd, Around.deeper]); omega)); (case pu => ((try dsimp only [arnd, Around.deeper]); omega)); (case pp => trivial); clear pN'; intro v' h' tk' F' G' st' r'; (obtain ⟨D', t1', t2', rfl, nw'⟩ := r'; have N' := G' _ nw'; (try simp only [List.cons_append, List.nil_append] at N'); clear G' nw'); (try k_sweep))
  k_with "pcend" => exact tup2_end (by k_asm) (by k_mem) rfl rfl
  refine' pc_enter (binds := [(Str.ofString "a", .ref A), (Str.ofString "b", .ref B)]) ?k1 ?k2 ?k3 ?k4 ?k5 ?_ ?c2 ?c3 ?c4 ?c5
  case k1 => k_dflt k_is
  case k2 => k_dflt k_is
  case k3 => decide
  case k4 => intro s; exact BindsTo.of_eq rfl
  case k5 => exact locs rfl
  case c2 => exact rfl
  case c3 => exact rfl
  case c4 => exact rfl
  case c5 => decide
  intro dp un fr gd s Q L h₁ tk F N X T hp hd hu
  try dsimp only
  k_fold
  obtain ⟨⟨t0, t1, hpA⟩, ⟨u0, u1, hpB⟩⟩ := hp
  repeat' (first | (k_unfold; (try dsimp only)) | walk1 | (dsimp only; walk1) | (dsimp only; k_unfold; (try dsimp only)) | (leave1; walk_say "STEP leave1"; try dsimp only) | fail "no step")

set_option maxHeartbeats 8000000 in
theorem rmul_pc {w mean mg mb} (A B : Addr) (a0 a1 b0 b1 : Int) (ha0 : Sz a0) (ha1 : Sz a1) (hb0 : Sz b0) (hb1 : Sz b1) (hne : a1 * b1 ≠ 0) :
    PC w mean mg mb 71 [.ref A, .ref B] 130 (fun h => Pair h A a0 a1 ∧ Pair h B b0 b1) (fun H h' v => Tup2 H h' v (ratP (a0 * b0) (a1 * b1)) (ratQ (a0 * b0) (a1 * b1))) := by
  k_with_none
  k_with "callpc" => ((rename News _ _ _ _ => pN'); refine' pc_use (rat_pc _ _ _ _ hne) ?pF pN' ?pX ?pT ?pd ?pu ?pp ?_; (case pF => k_asm); (case pX => k_asm); (case pT => k_asm); (case pd => ((try dsimp only [arnd, Around.deeper]); omega)); (case pu => ((try dsimp only [arnd, Around.deeper]); omega)); (case pp => trivial); clear pN'; intro v' h' tk' F' G' st' r'; (obtain ⟨D', t1', t2', rfl, nw'⟩ := r'; have N' := G' _ nw'; (try simp only [List.cons_append, List.nil_append] at N'); clear G' nw'); (try k_sweep))
  k_with "pcend" => exact tup2_end (by k_asm) (by k_mem) rfl rfl
  refine' pc_enter (binds := [(Str.ofString "a", .ref A), (Str.ofString "b", .ref B)]) ?k1 ?k2 ?k3 ?k4 ?k5 ?_ ?c2 ?c3 ?c4 ?c5
  case k1 => k_dflt k_is
  case k2 => k_dflt k_is
  case k3 => decide
  case k4 => intro s; exact BindsTo.of_eq rfl
  case k5 => exact locs rfl
  case c2 => exact rfl
  case c3 => exact rfl
  case c4 => exact rfl
  case c5 => decide
  intro dp un fr gd s Q L h₁ tk F N X T hp hd hu
  try dsimp only
  k_fold
  obtain ⟨⟨t0, t1, hpA⟩, ⟨u0, u1, hpB⟩⟩ := hp
  repeat' (first | (k_unfold; (try dsimp only)) | walk1 | (dsimp only; walk1) | (dsimp only; k_unfold; (try dsimp only)) | (leave1; walk_say "STEP leave1"; try dsimp only) | fail "no step")

set_option maxHeartbeats 8000000 in
theorem rdiv_pc {w mean mg mb} (A B : Addr) (a0 a1 b0 b1 : Int) (ha0 : Sz a0) (ha1 : Sz a1) (hb0 : Sz b0) (hb1 : Sz b1) (hne : a1 * b0 ≠ 0) :
    PC w mean mg mb 78 [.ref A, .ref B] 130 (fun h => Pair h A a0 a1 ∧ Pair h B b0 b1) (fun H h' v => Tup2 H h' v (ratP (a0 * b1) (a1 * b0)) (ratQ (a0 * b1) (a1 * b0))) := by
  k_with_none
  k_with "callpc" => ((rename News _ _ _ _ => pN'); refine' pc_use (rat_pc _ _ _ _ hne) ?pF pN' ?pX ?pT ?pd ?pu ?pp ?_; (case pF => k_asm); (case pX => k_asm); (case pT => k_asm); (case pd => ((try dsimp only [arnd, Around.deeper]); omega)); (case pu => ((try dsimp only [arnd, Around.deeper]); omega)); (case pp => trivial); clear pN'; intro v' h' tk' F' G' st' r'; (obtain ⟨D', t1', t2', rfl, nw'⟩ := r'; have N' := G' _ nw'; (try simp only [List.cons_append, List.nil_append] at N'); clear G' nw'); (try k_sweep))
  k_with "pcend" => exact tup2_end (by k_asm) (by k_mem) rfl rfl
  refine' pc_enter (binds := [(Str.ofString "a", .ref A), (Str.ofString "b", .ref B)]) ?k1 ?k2 ?k3 ?k4 ?k5 ?_ ?c2 ?c3 ?c4 ?c5
  case k1 => k_dflt k_is
  case k2 => k_dflt k_is
  case k3 => decide
  case k4 => intro s; exact BindsTo.of_eq rfl
  case k5 => exact locs rfl
  case c2 => exact rfl
  case c3 => exact rfl
  case c4 => exact rfl
  case c5 => decide
  intro dp un fr gd s Q L h₁ tk F N X T hp hd hu
  try dsimp only
  k_fold
  obtain ⟨⟨t0, t1, hpA⟩, ⟨u0, u1, hpB⟩⟩ := hp
  repeat' (first | (k_unfold; (try dsimp only)) | walk1 | (dsimp only; walk1) | (dsimp only; k_unfold; (try dsimp only)) | (leave1; walk_say "STEP leave1"; try dsimp only) | fail "no step")

@[irreducible] def cmpR (a0 a1 b0 b1 : Int) : Int := b2i (decide (0 < a0 * b1 - b0 * a1)) - b2i (decide (a0 * b1 - b0 * a1 < 0))
set_option maxHeartbeats 8000000 in
theorem rcompare_pc {w mean mg mb} (A B : Addr) (a0 a1 b0 b1 : Int) (ha0 : Sz a0) (ha1 : Sz a1) (hb0 : Sz b0) (hb1 : Sz b1) :
    PC w mean mg mb 85 [.ref A, .ref B] 10 (fun h => Pair h A a0 a1 ∧ Pair h B b0 b1) (fun H h' v => ∃ t, v = .int (cmpR a0 a1 b0 b1) t) := by
  k_with_none
  k_with "pcend" => ((try unfold cmpR); exact ⟨_, rfl⟩)
  refine' pc_enter (binds := [(Str.ofString "a", .ref A), (Str.ofString "b", .ref B)]) ?k1 ?k2 ?k3 ?k4 ?k5 ?_ ?c2 ?c3 ?c4 ?c5
  case k1 => k_dflt k_is
  case k2 => k_dflt k_is
  case k3 => decide
  case k4 => intro s; exact BindsTo.of_eq rfl
  case k5 => exact locs rfl
  case c2 => exact rfl
  case c3 => exact rfl
  case c4 => exact rfl
  case c5 => decide
  intro dp un fr gd s Q L h₁ tk F N X T hp hd hu
  try dsimp only
  k_fold
  obtain ⟨⟨t0, t1, hpA⟩, ⟨u0, u1, hpB⟩⟩ := hp
  repeat' (first | (k_unfold; (try dsimp only)) | walk1 | (dsimp only; walk1) | (dsimp only; k_unfold; (try dsimp only)) | (leave1; walk_say "STEP leave1"; try dsimp only) | fail "no step")

set_option maxHeartbeats 8000000 in
theorem rfloor_pc {w mean mg mb} (A : Addr) (p q : Int) (hq : q ≠ 0) :
    PC w mean mg mb 92 [.ref A] 120 (fun h => Pair h A p q) (fun _ _ v => ∃ t, v = .int (p.fdiv q) t) := by
  k_with_none
  k_with "pcend" => ((try unfold cmpR); exact ⟨_, rfl⟩)
  refine' pc_enter (binds := [(Str.ofString "a", .ref A)]) ?k1 ?k2 ?k3 ?k4 ?k5 ?_ ?c2 ?c3 ?c4 ?c5
  case k1 => k_dflt k_is
  case k2 => k_dflt k_is
  case k3 => decide
  case k4 => intro s; exact BindsTo.of_eq rfl
  case k5 => exact locs rfl
  case c2 => exact rfl
  case c3 => exact rfl
  case c4 => exact rfl
  case c5 => decide
  intro dp un fr gd s Q L h₁ tk F N X T hp hd hu
  try dsimp only
  k_fold
  obtain ⟨t1, t2, hp⟩ := hp
  repeat' (first | (k_unfold; (try dsimp only)) | walk1 | (dsimp only; walk1) | (dsimp only; k_unfold; (try dsimp only)) | (leave1; walk_say "STEP leave1"; try dsimp only) | fail "no step")
end
section
theorem iter_vals {w : World} {A : Around} {E : Value → Shared → Prop} {s : Shared} {env : Env} {H : Heap} {x : Str} {body : List Stmt} {Q : Flow → Shared → Prop} {l : Addr} {vs : List Value} {m₀ : Str → Option Value} {news : List (Addr × Obj)}
    (J : Nat → (Str → Option Value) → Prop)
    (hh : A.handled = none) (hl : H.IsList l vs.toArray) (F : Fr H env.locals s.heap m₀) (N : News H env.locals s.heap news) (hj : J 0 m₀)
    (turn : ∀ i v m₁ h tk own, vs[i]? = some v → J i m₁ → Fr H env.locals h (fun y => if y = x then some v else m₁ y) → News H env.locals h (own ++ news) →
      wpAny (model PySem.Challenge.rw_pq0187_01.row.prog w) A (execs body env) (InvPost H env.locals (J (i + 1)) (own ++ news) { s with heap := h, toks := tk } Q) E { s with heap := h, toks := tk })
    (done : ∀ m₁ h tk, J vs.length m₁ → Fr H env.locals h m₁ → News H env.locals h news → Q .next { s with heap := h, toks := tk }) :
    wpAny (model PySem.Challenge.rw_pq0187_01.row.prog w) A (pyIter (.ref l)) (fun it s₂ => LoopAtV PySem.Challenge.rw_pq0187_01.row.prog w A H env x body Q E it s₂) E s := by
  have hls : s.heap.IsList l vs.toArray := hl.at fun o e => F.keep l o e
  obtain ⟨ol, hol, _⟩ := id hl
  have hlt : l < s.heap.objs.size := Nat.lt_trans (Nat.lt_of_lt_of_le (Heap.lt_size hol) F.above) F.ns.lt
  have W := Walks.list (prog := PySem.Challenge.rw_pq0187_01.row.prog) (w := w) hh s.heap.objs.size l (Nat.ne_of_lt hlt) vs.toArray
  rw [List.size_toArray] at W
  refine wpAny_pyIter_list hls ⟨_, _, _, vs.length, _, _, m₀, news, fun i m₁ n₁ => n₁ = news ∧ J i m₁, rfl, W, ?_, ?_, ?_, ⟨⟨_, Heap.get?_push_size _ rfl, rfl, rfl⟩, hls.at fun o e => Heap.get?_push_of_some _ e⟩, F.push _, (fun p hp => ⟨Heap.get?_push_of_some _ (N p hp).1, (N p hp).2⟩), ⟨rfl, hj⟩, ?_, ?_⟩
  · intro hm
    rcases List.mem_cons.mp hm with e | hm
    · exact absurd F.ns.lt (e ▸ Nat.lt_irrefl _)
    · exact absurd (Nat.lt_of_lt_of_le (Heap.lt_size hol) F.above) ((List.mem_singleton.mp hm) ▸ Nat.lt_irrefl _)
  · intro b hb
    rw [List.mem_singleton.mp hb]
    exact next_is_new F
  · intro p hp hI
    exact absurd (Heap.lt_size (N p hp).1) ((List.mem_singleton.mp hI) ▸ Nat.lt_irrefl _)
  · rintro i v m₁ n₁ s₁ own ⟨hh', tk', rfl⟩ hin hP ⟨rfl, hJ⟩ hoff _ _ _ _ F₁ N₁
    refine wpAny_mono (turn i v m₁ hh' tk' own (by simpa using hP) hJ F₁ N₁) (fun f s₂ p => ?_) fun _ _ e => e
    have fin : InvEnd H env.locals (J (i + 1)) (own ++ n₁) { s with heap := hh', toks := tk' } s₂ → LoopStepU H env.locals [s.heap.objs.size] own (fun m₁ n₂ => n₂ = n₁ ∧ J (i + 1) m₁) { s with heap := hh', toks := tk' } .next s₂ := by
      rintro ⟨h', tk, m', news', e, F', N', hn, hm⟩
      exact ⟨rfl, h', tk, m', n₁, e, F', fun p hp => N' p (hn p hp), hoff, rfl, hm⟩
    cases f with
    | ret v => exact .ret p
    | brk => exact .brk p
    | next => exact .next (fin p)
    | cont => exact .cont (fin p)
  · rintro h' tk m' news' F' N' _ ⟨rfl, hJ⟩
    exact done m' h' tk hJ F' N'

abbrev T3 := Addr × Int × Int
@[irreducible] def lgStep (st : T3 × T3) (x : T3) : T3 × T3 :=
  (if cmpR x.2.1 x.2.2 st.1.2.1 st.1.2.2 < 0 then x else st.1, if 0 < cmpR x.2.1 x.2.2 st.2.2.1 st.2.2.2 then x else st.2)
def lgOf (x : T3) (xs : List T3) : T3 × T3 := (x :: xs).foldl lgStep (x, x)
theorem lgStep_mem {xs : List T3} {st : T3 × T3} {x : T3} (h1 : st.1 ∈ xs) (h2 : st.2 ∈ xs) (hx : x ∈ xs) : (lgStep st x).1 ∈ xs ∧ (lgStep st x).2 ∈ xs := by
  unfold lgStep
  refine ⟨?_, ?_⟩ <;> (dsimp only; split <;> assumption)
theorem lg_mem (xs : List T3) : ∀ (ys : List T3) (st : T3 × T3), st.1 ∈ xs → st.2 ∈ xs → (∀ y ∈ ys, y ∈ xs) → (ys.foldl lgStep st).1 ∈ xs ∧ (ys.foldl lgStep st).2 ∈ xs
  | [], _, h1, h2, _ => ⟨h1, h2⟩
  | y :: r, st, h1, h2, h => lg_mem xs r (lgStep st y) (lgStep_mem h1 h2 (h y (.head _))).1 (lgStep_mem h1 h2 (h y (.head _))).2 fun z hz => h z (.tail _ hz)
theorem lgOf_mem (x : T3) (xs : List T3) : (lgOf x xs).1 ∈ x :: xs ∧ (lgOf x xs).2 ∈ x :: xs := lg_mem _ _ _ (.head _) (.head _) fun _ h => h
abbrev lgVs (xs : List T3) : List Value := xs.map fun x => .ref x.1
abbrev lgAt (x : T3) (xs : List T3) (i : Nat) : T3 × T3 := ((x :: xs).take i).foldl lgStep (x, x)
theorem lgAt_succ {x y : T3} {xs : List T3} {i : Nat} (h : (x :: xs)[i]? = some y) : lgAt x xs (i + 1) = lgStep (lgAt x xs i) y := by
  unfold lgAt
  rw [List.take_add_one, h]; simp
theorem lgAt_mem (x : T3) (xs : List T3) (i : Nat) : (lgAt x xs i).1 ∈ x :: xs ∧ (lgAt x xs i).2 ∈ x :: xs :=
  lg_mem _ _ _ (.head _) (.head _) fun _ h => List.mem_of_mem_take h
def LgJ (m₀ : Str → Option Value) (x : T3) (xs : List T3) (i : Nat) (m : Str → Option Value) : Prop :=
  m (Str.ofString "low") = some (.ref (lgAt x xs i).1.1) ∧ m (Str.ofString "high") = some (.ref (lgAt x xs i).2.1) ∧ ∀ z, z ≠ Str.ofString "one" → z ≠ Str.ofString "low" → z ≠ Str.ofString "high" → m z = m₀ z
theorem lgJ_fr {H h : Heap} {L : Addr} {m₀ m : Str → Option Value} {x : T3} {xs : List T3} {i : Nat} {v : Value} (J : LgJ m₀ x xs i m) (F : Fr H L h (fun y => if y = Str.ofString "one" then some v else m y)) :
    Fr H L h (fun y => if y = Str.ofString "one" then some v else if y = Str.ofString "low" then some (.ref (lgAt x xs i).1.1) else if y = Str.ofString "high" then some (.ref (lgAt x xs i).2.1) else m₀ y) := by
  have e : (fun y => if y = Str.ofString "one" then some v else m y) = (fun y => if y = Str.ofString "one" then some v else if y = Str.ofString "low" then some (.ref (lgAt x xs i).1.1) else if y = Str.ofString "high" then some (.ref (lgAt x xs i).2.1) else m₀ y) := by
    funext y
    by_cases h1 : y = Str.ofString "one"
    · simp [h1]
    · simp only [if_neg h1]
      by_cases h2 : y = Str.ofString "low"
      · subst h2; rw [if_pos rfl]; exact J.1
      · rw [if_neg h2]
        by_cases h3 : y = Str.ofString "high"
        · subst h3; rw [if_pos rfl]; exact J.2.1
        · rw [if_neg h3]; exact J.2.2 y h1 h2 h3
  rw [← e]; exact F
end
section
theorem lgJ_next {m₀ m : Str → Option Value} {x y : T3} {xs : List T3} {i : Nat} {a b : Addr} (hy : (x :: xs)[i]? = some y)
    (ha : a = (lgStep (lgAt x xs i) y).1.1) (hb : b = (lgStep (lgAt x xs i) y).2.1) (h1 : m (Str.ofString "low") = some (.ref a)) (h2 : m (Str.ofString "high") = some (.ref b))
    (h3 : ∀ z, z ≠ Str.ofString "one" → z ≠ Str.ofString "low" → z ≠ Str.ofString "high" → m z = m₀ z) : LgJ m₀ x xs (i + 1) m := by
  subst ha; subst hb
  refine ⟨?_, ?_, h3⟩ <;> rw [lgAt_succ hy] <;> assumption
theorem lg_get {x : T3} {xs : List T3} {i : Nat} {v : Value} (h : (lgVs (x :: xs))[i]? = some v) : ∃ y, (x :: xs)[i]? = some y ∧ v = .ref y.1 := by
  rw [List.getElem?_map] at h
  obtain ⟨y, hy, rfl⟩ := Option.map_eq_some_iff.mp h
  exact ⟨y, hy, rfl⟩
theorem lg_done {H h' : Heap} {L D : Addr} {news : List (Addr × Obj)} {a b : Addr} {x : T3} {xs : List T3} (N : News H L h' news)
    (hm : (D, ({ cls := .type "tuple", data := .seq #[.ref a, .ref b] } : Obj)) ∈ news) (ha : a = (lgOf x xs).1.1) (hb : b = (lgOf x xs).2.1) :
    ∃ D', Value.ref D = .ref D' ∧ NewL H h' [(D', ({ cls := .type "tuple", data := .seq #[.ref (lgOf x xs).1.1, .ref (lgOf x xs).2.1] } : Obj))] := by
  subst ha; subst hb
  exact ⟨D, rfl, .cons N hm .nil⟩
theorem lgAt_all (x : T3) (xs : List T3) : lgAt x xs (lgVs (x :: xs)).length = lgOf x xs := by
  unfold lgAt lgOf
  rw [List.length_map, List.take_length]

theorem lgJ_frE {H h : Heap} {L : Addr} {m₀ m : Str → Option Value} {x : T3} {xs : List T3} {i : Nat} (J : LgJ m₀ x xs i m) (F : Fr H L h m) :
    Fr H L h (fun y => if y = Str.ofString "low" then some (.ref (lgAt x xs i).1.1) else if y = Str.ofString "high" then some (.ref (lgAt x xs i).2.1) else m y) := by
  have e : m = (fun y => if y = Str.ofString "low" then some (.ref (lgAt x xs i).1.1) else if y = Str.ofString "high" then some (.ref (lgAt x xs i).2.1) else m y) := by
    funext y
    by_cases h2 : y = Str.ofString "low"
    · subst h2; rw [if_pos rfl]; exact J.1
    · rw [if_neg h2]
      by_cases h3 : y = Str.ofString "high"
      · subst h3; rw [if_pos rfl]; exact J.2.1
      · rw [if_neg h3]
  rw [← e]; exact F
theorem lgStep_lowT {st : T3 × T3} {x : T3} (h : cmpR x.2.1 x.2.2 st.1.2.1 st.1.2.2 < 0) : x.1 = (lgStep st x).1.1 := by unfold lgStep; dsimp only; rw [if_pos h]
theorem lgStep_lowF {st : T3 × T3} {x : T3} (h : ¬ cmpR x.2.1 x.2.2 st.1.2.1 st.1.2.2 < 0) : st.1.1 = (lgStep st x).1.1 := by unfold lgStep; dsimp only; rw [if_neg h]
theorem lgStep_highT {st : T3 × T3} {x : T3} (h : 0 < cmpR x.2.1 x.2.2 st.2.2.1 st.2.2.2) : x.1 = (lgStep st x).2.1 := by unfold lgStep; dsimp only; rw [if_pos h]
theorem lgStep_highF {st : T3 × T3} {x : T3} (h : ¬ 0 < cmpR x.2.1 x.2.2 st.2.2.1 st.2.2.2) : st.2.1 = (lgStep st x).2.1 := by unfold lgStep; dsimp only; rw [if_neg h]

set_option maxHeartbeats 8000000 in
theorem lg_pc {w mean mg mb} (l : Addr) (x : T3) (xs : List T3) (hs : ∀ y ∈ x :: xs, Sz y.2.1 ∧ Sz y.2.2) :
    PC w mean mg mb 122 [.ref l] 140 (fun h => h.IsList l (lgVs (x :: xs)).toArray ∧ ∀ y ∈ x :: xs, Pair h y.1 y.2.1 y.2.2)
      (fun H h' v => ∃ D, v = .ref D ∧ NewL H h' [(D, ({ cls := .type "tuple", data := .seq #[.ref (lgOf x xs).1.1, .ref (lgOf x xs).2.1] } : Obj))]) := by
  k_with_none
  k_with "for" => ((rename Fr _ _ _ _ => lF'); (with_unfolding_all refine' For_invVF lF' ?k1 ?k2 ?_; (case k1 => exact rfl); (case k2 => exact rfl)))
  k_with "pyiter" => ((rename Fr _ _ _ _ => lF'); (rename News _ _ _ _ => lN'); (with_unfolding_all refine' iter_vals (LgJ _ x xs) rfl hpL lF' lN' ⟨rfl, rfl, fun _ _ _ _ => rfl⟩ ?lturn ?ldone); clear lF' lN'; (case' lturn => (intro i v m₁ h tk own hv hJ F N; obtain ⟨y, hy, rfl⟩ := lg_get hv; replace F := lgJ_fr hJ F; clear hJ hv; dsimp only [envOf] at F N; have hyM : y ∈ x :: xs := List.mem_of_getElem? hy; have hsY := hs y hyM; have hsA := hs _ (lgAt_mem x xs i).1; have hsB := hs _ (lgAt_mem x xs i).2; have hpY := hpP y hyM; have hpA := hpP _ (lgAt_mem x xs i).1; have hpB := hpP _ (lgAt_mem x xs i).2)); (case' ldone => (intro m₁ h tk hJ F N; replace F := lgJ_frE hJ F; clear hJ; dsimp only [envOf] at F N)))
  k_with "callpc" => first | ((rename News _ _ _ _ => pN'); refine' pc_use (rcompare_pc y.1 (lgAt x xs i).1.1 y.2.1 y.2.2 (lgAt x xs i).1.2.1 (lgAt x xs i).1.2.2 hsY.1 hsY.2 hsA.1 hsA.2) ?pF pN' ?pX ?pT ?pd ?pu ?pp ?_; (case pF => k_asm); (case pX => k_asm); (case pT => k_asm); (case pd => ((try dsimp only [arnd, Around.deeper]); omega)); (case pu => ((try dsimp only [arnd, Around.deeper]); omega)); (case pp => exact ⟨hpY.keeps (Fr.keep (by k_asm)), hpA.keeps (Fr.keep (by k_asm))⟩); clear pN'; intro v' h' tk' F' G' st' r'; (obtain ⟨t', rfl⟩ := r'; have N' := G' [] NewL.nil; clear G'; (try simp only [List.nil_append] at N')); (try k_sweep))| ((rename News _ _ _ _ => pN'); refine' pc_use (rcompare_pc y.1 (lgAt x xs i).2.1 y.2.1 y.2.2 (lgAt x xs i).2.2.1 (lgAt x xs i).2.2.2 hsY.1 hsY.2 hsB.1 hsB.2) ?pF pN' ?pX ?pT ?pd ?pu ?pp ?_; (case pF => k_asm); (case pX => k_asm); (case pT => k_asm); (case pd => ((try dsimp only [arnd, Around.deeper]); omega)); (case pu => ((try dsimp only [arnd, Around.deeper]); omega)); (case pp => exact ⟨hpY.keeps (Fr.keep (by k_asm)), hpB.keeps (Fr.keep (by k_asm))⟩); clear pN'; intro v' h' tk' F' G' st' r'; (obtain ⟨t', rfl⟩ := r'; have N' := G' [] NewL.nil; clear G'; (try simp only [List.nil_append] at N')); (try k_sweep))
  k_with "inv" => (with_unfolding_all refine InvEnd.intro (by k_asm) (by k_asm) (fun _ h => h) (lgJ_next hy ?ha ?hb rfl rfl ?hc); (case ha => first | with_reducible exact lgStep_lowT (by with_reducible assumption) | with_reducible exact lgStep_lowF (by with_reducible assumption)); (case hb => first | with_reducible exact lgStep_highT (by with_reducible assumption) | with_reducible exact lgStep_highF (by with_reducible assumption)); (case hc => (intro z h1 h2 h3; simp only [if_neg h1, if_neg h2, if_neg h3])))
  k_with "pcend" => exact lg_done (by k_asm) (by k_mem) (congrArg (fun q => q.1.1) (lgAt_all x xs)) (congrArg (fun q => q.2.1) (lgAt_all x xs))
  refine' pc_enter (binds := [(Str.ofString "some", .ref l)]) ?k1 ?k2 ?k3 ?k4 ?k5 ?_ ?c2 ?c3 ?c4 ?c5
  case k1 => k_dflt k_is
  case k2 => k_dflt k_is
  case k3 => decide
  case k4 => intro s; exact BindsTo.of_eq rfl
  case k5 => exact locs rfl
  case c2 => exact rfl
  case c3 => exact rfl
  case c4 => exact rfl
  case c5 => decide
  intro dp un fr gd s Q L h₁ tk F N X T hp hd hu
  try dsimp only
  k_fold
  obtain ⟨hpL, hpP⟩ := hp
  repeat' (first | (k_unfold; (try dsimp only)) | walk1 | (dsimp only; walk1) | (dsimp only; k_unfold; (try dsimp only)) | (leave1; walk_say "STEP leave1"; try dsimp only) | fail "no step")
end
section
def NumAt (h : Heap) (A : Addr) (p q : Int) : Prop := ∃ t t1 t2, IsTup h A #[.str (Str.ofString "num") t, .int p t1, .int q t2]
def HeadAt (h : Heap) (A : Addr) (c : Str) : Prop := ∃ items t, IsTup h A (List.toArray (.str c t :: items))
theorem NumAt.keeps {h h' : Heap} {A : Addr} {p q : Int} (x : NumAt h A p q) (k : ∀ b o, h.get? b = some o → h'.get? b = some o) : NumAt h' A p q := by
  obtain ⟨t, t1, t2, x⟩ := x
  exact ⟨t, t1, t2, IsTup.keeps x k⟩
theorem HeadAt.keeps {h h' : Heap} {A : Addr} {c : Str} (x : HeadAt h A c) (k : ∀ b o, h.get? b = some o → h'.get? b = some o) : HeadAt h' A c := by
  obtain ⟨t, u, x⟩ := x
  exact ⟨t, u, IsTup.keeps x k⟩
theorem NumAt.head {h : Heap} {A : Addr} {p q : Int} (x : NumAt h A p q) : HeadAt h A (Str.ofString "num") := by
  obtain ⟨t, t1, t2, x⟩ := x
  exact ⟨_, t, x⟩

theorem idx0 {v : Value} {items : List Value} : seqIndex? 0 (v :: items).length = some 0 := by
  unfold seqIndex?
  simp
set_option maxHeartbeats 8000000 in
theorem isnum_t {w mean mg mb} (A : Addr) : PC w mean mg mb 102 [.ref A] 5 (fun h => HeadAt h A (Str.ofString "num")) (fun _ _ v => v = .bool true) := by
  k_with_none
  k_with "sub" => (refine' item_tupleT (l := Value.str (Str.ofString "num") t :: items) ?t ?a ?b ?c ?d ?_; (case t => exact hp.keeps (Fr.keep (by k_asm))); (case a => decide); (case b => decide); (case c => exact idx0); (case d => rfl))
  k_with "pcend" => rfl
  refine' pc_enter (binds := [(Str.ofString "term", .ref A)]) ?k1 ?k2 ?k3 ?k4 ?k5 ?_ ?c2 ?c3 ?c4 ?c5
  case k1 => k_dflt k_is
  case k2 => k_dflt k_is
  case k3 => decide
  case k4 => intro s; exact BindsTo.of_eq rfl
  case k5 => exact locs rfl
  case c2 => exact rfl
  case c3 => exact rfl
  case c4 => exact rfl
  case c5 => decide
  intro dp un fr gd s Q L h₁ tk F N X T hp hd hu
  try dsimp only
  k_fold
  obtain ⟨items, t, hp⟩ := hp
  repeat' (first | (k_unfold; (try dsimp only)) | walk1 | (dsimp only; walk1) | (dsimp only; k_unfold; (try dsimp only)) | (leave1; walk_say "STEP leave1"; try dsimp only) | fail "no step")
set_option maxHeartbeats 8000000 in
theorem isnum_f {w mean mg mb} (A : Addr) (c : Str) (hc : (c == Str.ofString "num") = false) : PC w mean mg mb 102 [.ref A] 5 (fun h => HeadAt h A c) (fun _ _ v => v = .bool false) := by
  k_with_none
  k_with "sub" => (refine' item_tupleT (l := Value.str c t :: items) ?t ?a ?b ?c ?d ?_; (case t => exact hp.keeps (Fr.keep (by k_asm))); (case a => decide); (case b => decide); (case c => exact idx0); (case d => rfl))
  k_with "pcend" => exact congrArg Value.bool hc
  refine' pc_enter (binds := [(Str.ofString "term", .ref A)]) ?k1 ?k2 ?k3 ?k4 ?k5 ?_ ?c2 ?c3 ?c4 ?c5
  case k1 => k_dflt k_is
  case k2 => k_dflt k_is
  case k3 => decide
  case k4 => intro s; exact BindsTo.of_eq rfl
  case k5 => exact locs rfl
  case c2 => exact rfl
  case c3 => exact rfl
  case c4 => exact rfl
  case c5 => decide
  intro dp un fr gd s Q L h₁ tk F N X T hp hd hu
  try dsimp only
  k_fold
  obtain ⟨items, t, hp⟩ := hp
  repeat' (first | (k_unfold; (try dsimp only)) | walk1 | (dsimp only; walk1) | (dsimp only; k_unfold; (try dsimp only)) | (leave1; walk_say "STEP leave1"; try dsimp only) | fail "no step")
set_option maxHeartbeats 8000000 in
theorem numof_pc {w mean mg mb} (A : Addr) (p q : Int) : PC w mean mg mb 109 [.ref A] 5 (fun h => NumAt h A p q) (fun H h' v => Tup2 H h' v p q) := by
  k_with_none
  k_with "pcend" => exact tup2_end (by k_asm) (by k_mem) rfl rfl
  refine' pc_enter (binds := [(Str.ofString "term", .ref A)]) ?k1 ?k2 ?k3 ?k4 ?k5 ?_ ?c2 ?c3 ?c4 ?c5
  case k1 => k_dflt k_is
  case k2 => k_dflt k_is
  case k3 => decide
  case k4 => intro s; exact BindsTo.of_eq rfl
  case k5 => exact locs rfl
  case c2 => exact rfl
  case c3 => exact rfl
  case c4 => exact rfl
  case c5 => decide
  intro dp un fr gd s Q L h₁ tk F N X T hp hd hu
  try dsimp only
  k_fold
  obtain ⟨t, t1, t2, hp⟩ := hp
  repeat' (first | (k_unfold; (try dsimp only)) | walk1 | (dsimp only; walk1) | (dsimp only; k_unfold; (try dsimp only)) | (leave1; walk_say "STEP leave1"; try dsimp only) | fail "no step")
end
section
/-- a new pair of two new pairs of ints -/
def PairOf (H h' : Heap) (v : Value) (a b c d : Int) : Prop := ∃ D D1 D2 t1 t2 u1 u2, v = .ref D ∧ NewL H h' [(D, ({ cls := .type "tuple", data := .seq #[.ref D1, .ref D2] } : Obj)), (D1, ({ cls := .type "tuple", data := .seq #[.int a t1, .int b t2] } : Obj)), (D2, ({ cls := .type "tuple", data := .seq #[.int c u1, .int d u2] } : Obj))]
theorem pairOf_end {H h' : Heap} {L D D1 D2 : Addr} {news : List (Addr × Obj)} {a b c d a' b' c' d' : Int} {t1 t2 u1 u2 : Tok} (N : News H L h' news)
    (hm : (D, ({ cls := .type "tuple", data := .seq #[.ref D1, .ref D2] } : Obj)) ∈ news) (hm1 : (D1, ({ cls := .type "tuple", data := .seq #[.int a' t1, .int b' t2] } : Obj)) ∈ news) (hm2 : (D2, ({ cls := .type "tuple", data := .seq #[.int c' u1, .int d' u2] } : Obj)) ∈ news)
    (ha : a' = a) (hb : b' = b) (hc : c' = c) (hd : d' = d) : PairOf H h' (.ref D) a b c d := by
  subst ha; subst hb; subst hc; subst hd
  exact ⟨D, D1, D2, t1, t2, u1, u2, rfl, .cons N hm (.cons N hm1 (.cons N hm2 .nil))⟩
@[irreducible] def rootN (b c p k : Int) : Int := (b ^ p.toNat * 1000000000000 ^ k.toNat).fdiv (c ^ p.toNat)
theorem rootN_def (b c p k : Int) : rootN b c p k = (b ^ p.toNat * 1000000000000 ^ k.toNat).fdiv (c ^ p.toNat) := by unfold rootN; rfl
theorem scale_pow {k : Int} (h1 : 1 ≤ k) (h : k ≤ 64) : (Builtin.Int.intBits 1000000000000 : Int) * k ≤ 2 ^ 27 := by
  have e : Builtin.Int.intBits 1000000000000 = 40 := by decide +kernel
  rw [e]
  have e2 : (2 : Int) ^ 27 = 134217728 := by decide
  omega

set_option maxHeartbeats 8000000 in
theorem rootb_pc {w mean mg mb} (B E : Addr) (b c p k : Int) (hb : 0 < b) (hp0 : 0 < p) (hk1 : 1 ≤ k) (hk2 : k ≤ 64) (hc : c ^ p.toNat ≠ 0) (z1 : (Builtin.Int.intBits b : Int) * p ≤ 2 ^ 27) (z2 : (Builtin.Int.intBits c : Int) * p ≤ 2 ^ 27)
    (z3 : IntMulOk (b ^ p.toNat) (1000000000000 ^ k.toNat)) (hn0 : 0 ≤ rootN b c p k) (hns : Sz (rootN b c p k)) :
    PC w mean mg mb 129 [.ref B, .ref E] 150 (fun h => NumAt h B b c ∧ NumAt h E p k)
      (fun H h' v => ∃ r, IsRoot (rootN b c p k) k r ∧ PairOf H h' v (ratP r 1000000000000) (ratQ r 1000000000000) (ratP (r + 1) 1000000000000) (ratQ (r + 1) 1000000000000)) := by
  k_with_none
  have e := rootN_def b c p k
  rw [e] at hn0 hns
  k_with "pow" => first | exact z1 | exact z2 | exact scale_pow hk1 hk2
  k_with "callpc" => first | ((rename News _ _ _ _ => pN'); refine' pc_use (isnum_t B) ?pF pN' ?pX ?pT ?pd ?pu ?pp ?_; (case pF => k_asm); (case pX => k_asm); (case pT => k_asm); (case pd => ((try dsimp only [arnd, Around.deeper]); omega)); (case pu => ((try dsimp only [arnd, Around.deeper]); omega)); (case pp => exact hB.head.keeps (Fr.keep (by k_asm))); clear pN'; intro v' h' tk' F' G' st' r'; (subst r'; have N' := G' [] NewL.nil; clear G'; (try simp only [List.nil_append] at N')); (try k_sweep))| ((rename News _ _ _ _ => pN'); refine' pc_use (isnum_t E) ?pF pN' ?pX ?pT ?pd ?pu ?pp ?_; (case pF => k_asm); (case pX => k_asm); (case pT => k_asm); (case pd => ((try dsimp only [arnd, Around.deeper]); omega)); (case pu => ((try dsimp only [arnd, Around.deeper]); omega)); (case pp => exact hE.head.keeps (Fr.keep (by k_asm))); clear pN'; intro v' h' tk' F' G' st' r'; (subst r'; have N' := G' [] NewL.nil; clear G'; (try simp only [List.nil_append] at N')); (try k_sweep))| ((rename News _ _ _ _ => pN'); refine' pc_use (root_pc _ _ _ _ hn0 hk1 hk2 hns) ?pF pN' ?pX ?pT ?pd ?pu ?pp ?_; (case pF => k_asm); (case pX => k_asm); (case pT => k_asm); (case pd => ((try dsimp only [arnd, Around.deeper]); omega)); (case pu => ((try dsimp only [arnd, Around.deeper]); omega)); (case pp => trivial); clear pN'; intro v' h' tk' F' G' st' r'; (obtain ⟨r, tr, rfl, hR⟩ := r'; have N' := G' [] NewL.nil; clear G'; (try simp only [List.nil_append] at N')); (try k_sweep))| ((rename News _ _ _ _ => pN'); refine' pc_use (rat_pc _ _ _ _ (by decide)) ?pF pN' ?pX ?pT ?pd ?pu ?pp ?_; (case pF => k_asm); (case pX => k_asm); (case pT => k_asm); (case pd => ((try dsimp only [arnd, Around.deeper]); omega)); (case pu => ((try dsimp only [arnd, Around.deeper]); omega)); (case pp => trivial); clear pN'; intro v' h' tk' F' G' st' r'; (obtain ⟨D', t1', t2', rfl, nw'⟩ := r'; have N' := G' _ nw'; (try simp only [List.cons_append, List.nil_append] at N'); clear G' nw'); (try k_sweep))
  k_with "pcend" => exact ⟨_, e ▸ hR, pairOf_end (by k_asm) (by k_mem) (by k_mem) (by k_mem) rfl rfl rfl rfl⟩
  refine' pc_enter (binds := [(Str.ofString "base", .ref B), (Str.ofString "exponent", .ref E)]) ?k1 ?k2 ?k3 ?k4 ?k5 ?_ ?c2 ?c3 ?c4 ?c5
  case k1 => k_dflt k_is
  case k2 => k_dflt k_is
  case k3 => decide
  case k4 => intro s; exact BindsTo.of_eq rfl
  case k5 => exact locs rfl
  case c2 => exact rfl
  case c3 => exact rfl
  case c4 => exact rfl
  case c5 => decide
  intro dp un fr gd s Q L h₁ tk F N X T hp hd hu
  try dsimp only
  k_fold
  obtain ⟨hB, hE⟩ := hp
  obtain ⟨tb, tb1, tb2, hBt⟩ := id hB
  obtain ⟨te, te1, te2, hEt⟩ := id hE
  repeat' (first | (k_unfold; (try dsimp only)) | walk1 | (dsimp only; walk1) | (dsimp only; k_unfold; (try dsimp only)) | (leave1; walk_say "STEP leave1"; try dsimp only) | fail "no step")
end
section
set_option maxHeartbeats 8000000 in
theorem rootb_none_a {w mean mg mb} (B : Addr) (E : Value) (c : Str) (hc : (c == Str.ofString "num") = false) :
    PC w mean mg mb 129 [.ref B, E] 20 (fun h => HeadAt h B c) (fun _ _ v => v = .none) := by
  k_with_none
  k_with "callpc" => ((rename News _ _ _ _ => pN'); refine' pc_use (isnum_f B c hc) ?pF pN' ?pX ?pT ?pd ?pu ?pp ?_; (case pF => k_asm); (case pX => k_asm); (case pT => k_asm); (case pd => ((try dsimp only [arnd, Around.deeper]); omega)); (case pu => ((try dsimp only [arnd, Around.deeper]); omega)); (case pp => exact hB.keeps (Fr.keep (by k_asm))); clear pN'; intro v' h' tk' F' G' st' r'; (subst r'; have N' := G' [] NewL.nil; clear G'; (try simp only [List.nil_append] at N')); (try k_sweep))
  k_with "pcend" => rfl
  refine' pc_enter (binds := [(Str.ofString "base", .ref B), (Str.ofString "exponent", E)]) ?k1 ?k2 ?k3 ?k4 ?k5 ?_ ?c2 ?c3 ?c4 ?c5
  case k1 => k_dflt k_is
  case k2 => k_dflt k_is
  case k3 => decide
  case k4 => intro s; exact BindsTo.of_eq rfl
  case k5 => exact locs rfl
  case c2 => exact rfl
  case c3 => exact rfl
  case c4 => exact rfl
  case c5 => decide
  intro dp un fr gd s Q L h₁ tk F N X T hp hd hu
  try dsimp only
  k_fold
  have hB := hp
  repeat' (first | (k_unfold; (try dsimp only)) | walk1 | (dsimp only; walk1) | (dsimp only; k_unfold; (try dsimp only)) | (leave1; walk_say "STEP leave1"; try dsimp only) | fail "no step")
set_option maxHeartbeats 8000000 in
theorem rootb_none_b {w mean mg mb} (B E : Addr) (b c p k : Int) (hb : b ≤ 0) :
    PC w mean mg mb 129 [.ref B, .ref E] 20 (fun h => NumAt h B b c ∧ NumAt h E p k) (fun _ _ v => v = .none) := by
  k_with_none
  k_with "callpc" => first | ((rename News _ _ _ _ => pN'); refine' pc_use (isnum_t B) ?pF pN' ?pX ?pT ?pd ?pu ?pp ?_; (case pF => k_asm); (case pX => k_asm); (case pT => k_asm); (case pd => ((try dsimp only [arnd, Around.deeper]); omega)); (case pu => ((try dsimp only [arnd, Around.deeper]); omega)); (case pp => exact hB.head.keeps (Fr.keep (by k_asm))); clear pN'; intro v' h' tk' F' G' st' r'; (subst r'; have N' := G' [] NewL.nil; clear G'; (try simp only [List.nil_append] at N')); (try k_sweep))| ((rename News _ _ _ _ => pN'); refine' pc_use (isnum_t E) ?pF pN' ?pX ?pT ?pd ?pu ?pp ?_; (case pF => k_asm); (case pX => k_asm); (case pT => k_asm); (case pd => ((try dsimp only [arnd, Around.deeper]); omega)); (case pu => ((try dsimp only [arnd, Around.deeper]); omega)); (case pp => exact hE.head.keeps (Fr.keep (by k_asm))); clear pN'; intro v' h' tk' F' G' st' r'; (subst r'; have N' := G' [] NewL.nil; clear G'; (try simp only [List.nil_append] at N')); (try k_sweep))
  k_with "pcend" => rfl
  refine' pc_enter (binds := [(Str.ofString "base", .ref B), (Str.ofString "exponent", .ref E)]) ?k1 ?k2 ?k3 ?k4 ?k5 ?_ ?c2 ?c3 ?c4 ?c5
  case k1 => k_dflt k_is
  case k2 => k_dflt k_is
  case k3 => decide
  case k4 => intro s; exact BindsTo.of_eq rfl
  case k5 => exact locs rfl
  case c2 => exact rfl
  case c3 => exact rfl
  case c4 => exact rfl
  case c5 => decide
  intro dp un fr gd s Q L h₁ tk F N X T hp hd hu
  try dsimp only
  k_fold
  obtain ⟨hB, hE⟩ := hp
  obtain ⟨tb, tb1, tb2, hBt⟩ := id hB
  obtain ⟨te, te1, te2, hEt⟩ := id hE
  repeat' (first | (k_unfold; (try dsimp only)) | walk1 | (dsimp only; walk1) | (dsimp only; k_unfold; (try dsimp only)) | (leave1; walk_say "STEP leave1"; try dsimp only) | fail "no step")
set_option maxHeartbeats 8000000 in
theorem rootb_none_c {w mean mg mb} (B E : Addr) (b c : Int) (x : Str) (hx : (x == Str.ofString "num") = false) :
    PC w mean mg mb 129 [.ref B, .ref E] 20 (fun h => NumAt h B b c ∧ HeadAt h E x) (fun _ _ v => v = .none) := by
  k_with_none
  k_with "callpc" => first | ((rename News _ _ _ _ => pN'); refine' pc_use (isnum_t B) ?pF pN' ?pX ?pT ?pd ?pu ?pp ?_; (case pF => k_asm); (case pX => k_asm); (case pT => k_asm); (case pd => ((try dsimp only [arnd, Around.deeper]); omega)); (case pu => ((try dsimp only [arnd, Around.deeper]); omega)); (case pp => exact hB.head.keeps (Fr.keep (by k_asm))); clear pN'; intro v' h' tk' F' G' st' r'; (subst r'; have N' := G' [] NewL.nil; clear G'; (try simp only [List.nil_append] at N')); (try k_sweep))| ((rename News _ _ _ _ => pN'); refine' pc_use (isnum_f E x hx) ?pF pN' ?pX ?pT ?pd ?pu ?pp ?_; (case pF => k_asm); (case pX => k_asm); (case pT => k_asm); (case pd => ((try dsimp only [arnd, Around.deeper]); omega)); (case pu => ((try dsimp only [arnd, Around.deeper]); omega)); (case pp => exact hE.keeps (Fr.keep (by k_asm))); clear pN'; intro v' h' tk' F' G' st' r'; (subst r'; have N' := G' [] NewL.nil; clear G'; (try simp only [List.nil_append] at N')); (try k_sweep))
  k_with "pcend" => rfl
  refine' pc_enter (binds := [(Str.ofString "base", .ref B), (Str.ofString "exponent", .ref E)]) ?k1 ?k2 ?k3 ?k4 ?k5 ?_ ?c2 ?c3 ?c4 ?c5
  case k1 => k_dflt k_is
  case k2 => k_dflt k_is
  case k3 => decide
  case k4 => intro s; exact BindsTo.of_eq rfl
  case k5 => exact locs rfl
  case c2 => exact rfl
  case c3 => exact rfl
  case c4 => exact rfl
  case c5 => decide
  intro dp un fr gd s Q L h₁ tk F N X T hp hd hu
  try dsimp only
  k_fold
  obtain ⟨hB, hE⟩ := hp
  repeat' (first | (k_unfold; (try dsimp only)) | walk1 | (dsimp only; walk1) | (dsimp only; k_unfold; (try dsimp only)) | (leave1; walk_say "STEP leave1"; try dsimp only) | fail "no step")
set_option maxHeartbeats 8000000 in
theorem rootb_none_d {w mean mg mb} (B E : Addr) (b c p k : Int) (hb : 0 < b) (hp0 : p ≤ 0) :
    PC w mean mg mb 129 [.ref B, .ref E] 20 (fun h => NumAt h B b c ∧ NumAt h E p k) (fun _ _ v => v = .none) := by
  k_with_none
  k_with "callpc" => first | ((rename News _ _ _ _ => pN'); refine' pc_use (isnum_t B) ?pF pN' ?pX ?pT ?pd ?pu ?pp ?_; (case pF => k_asm); (case pX => k_asm); (case pT => k_asm); (case pd => ((try dsimp only [arnd, Around.deeper]); omega)); (case pu => ((try dsimp only [arnd, Around.deeper]); omega)); (case pp => exact hB.head.keeps (Fr.keep (by k_asm))); clear pN'; intro v' h' tk' F' G' st' r'; (subst r'; have N' := G' [] NewL.nil; clear G'; (try simp only [List.nil_append] at N')); (try k_sweep))| ((rename News _ _ _ _ => pN'); refine' pc_use (isnum_t E) ?pF pN' ?pX ?pT ?pd ?pu ?pp ?_; (case pF => k_asm); (case pX => k_asm); (case pT => k_asm); (case pd => ((try dsimp only [arnd, Around.deeper]); omega)); (case pu => ((try dsimp only [arnd, Around.deeper]); omega)); (case pp => exact hE.head.keeps (Fr.keep (by k_asm))); clear pN'; intro v' h' tk' F' G' st' r'; (subst r'; have N' := G' [] NewL.nil; clear G'; (try simp only [List.nil_append] at N')); (try k_sweep))
  k_with "pcend" => rfl
  refine' pc_enter (binds := [(Str.ofString "base", .ref B), (Str.ofString "exponent", .ref E)]) ?k1 ?k2 ?k3 ?k4 ?k5 ?_ ?c2 ?c3 ?c4 ?c5
  case k1 => k_dflt k_is
  case k2 => k_dflt k_is
  case k3 => decide
  case k4 => intro s; exact BindsTo.of_eq rfl
  case k5 => exact locs rfl
  case c2 => exact rfl
  case c3 => exact rfl
  case c4 => exact rfl
  case c5 => decide
  intro dp un fr gd s Q L h₁ tk F N X T hp hd hu
  try dsimp only
  k_fold
  obtain ⟨hB, hE⟩ := hp
  obtain ⟨tb, tb1, tb2, hBt⟩ := id hB
  obtain ⟨te, te1, te2, hEt⟩ := id hE
  repeat' (first | (k_unfold; (try dsimp only)) | walk1 | (dsimp only; walk1) | (dsimp only; k_unfold; (try dsimp only)) | (leave1; walk_say "STEP leave1"; try dsimp only) | fail "no step")
set_option maxHeartbeats 8000000 in
theorem rootb_none_e {w mean mg mb} (B E : Addr) (b c p k : Int) (hb : 0 < b) (hp0 : 0 < p) (hk : 64 < k) :
    PC w mean mg mb 129 [.ref B, .ref E] 20 (fun h => NumAt h B b c ∧ NumAt h E p k) (fun _ _ v => v = .none) := by
  k_with_none
  k_with "callpc" => first | ((rename News _ _ _ _ => pN'); refine' pc_use (isnum_t B) ?pF pN' ?pX ?pT ?pd ?pu ?pp ?_; (case pF => k_asm); (case pX => k_asm); (case pT => k_asm); (case pd => ((try dsimp only [arnd, Around.deeper]); omega)); (case pu => ((try dsimp only [arnd, Around.deeper]); omega)); (case pp => exact hB.head.keeps (Fr.keep (by k_asm))); clear pN'; intro v' h' tk' F' G' st' r'; (subst r'; have N' := G' [] NewL.nil; clear G'; (try simp only [List.nil_append] at N')); (try k_sweep))| ((rename News _ _ _ _ => pN'); refine' pc_use (isnum_t E) ?pF pN' ?pX ?pT ?pd ?pu ?pp ?_; (case pF => k_asm); (case pX => k_asm); (case pT => k_asm); (case pd => ((try dsimp only [arnd, Around.deeper]); omega)); (case pu => ((try dsimp only [arnd, Around.deeper]); omega)); (case pp => exact hE.head.keeps (Fr.keep (by k_asm))); clear pN'; intro v' h' tk' F' G' st' r'; (subst r'; have N' := G' [] NewL.nil; clear G'; (try simp only [List.nil_append] at N')); (try k_sweep))
  k_with "pcend" => rfl
  refine' pc_enter (binds := [(Str.ofString "base", .ref B), (Str.ofString "exponent", .ref E)]) ?k1 ?k2 ?k3 ?k4 ?k5 ?_ ?c2 ?c3 ?c4 ?c5
  case k1 => k_dflt k_is
  case k2 => k_dflt k_is
  case k3 => decide
  case k4 => intro s; exact BindsTo.of_eq rfl
  case k5 => exact locs rfl
  case c2 => exact rfl
  case c3 => exact rfl
  case c4 => exact rfl
  case c5 => decide
  intro dp un fr gd s Q L h₁ tk F N X T hp hd hu
  try dsimp only
  k_fold
  obtain ⟨hB, hE⟩ := hp
  obtain ⟨tb, tb1, tb2, hBt⟩ := id hB
  obtain ⟨te, te1, te2, hEt⟩ := id hE
  repeat' (first | (k_unfold; (try dsimp only)) | walk1 | (dsimp only; walk1) | (dsimp only; k_unfold; (try dsimp only)) | (leave1; walk_say "STEP leave1"; try dsimp only) | fail "no step")
end
section
theorem pc_enterC {w : World} {mean : ExcName → Option Value} {mg mb : Str → Option Value} {f : Addr} {vs : List Value} {k : Nat} {pre : Heap → Prop} {R : Heap → Heap → Value → Prop}
    {name qual : Str} {params : Arguments} {body : List Stmt} {scope : Scope} {dV kV doc pm cdv ct oc : Value} {an od : Option Addr} {osl : Array (Option Value)} {binds : List (Str × Value)}
    (ho : (hd.heap_39 w.params).lookup f = some ⟨oc, od, .func (fnOf name qual params body scope dV kV doc pm an cdv ct), osl⟩) (hcd : codeIn (hd.heap_39 w.params) cdv qual = true)
    (hk0 : 1 ≤ k)
    (hbind : ∀ s, BindsTo s (fnOf name qual params body scope dV kV doc pm an cdv ct) ⟨vs, []⟩ binds)
    (hkind : (binds.all fun y => scope.names.lookup y.1 == some .local || scope.names.lookup y.1 == some .cell) = true)
    (hnd : ((cellsFrom 0 scope.names []).map (·.1)).Nodup)
    (h : ∀ (dp un : Nat) (fr : List Env) (gd : Option (List Code)) (s : Shared) (Q : Value → Shared → Prop) (L : Addr) (h₁ : Heap) (tk : Nat) (cells : List (Addr × Obj)),
      Fr s.heap L h₁ (bindL (envOfC qual scope L f cdv).kindOf binds fun _ => none) → News s.heap L h₁ cells →
      CellsAre (bindC (envOfC qual scope L f cdv).kindOf binds fun _ => none) (cellsFrom (L + 1) scope.names []) cells →
      (hd.heap_39 w.params).In s.heap → TopH mean mg mb s.heap → pre s.heap → dp + k < recursionLimit → un + 8 * k < cLine →
      wpAny (model PySem.Challenge.rw_pq0187_01.row.prog w) ((arnd dp un fr gd).deeper (envOfC qual scope L f cdv)) (execs body (envOfC qual scope L f cdv))
        (fun fl s' => PcEnd R Q s (match fl with | .ret v => v | _ => .none) s')
        (fun _ _ => False)
        { s with heap := h₁, toks := tk })
    (hco : scope.isCoroutine = false) (hgen : scope.isGenerator = false) (hk : scope.kind = .function) : PC w mean mg mb f vs k pre R := by
  intro dp un fr gd s Q E X T hd hu hp hret
  refine wpAny_call ?_
  refine codeAny_call_function (by show dp < recursionLimit; omega) (X _ _ ho) rfl hco hgen rfl (codeRec_of X hcd) (hbind s _ _ _ _ ?_)
  refine wpAny_newFunctionEnv_cells hk (kindsX hkind _) fun env' he s' x => ?_
  subst he
  refine ⟨T.nolimit.keeps x.toInCall.keep, codeAny_func ?_⟩
  obtain ⟨h₁, tk, rfl, _⟩ := x.done
  have hk₁ := x.toInCall.keep
  obtain ⟨cells, NC, Y⟩ := Cl.news (h₀ := s.heap) (Nat.le_refl _) fun n c hm => ⟨x.cell n c (lookup_of_mem_nodup (cellsFrom_names scope.names 0 (s.heap.objs.size + 1) [] [] rfl ▸ hnd) hm), x.above n c hm⟩
  refine wpAny_mono (h dp un fr gd s Q s.heap.objs.size h₁ tk cells ⟨x.toInCall.ns, fun b o e => hk₁ b o e, Nat.le_refl _⟩ NC Y X T hp hd hu) (fun fl s' hl => ?_) (fun _ _ x => x.elim)
  exact hl hret
end
section
def BoundsAt (h : Heap) (O : Addr) (a b c d : Int) : Prop := ∃ A0 A1, IsTup h O #[.ref A0, .ref A1] ∧ Pair h A0 a b ∧ Pair h A1 c d
theorem BoundsAt.keeps {h h' : Heap} {O : Addr} {a b c d : Int} (x : BoundsAt h O a b c d) (k : ∀ b o, h.get? b = some o → h'.get? b = some o) : BoundsAt h' O a b c d := by
  obtain ⟨A0, A1, x, y, z⟩ := x
  exact ⟨A0, A1, IsTup.keeps x k, y.keeps k, z.keeps k⟩
def Sz4 (a b c d : Int) : Prop := Sz a ∧ Sz b ∧ Sz c ∧ Sz d
@[irreducible] def addP (a0 a1 b0 b1 : Int) : Int := ratP (a0 * b1 + b0 * a1) (a1 * b1)
@[irreducible] def addQ (a0 a1 b0 b1 : Int) : Int := ratQ (a0 * b1 + b0 * a1) (a1 * b1)
@[irreducible] def mulP (a0 a1 b0 b1 : Int) : Int := ratP (a0 * b0) (a1 * b1)
@[irreducible] def mulQ (a0 a1 b0 b1 : Int) : Int := ratQ (a0 * b0) (a1 * b1)
theorem addP_def (a0 a1 b0 b1 : Int) : ratP (a0 * b1 + b0 * a1) (a1 * b1) = addP a0 a1 b0 b1 := by unfold addP; rfl
theorem addQ_def (a0 a1 b0 b1 : Int) : ratQ (a0 * b1 + b0 * a1) (a1 * b1) = addQ a0 a1 b0 b1 := by unfold addQ; rfl
theorem mulP_def (a0 a1 b0 b1 : Int) : ratP (a0 * b0) (a1 * b1) = mulP a0 a1 b0 b1 := by unfold mulP; rfl
theorem mulQ_def (a0 a1 b0 b1 : Int) : ratQ (a0 * b0) (a1 * b1) = mulQ a0 a1 b0 b1 := by unfold mulQ; rfl

set_option maxHeartbeats 8000000 in
theorem join_sum {w mean mg mb} (t : Tok) (O P : Addr) (a0 a1 a2 a3 b0 b1 b2 b3 : Int) (sa : Sz4 a0 a1 a2 a3) (sb : Sz4 b0 b1 b2 b3) (n1 : a1 * b1 ≠ 0) (n2 : a3 * b3 ≠ 0) :
    PC w mean mg mb 134 [.str (Str.ofString "sum") t, .ref O, .ref P] 160 (fun h => BoundsAt h O a0 a1 a2 a3 ∧ BoundsAt h P b0 b1 b2 b3)
      (fun H h' v => PairOf H h' v (addP a0 a1 b0 b1) (addQ a0 a1 b0 b1) (addP a2 a3 b2 b3) (addQ a2 a3 b2 b3)) := by
  k_with_none
  k_with "callpc" => first | ((rename News _ _ _ _ => pN'); refine' pc_use (radd_pc A0 B0 a0 a1 b0 b1 sa.1 sa.2.1 sb.1 sb.2.1 n1) ?pF pN' ?pX ?pT ?pd ?pu ?pp ?_; (case pF => k_asm); (case pX => k_asm); (case pT => k_asm); (case pd => ((try dsimp only [arnd, Around.deeper]); omega)); (case pu => ((try dsimp only [arnd, Around.deeper]); omega)); (case pp => exact ⟨hA0.keeps (Fr.keep (by k_asm)), hB0.keeps (Fr.keep (by k_asm))⟩); clear pN'; intro v' h' tk' F' G' st' r'; (obtain ⟨D', t1', t2', rfl, nw'⟩ := r'; have N' := G' _ nw'; (try simp only [List.cons_append, List.nil_append] at N'); clear G' nw'); (try k_sweep))| ((rename News _ _ _ _ => pN'); refine' pc_use (radd_pc A1 B1 a2 a3 b2 b3 sa.2.2.1 sa.2.2.2 sb.2.2.1 sb.2.2.2 n2) ?pF pN' ?pX ?pT ?pd ?pu ?pp ?_; (case pF => k_asm); (case pX => k_asm); (case pT => k_asm); (case pd => ((try dsimp only [arnd, Around.deeper]); omega)); (case pu => ((try dsimp only [arnd, Around.deeper]); omega)); (case pp => exact ⟨hA1.keeps (Fr.keep (by k_asm)), hB1.keeps (Fr.keep (by k_asm))⟩); clear pN'; intro v' h' tk' F' G' st' r'; (obtain ⟨D', t1', t2', rfl, nw'⟩ := r'; have N' := G' _ nw'; (try simp only [List.cons_append, List.nil_append] at N'); clear G' nw'); (try k_sweep))
  k_with "pcend" => exact pairOf_end (by k_asm) (by k_mem) (by k_mem) (by k_mem) (addP_def _ _ _ _) (addQ_def _ _ _ _) (addP_def _ _ _ _) (addQ_def _ _ _ _)
  refine' pc_enterC (binds := [(Str.ofString "kind", .str (Str.ofString "sum") t), (Str.ofString "one", .ref O), (Str.ofString "other", .ref P)]) ?k1 ?k2 ?k3 ?k4 ?k5 ?kD ?_ ?c2 ?c3 ?c4
  case k1 => k_dflt k_is
  case k2 => k_dflt k_is
  case k3 => decide
  case k4 => intro s; exact BindsTo.of_eq rfl
  case k5 => exact rfl
  case kD => decide +kernel
  case c2 => exact rfl
  case c3 => exact rfl
  case c4 => exact rfl
  intro dp un fr gd s Q L h₁ tk cells F N Y X T hp hd hu
  k_cells Y
  (try simp only [List.cons_append, List.nil_append] at N)
  try dsimp only
  with_reducible show wpAny _ _ _ _ _ _
  k_fold
  obtain ⟨⟨A0, A1, hO, hA0, hA1⟩, ⟨B0, B1, hP, hB0, hB1⟩⟩ := hp
  repeat' (first | (k_unfold; (try dsimp only)) | walk1 | (dsimp only; walk1) | (dsimp only; k_unfold; (try dsimp only)) | (leave1; walk_say "STEP leave1"; try dsimp only) | fail "no step")
end
section
section
variable {prog : Program} {w : World} {A : Around} {E : Value → Shared → Prop} {R : Result → Shared → Prop} {s : Shared}

theorem no_err {α : Type} {M : Model} {t : Sem α} {Q : α → Shared → Prop} {E' : Value → Shared → Prop} {s : Shared} (h : wpAny M A t Q (fun _ _ => False) s) : wpAny M A t Q E' s :=
  wpAny_mono h (fun _ _ q => q) fun _ _ x => x.elim

/-- the forIn over a comprehension's tests -/
abbrev testsOf (ifs : List Expr) (env : Env) : Sem Bool := forIn ifs true fun c r => if r = true then do let ok ← isTrue c env (eval c env); pure (ForInStep.yield ok) else pure (ForInStep.yield r)

/-- one turn of the only clause -/
theorem turn0 {elt target iter : Expr} {ifs : List Expr} {scope : Scope} {pos : Pos} {it acc : Value} {env : Env} (ht : ∀ v, letOwnedTupleGo target it v = pure ())
    (h : wpAny (model prog w) A (pyNext it) (fun r s₁ => match r with
      | none => R (.ok .next) s₁
      | some v => wpAny (model prog w) A (assign target env v) (fun _ s₂ =>
          wpAny (model prog w) A (testsOf ifs env) (fun ok s₃ =>
            if ok = true then wpAny (model prog w) A (eval elt env) (fun x s₄ =>
              wpAny (model prog w) A (call (.builtin "list.append") [acc, x]) (fun _ s₅ => codeAny (model prog w) A (.compLoop (.ListComp elt [⟨target, iter, ifs, 0⟩] scope pos) 0 it acc env) R s₅) (fun _ _ => False) s₄) (fun _ _ => False) s₃
            else codeAny (model prog w) A (.compLoop (.ListComp elt [⟨target, iter, ifs, 0⟩] scope pos) 0 it acc env) R s₃) (fun _ _ => False) s₂) (fun _ _ => False) s₁) (fun _ _ => False) s) :
    codeAny (model prog w) A (.compLoop (.ListComp elt [⟨target, iter, ifs, 0⟩] scope pos) 0 it acc env) R s := by
  refine codeAny_of_tree ?_
  show wpAny _ A ((compTurn (.ListComp elt [⟨target, iter, ifs, 0⟩] scope pos) 0 it acc env).onRaise (fun x => do noteFrame x env; theTreesLotGoes x)) _ _ s
  refine wpAny_noted (no_err ?_)
  rw [compTurn_list]
  refine wpAny_bind (wpAny_standAt (wpAny_bind (wpAny_mono h (fun r s₁ h₁ => ?_) fun _ _ h' => h')))
  cases r with
  | none => exact wpAny_pure h₁
  | some v =>
    refine wpAny_bind (wpAny_of_eq (ht v) ?_)
    refine wpAny_bind (wpAny_mono h₁ (fun _ s₂ h₂ => wpAny_bind (wpAny_mono h₂ (fun ok s₃ h₃ => ?_) fun _ _ h' => h')) fun _ _ h' => h')
    cases ok with
    | false => exact wpAny_pure ⟨rfl, h₃⟩
    | true => exact wpAny_bind (wpAny_bind (wpAny_mono h₃ (fun x s₄ h₄ => wpAny_bind (wpAny_mono h₄ (fun _ s₅ h₅ => wpAny_pure (wpAny_pure ⟨rfl, h₅⟩)) fun _ _ h' => h')) fun _ _ h' => h'))

/-- one turn of the inner of two clauses -/
theorem turn1 {elt target iter : Expr} {g : Comprehension} {scope : Scope} {pos : Pos} {it acc : Value} {env : Env} (ht : ∀ v, letOwnedTupleGo target it v = pure ())
    (h : wpAny (model prog w) A (pyNext it) (fun r s₁ => match r with
      | none => R (.ok .next) s₁
      | some v => wpAny (model prog w) A (assign target env v) (fun _ s₃ =>
            wpAny (model prog w) A (eval elt env) (fun x s₄ =>
              wpAny (model prog w) A (call (.builtin "list.append") [acc, x]) (fun _ s₅ => codeAny (model prog w) A (.compLoop (.ListComp elt [g, ⟨target, iter, [], 0⟩] scope pos) 1 it acc env) R s₅) (fun _ _ => False) s₄) (fun _ _ => False) s₃) (fun _ _ => False) s₁) (fun _ _ => False) s) :
    codeAny (model prog w) A (.compLoop (.ListComp elt [g, ⟨target, iter, [], 0⟩] scope pos) 1 it acc env) R s := by
  refine codeAny_of_tree ?_
  show wpAny _ A ((compTurn (.ListComp elt [g, ⟨target, iter, [], 0⟩] scope pos) 1 it acc env).onRaise (fun x => do noteFrame x env; theTreesLotGoes x)) _ _ s
  refine wpAny_noted (no_err ?_)
  show wpAny _ A (standAt iter.pos >>= fun _ => pyNext it >>= fun r => match r with
      | none => pure (.done .next)
      | some v => letOwnedTupleGo target it v >>= fun _ => assign target env v >>= fun _ =>
        (eval elt env >>= fun x => call (.builtin "list.append") [acc, x] >>= fun _ => pure ()) >>= fun _ =>
          again (.compLoop (.ListComp elt [g, ⟨target, iter, [], 0⟩] scope pos) 1 it acc env)) _ _ s
  refine wpAny_bind (wpAny_standAt (wpAny_bind (wpAny_mono h (fun r s₁ h₁ => ?_) fun _ _ h' => h')))
  cases r with
  | none => exact wpAny_pure h₁
  | some v =>
    refine wpAny_bind (wpAny_of_eq (ht v) ?_)
    refine wpAny_bind (wpAny_mono h₁ (fun _ s₃ h₃ => ?_) fun _ _ h' => h')
    exact wpAny_bind (wpAny_bind (wpAny_mono h₃ (fun x s₄ h₄ => wpAny_bind (wpAny_mono h₄ (fun _ s₅ h₅ => wpAny_pure (wpAny_pure ⟨rfl, h₅⟩)) fun _ _ h' => h')) fun _ _ h' => h'))

/-- one turn of the outer of two clauses -/
theorem turnO {elt target iter target1 iter1 : Expr} {scope : Scope} {pos : Pos} {it acc : Value} {env : Env} (ht : ∀ v, letOwnedTupleGo target it v = pure ()) (hs : ∀ x, foldedSetIterable iter1 env x = pure x) (hh : A.handled = none)
    (h : wpAny (model prog w) A (pyNext it) (fun r s₁ => match r with
      | none => R (.ok .next) s₁
      | some v => wpAny (model prog w) A (assign target env v) (fun _ s₂ => wpAny (model prog w) A (eval iter1 env) (fun xv s₃ => wpAny (model prog w) A (pyIter xv) (fun it1 s₄ =>
          codeAny (model prog w) A (.compStart (.ListComp elt [⟨target, iter, [], 0⟩, ⟨target1, iter1, [], 0⟩] scope pos) 1 it1 acc env) (fun r s₅ => match r with
            | .ok _ => codeAny (model prog w) A (.compLoop (.ListComp elt [⟨target, iter, [], 0⟩, ⟨target1, iter1, [], 0⟩] scope pos) 0 it acc env) R s₅
            | .error _ => False) s₄) (fun _ _ => False) s₃) (fun _ _ => False) s₂) (fun _ _ => False) s₁) (fun _ _ => False) s) :
    codeAny (model prog w) A (.compLoop (.ListComp elt [⟨target, iter, [], 0⟩, ⟨target1, iter1, [], 0⟩] scope pos) 0 it acc env) R s := by
  refine codeAny_of_tree ?_
  show wpAny _ A ((compTurn (.ListComp elt [⟨target, iter, [], 0⟩, ⟨target1, iter1, [], 0⟩] scope pos) 0 it acc env).onRaise (fun x => do noteFrame x env; theTreesLotGoes x)) _ _ s
  refine wpAny_noted (no_err ?_)
  show wpAny _ A (standAt iter.pos >>= fun _ => pyNext it >>= fun r => match r with
      | none => pure (.done .next)
      | some v => letOwnedTupleGo target it v >>= fun _ => assign target env v >>= fun _ =>
        eval iter1 env >>= fun x => standAt iter1.pos >>= fun _ => foldedSetIterable iter1 env x >>= fun x => holding [x] (pyIter x) >>= fun it1 => runOwn (.compStart (.ListComp elt [⟨target, iter, [], 0⟩, ⟨target1, iter1, [], 0⟩] scope pos) 1 it1 acc env) env >>= fun _ =>
          again (.compLoop (.ListComp elt [⟨target, iter, [], 0⟩, ⟨target1, iter1, [], 0⟩] scope pos) 0 it acc env)) _ _ s
  refine wpAny_bind (wpAny_standAt (wpAny_bind (wpAny_mono h (fun r s₁ h₁ => ?_) fun _ _ h' => h')))
  cases r with
  | none => exact wpAny_pure h₁
  | some v =>
    refine wpAny_bind (wpAny_of_eq (ht v) ?_)
    refine wpAny_bind (wpAny_mono h₁ (fun _ s₂ h₂ => wpAny_bind (wpAny_mono h₂ (fun xv s₃ h₃ => wpAny_bind (wpAny_standAt (wpAny_bind (wpAny_of_eq (hs xv) (wpAny_bind (wpAny_holding (wpAny_mono h₃ (fun it1 s₄ h₄ => ?_) fun _ _ h' => h'))))))) fun _ _ h' => h')) fun _ _ h' => h')
    have h₅ : codeAny (model prog w) (A.mark none) (.compStart (.ListComp elt [⟨target, iter, [], 0⟩, ⟨target1, iter1, [], 0⟩] scope pos) 1 it1 acc env) (fun r s₅ => match r with
            | .ok _ => codeAny (model prog w) A (.compLoop (.ListComp elt [⟨target, iter, [], 0⟩, ⟨target1, iter1, [], 0⟩] scope pos) 0 it acc env) R s₅
            | .error _ => False) s₄ := h₄
    refine wpAny_bind (wpAny_runOwn (codeAny_mono h₅ fun r s₅ hr => ?_))
    cases r with
    | ok f => exact wpAny_pure ⟨rfl, hr⟩
    | error e => exact hr.elim

theorem compStart1 {elt target iter g ifs scope pos it acc env}
    (h0 : codeAny (model prog w) A (.compLoop (.ListComp elt [g, ⟨target, iter, ifs, 0⟩] scope pos) 1 it acc env) R s)
    (h : wpAny (model prog w) A (pyIter it) (fun it' s' => codeAny (model prog w) A (.compLoop (.ListComp elt [g, ⟨target, iter, ifs, 0⟩] scope pos) 1 it' acc env) R s')
      (fun _ _ => False) s) :
    codeAny (model prog w) A (.compStart (.ListComp elt [g, ⟨target, iter, ifs, 0⟩] scope pos) 1 it acc env) R s := by
  refine codeAny_of_tree ?_
  show wpAny _ _ ((compStart (.ListComp elt [g, ⟨target, iter, ifs, 0⟩] scope pos) 1 it acc env).onRaise (fun x => do noteFrame x env; standAt theWindowsPlace)) _ _ s
  refine wpAny_notedAt (no_err ?_)
  unfold compStart
  show wpAny _ _ (ask >>= _) _ _ s
  refine wpAny_bind (wpAny_askSetting (wpAny_ite ?_))
  split
  · first
      | exact wpAny_bind (wpAny_pure (wpAny_pure (And.intro rfl h0)))
      | exact wpAny_pure (And.intro rfl h0)
  · first
      | exact wpAny_bind (wpAny_rule (wpAny_bind (wpAny_standAt (wpAny_bind (wpAny_mono h (fun it' s' h' => wpAny_pure (And.intro rfl h')) fun _ _ x => x)))))
      | (refine wpAny_bind (wpAny_rule ?_); show wpAny _ _ (standAt iter.pos >>= _) _ _ s; exact wpAny_bind (wpAny_standAt (wpAny_bind (wpAny_mono h (fun it' s' h' => wpAny_pure (And.intro rfl h')) fun _ _ x => x))))
end

abbrev lstO (ys : List Value) : Obj := { cls := .type "list", data := .seq ys.toArray ys.length }
theorem lstO_snoc (ys : List Value) (y : Value) : ({ cls := .type "list", data := .seq (ys.toArray.push y) (ys.length + 1) } : Obj) = lstO (ys ++ [y]) := by
  show ({ cls := .type "list", data := .seq (ys.toArray.push y) (ys.length + 1) } : Obj) = { cls := .type "list", data := .seq (ys ++ [y]).toArray (ys ++ [y]).length }
  rw [List.length_append, List.length_singleton, List.push_toArray]

/-- what stands while a comprehension runs: its own frame C, its list D, its iterators Is; the outer frame and the ledger P -/
structure CInv (H : Heap) (L : Addr) (m : Str → Option Value) (Is : List Addr) (C D : Addr) (ys : List Value) (P : List (Addr × Obj)) (mC : Str → Option Value) (h : Heap) : Prop where
  F : Fr H L h m
  N : News H L h P
  hC : h.Ns C mC
  hD : h.get? D = some (lstO ys)
  CL : C ≠ L
  DL : D ≠ L
  CD : C ≠ D
  C0 : H.get? C = none
  D0 : H.get? D = none
  offC : ∀ p ∈ P, p.1 ≠ C
  offD : ∀ p ∈ P, p.1 ≠ D
  its : ∀ I ∈ Is, I ≠ L ∧ I ≠ C ∧ I ≠ D ∧ H.get? I = none ∧ (∀ p ∈ P, p.1 ≠ I) ∧ ∃ o, h.get? I = some o
theorem CInv.liveC {H : Heap} {L : Addr} {m : Str → Option Value} {Is : List Addr} {C D : Addr} {ys : List Value} {P : List (Addr × Obj)} {mC : Str → Option Value} {h : Heap} (x : CInv H L m Is C D ys P mC h) : ∃ o, h.get? C = some o := by
  obtain ⟨o, _, _, e, _⟩ := x.hC
  exact ⟨o, e⟩
/-- something new was made, nothing else was turned -/
theorem CInv.ext {H : Heap} {L : Addr} {m : Str → Option Value} {Is : List Addr} {C D : Addr} {ys : List Value} {P l : List (Addr × Obj)} {mC : Str → Option Value} {h h' : Heap} (x : CInv H L m Is C D ys P mC h) (st : h.StaysIn h') (n : NewL h h' l) :
    CInv H L m Is C D ys (l ++ P) mC h' := by
  have ne : ∀ b o, h.get? b = some o → ∀ p ∈ l, p.1 ≠ b := fun b o e p hp q => by have := (n p hp).2; rw [q, e] at this; cases this
  refine ⟨fr_stays x.F st, NewL.app x.F x.N st n, x.hC.keeps st, st _ _ x.hD, x.CL, x.DL, x.CD, x.C0, x.D0, fun p hp => ?_, fun p hp => ?_, fun I hI => ?_⟩
  · rcases List.mem_append.mp hp with hp | hp
    · obtain ⟨o, e⟩ := x.liveC; exact ne _ o e p hp
    · exact x.offC p hp
  · rcases List.mem_append.mp hp with hp | hp
    · exact ne _ _ x.hD p hp
    · exact x.offD p hp
  · obtain ⟨a, b, c, d, e, o, eo⟩ := x.its I hI
    refine ⟨a, b, c, d, fun p hp => ?_, o, st _ _ eo⟩
    rcases List.mem_append.mp hp with hp | hp
    · exact ne _ o eo p hp
    · exact e p hp
/-- an iterator was turned -/
theorem CInv.iter {H : Heap} {L : Addr} {m : Str → Option Value} {Is : List Addr} {C D I : Addr} {ys : List Value} {P : List (Addr × Obj)} {mC : Str → Option Value} {h h' : Heap} (x : CInv H L m Is C D ys P mC h) (hI : I ∈ Is)
    (hk : ∀ b o, b ∉ [I] → h.get? b = some o → h'.get? b = some o) (ho : ∃ o, h'.get? I = some o) : CInv H L m Is C D ys P mC h' := by
  obtain ⟨a, b, c, d, e, _⟩ := x.its I hI
  have k : ∀ z o, z ≠ I → h.get? z = some o → h'.get? z = some o := fun z o n => hk z o (by simpa using n)
  refine ⟨⟨x.F.ns.at' fun o => k _ o (Ne.symm a), fun z o q => k z o (fun r => by rw [r, d] at q; cases q) (x.F.keep z o q), x.F.above⟩, fun p hp => ⟨k _ _ (e p hp) (x.N p hp).1, (x.N p hp).2⟩, x.hC.at' fun o => k _ o (Ne.symm b), k _ _ (Ne.symm c) x.hD, x.CL, x.DL, x.CD, x.C0, x.D0, x.offC, x.offD, fun J hJ => ?_⟩
  obtain ⟨a', b', c', d', e', o, eo⟩ := x.its J hJ
  refine ⟨a', b', c', d', e', ?_⟩
  by_cases q : J = I
  · rw [q]; exact ho
  · exact ⟨o, k _ _ q eo⟩
/-- a name of the comprehension's frame was stored -/
theorem CInv.store {H : Heap} {L : Addr} {m : Str → Option Value} {Is : List Addr} {C D : Addr} {ys : List Value} {P : List (Addr × Obj)} {mC mC' : Str → Option Value} {h h' : Heap} (x : CInv H L m Is C D ys P mC h)
    (hn : h'.Ns C mC') (hs : Heap.SameBut C h h') : CInv H L m Is C D ys P mC' h' := by
  refine ⟨x.F.change hs x.CL x.C0, fun p hp => ⟨(hs.2 _ (x.offC p hp)).trans (x.N p hp).1, (x.N p hp).2⟩, hn, (hs.2 _ (Ne.symm x.CD)).trans x.hD, x.CL, x.DL, x.CD, x.C0, x.D0, x.offC, x.offD, fun J hJ => ?_⟩
  obtain ⟨a', b', c', d', e', o, eo⟩ := x.its J hJ
  exact ⟨a', b', c', d', e', o, (hs.2 _ b').trans eo⟩
/-- the list got an item -/
theorem CInv.app {H : Heap} {L : Addr} {m : Str → Option Value} {Is : List Addr} {C D : Addr} {ys ys' : List Value} {P : List (Addr × Obj)} {mC : Str → Option Value} {h h' : Heap} (x : CInv H L m Is C D ys P mC h)
    (hd : h'.get? D = some (lstO ys')) (hs : Heap.SameBut D h h') : CInv H L m Is C D ys' P mC h' := by
  refine ⟨x.F.change hs x.DL x.D0, fun p hp => ⟨(hs.2 _ (x.offD p hp)).trans (x.N p hp).1, (x.N p hp).2⟩, x.hC.sameBut hs x.CD, hd, x.CL, x.DL, x.CD, x.C0, x.D0, x.offC, x.offD, fun J hJ => ?_⟩
  obtain ⟨a', b', c', d', e', o, eo⟩ := x.its J hJ
  exact ⟨a', b', c', d', e', o, (hs.2 _ c').trans eo⟩
/-- one more iterator -/
theorem CInv.more {H : Heap} {L : Addr} {m : Str → Option Value} {Is : List Addr} {C D I : Addr} {ys : List Value} {P : List (Addr × Obj)} {mC : Str → Option Value} {h h' : Heap} {o : Obj} (x : CInv H L m Is C D ys P mC h)
    (st : h.StaysIn h') (hI : h.get? I = none) (ho : h'.get? I = some o) : CInv H L m (I :: Is) C D ys P mC h' := by
  have y : CInv H L m Is C D ys P mC h' := x.ext (l := []) st NewL.nil
  refine ⟨y.F, y.N, y.hC, y.hD, y.CL, y.DL, y.CD, y.C0, y.D0, y.offC, y.offD, fun J hJ => ?_⟩
  rcases List.mem_cons.mp hJ with rfl | hJ
  · have ne : ∀ b o, h.get? b = some o → J ≠ b := fun b o e q => by rw [← q, hI] at e; cases e
    obtain ⟨oL, _, _, eL, _⟩ := x.F.ns
    obtain ⟨oC, eC⟩ := x.liveC
    refine ⟨ne _ _ eL, ne _ _ eC, ne _ _ x.hD, ?_, fun p hp => Ne.symm (ne _ _ (x.N p hp).1), o, ho⟩
    cases q : H.get? J with
    | none => rfl
    | some o' => have := x.F.keep _ _ q; rw [hI] at this; cases this
  · exact y.its J hJ
/-- the iterators are let go -/
theorem CInv.less {H : Heap} {L : Addr} {m : Str → Option Value} {Is Is' : List Addr} {C D : Addr} {ys : List Value} {P : List (Addr × Obj)} {mC : Str → Option Value} {h : Heap} (x : CInv H L m Is C D ys P mC h) (hs : ∀ I ∈ Is', I ∈ Is) : CInv H L m Is' C D ys P mC h :=
  ⟨x.F, x.N, x.hC, x.hD, x.CL, x.DL, x.CD, x.C0, x.D0, x.offC, x.offD, fun I hI => x.its I (hs I hI)⟩
/-- an iterator was run to its end -/
theorem CInv.drop {H : Heap} {L : Addr} {m : Str → Option Value} {Is : List Addr} {C D I : Addr} {ys : List Value} {P : List (Addr × Obj)} {mC : Str → Option Value} {h h' : Heap} (x : CInv H L m (I :: Is) C D ys P mC h) (hne : ∀ J ∈ Is, J ≠ I)
    (hk : ∀ b o, b ∉ [I] → h.get? b = some o → h'.get? b = some o) : CInv H L m Is C D ys P mC h' := by
  obtain ⟨a, b, c, d, e, _⟩ := x.its I (List.mem_cons_self ..)
  have k : ∀ z o, z ≠ I → h.get? z = some o → h'.get? z = some o := fun z o n => hk z o (by simpa using n)
  refine ⟨⟨x.F.ns.at' fun o => k _ o (Ne.symm a), fun z o q => k z o (fun r => by rw [r, d] at q; cases q) (x.F.keep z o q), x.F.above⟩, fun p hp => ⟨k _ _ (e p hp) (x.N p hp).1, (x.N p hp).2⟩, x.hC.at' fun o => k _ o (Ne.symm b), k _ _ (Ne.symm c) x.hD, x.CL, x.DL, x.CD, x.C0, x.D0, x.offC, x.offD, fun J hJ => ?_⟩
  obtain ⟨a', b', c', d', e', o, eo⟩ := x.its J (List.mem_cons_of_mem _ hJ)
  exact ⟨a', b', c', d', e', o, k _ _ (hne J hJ) eo⟩
end
section
section
variable {prog : Program} {w : World} {A : Around} {R : Result → Shared → Prop} {s : Shared} {H : Heap} {L : Addr} {m : Str → Option Value} {env : Env}

/-- the turns of a comprehension of one clause -/
theorem run0 {elt iter : Expr} {x : Str} {px : Pos} {ifs : List Expr} {scope : Scope} {cl : List (Str × Addr)} {pos : Pos} {I C D : Addr} {fp : List Addr} {n : Nat} {P : Nat → Value → Prop} {St : Nat → Heap → Prop}
    (W : Walks prog w A I fp [I] n P St) (hsz : n ≤ sizeLine) (hIo : ∀ i h, St i h → ∃ o, h.get? I = some o) (hC : C ∉ fp) (hD : D ∉ fp) (hkind : scope.kind = .function) (hx : scope.names.lookup x = some .local)
    (J : Nat → List Value → List (Addr × Obj) → Prop)
    (turn : ∀ i v ys P₁ h tk mC, P i v → i < n → J i ys P₁ → CInv H L m [I] C D ys P₁ mC h → mC x = some v →
      wpAny (model prog w) A (testsOf ifs (compEnvC scope cl C env)) (fun ok s₁ => ∃ h₁ tk₁ l₁, s₁ = { s with heap := h₁, toks := tk₁ } ∧ h.StaysIn h₁ ∧ NewL h h₁ l₁ ∧
        if ok = true then wpAny (model prog w) A (eval elt (compEnvC scope cl C env)) (fun y s₂ => ∃ h₂ tk₂ l₂, s₂ = { s with heap := h₂, toks := tk₂ } ∧ h₁.StaysIn h₂ ∧ NewL h₁ h₂ l₂ ∧ J (i + 1) (ys ++ [y]) (l₂ ++ (l₁ ++ P₁))) (fun _ _ => False) s₁
        else J (i + 1) ys (l₁ ++ P₁)) (fun _ _ => False) { s with heap := h, toks := tk })
    (fin : ∀ ys P₁ h tk mC, J n ys P₁ → CInv H L m [] C D ys P₁ mC h → R (.ok .next) { s with heap := h, toks := tk }) :
    ∀ k i ys P₁ h tk mC, i + k = n → ys.length ≤ i → J i ys P₁ → CInv H L m [I] C D ys P₁ mC h → St i h →
      codeAny (model prog w) A (.compLoop (.ListComp elt [⟨.Name x px, iter, ifs, 0⟩] scope pos) 0 (.ref I) (.ref D) (compEnvC scope cl C env)) R { s with heap := h, toks := tk } := by
  intro k
  induction k with
  | zero =>
    intro i ys P₁ h tk mC hi hyl hJ x₀ st
    obtain rfl : i = n := by omega
    refine turn0 (fun _ => rfl) (W.done _ _ _ st fun h' tk' hk => ?_)
    exact fin ys P₁ h' tk' mC hJ (x₀.drop (fun _ h => nomatch h) hk)
  | succ k ih =>
    intro i ys P₁ h tk mC hi hyl hJ x₀ st
    refine turn0 (fun _ => rfl) (W.item i _ _ _ (by omega) st fun v h₂ tk₂ hP st₂ hk₂ => ?_)
    have x₁ := x₀.iter (I := I) (List.mem_singleton.mpr rfl) hk₂ (hIo _ _ st₂)
    refine wpAny_assign_Name (wpAny_storeName_local (lookup_relabel_local hx) x₁.hC (fun h₃ hn₃ hs₃ => ?_) (by simp [compEnvC, relabel, hkind]))
    have x₂ := x₁.store hn₃ hs₃
    have st₃ : St (i + 1) h₃ := W.frame _ _ _ st₂ fun b hb o e => (hs₃.2 b fun q => hC ((show b = C from q) ▸ hb)).trans e
    refine wpAny_mono (turn i v ys P₁ h₃ _ _ hP (by omega) hJ x₂ (by simp)) (fun ok s₁ h₁ => ?_) fun _ _ f => f
    obtain ⟨h₄, tk₄, l₁, rfl, sta, nw, r⟩ := h₁
    have x₃ := x₂.ext sta nw
    have st₄ : St (i + 1) h₄ := W.frame _ _ _ st₃ fun b _ o e => sta b o e
    cases ok with
    | false =>
      simp only [Bool.false_eq_true, if_false] at r ⊢
      exact ih (i + 1) ys _ h₄ tk₄ _ (by omega) (by omega) r x₃ st₄
    | true =>
      simp only [if_true] at r ⊢
      refine wpAny_mono r (fun y s₂ h₂ => ?_) fun _ _ f => f
      obtain ⟨h₅, tk₅, l₂, rfl, stb, nw₂, hJ₂⟩ := h₂
      have x₄ := x₃.ext stb nw₂
      have st₅ : St (i + 1) h₅ := W.frame _ _ _ st₄ fun b _ o e => stb b o e
      refine append_at (hsz := by show ys.toArray.size ≤ sizeLine; rw [List.size_toArray]; omega) x₄.hD fun h₆ hs₆ hD₆ => ?_
      have x₅ := x₄.app (hD₆.trans (congrArg some (lstO_snoc ys y))) hs₆
      exact ih (i + 1) (ys ++ [y]) _ h₆ tk₅ _ (by omega) (by rw [List.length_append, List.length_singleton]; omega) hJ₂ x₅ (W.frame _ _ _ st₅ fun b hb o e => (hs₆.2 b fun q => hD ((show b = D from q) ▸ hb)).trans e)

/-- the turns of the inner of two clauses -/
theorem run1 {elt iter : Expr} {g : Comprehension} {x y : Str} {px : Pos} {scope : Scope} {cl : List (Str × Addr)} {pos : Pos} {I C D : Addr} {Is fp : List Addr} {n : Nat} {P : Nat → Value → Prop} {St : Nat → Heap → Prop} {vx : Value} {b0 : Nat}
    (W : Walks prog w A I fp [I] n P St) (hsz : b0 + n ≤ sizeLine) (hIo : ∀ i h, St i h → ∃ o, h.get? I = some o) (hC : C ∉ fp) (hD : D ∉ fp) (hne : ∀ J ∈ Is, J ≠ I) (hkind : scope.kind = .function) (hx : scope.names.lookup x = some .local) (hxy : y ≠ x)
    (J : Nat → List Value → List (Addr × Obj) → Prop) (Kp : Heap → Prop) (hKp : ∀ h h' : Heap, Kp h → (∀ b o, b ≠ C → b ≠ D → b ≠ I → h.get? b = some o → h'.get? b = some o) → Kp h')
    (turn : ∀ i v ys P₁ h tk mC, P i v → i < n → J i ys P₁ → CInv H L m (I :: Is) C D ys P₁ mC h → mC x = some v → mC y = some vx →
      wpAny (model prog w) A (eval elt (compEnvC scope cl C env)) (fun r s₂ => ∃ h₂ tk₂ l₂, s₂ = { s with heap := h₂, toks := tk₂ } ∧ h.StaysIn h₂ ∧ NewL h h₂ l₂ ∧ J (i + 1) (ys ++ [r]) (l₂ ++ P₁)) (fun _ _ => False) { s with heap := h, toks := tk })
    (fin : ∀ ys P₁ h tk mC, J n ys P₁ → Kp h → ys.length ≤ b0 + n → CInv H L m Is C D ys P₁ mC h → R (.ok .next) { s with heap := h, toks := tk }) :
    ∀ k i ys P₁ h tk mC, i + k = n → ys.length ≤ b0 + i → J i ys P₁ → CInv H L m (I :: Is) C D ys P₁ mC h → mC y = some vx → St i h → Kp h →
      codeAny (model prog w) A (.compLoop (.ListComp elt [g, ⟨.Name x px, iter, [], 0⟩] scope pos) 1 (.ref I) (.ref D) (compEnvC scope cl C env)) R { s with heap := h, toks := tk } := by
  intro k
  induction k with
  | zero =>
    intro i ys P₁ h tk mC hi hyl hJ x₀ hy st kp
    obtain rfl : i = n := by omega
    exact turn1 (fun _ => rfl) (W.done _ _ _ st fun h' tk' hk => fin ys P₁ h' tk' mC hJ (hKp _ _ kp fun b o _ _ n e => hk b o (by simpa using n) e) hyl (x₀.drop hne hk))
  | succ k ih =>
    intro i ys P₁ h tk mC hi hyl hJ x₀ hy st kp
    refine turn1 (fun _ => rfl) (W.item i _ _ _ (by omega) st fun v h₂ tk₂ hP st₂ hk₂ => ?_)
    have kp₁ := hKp _ _ kp fun b o _ _ n e => hk₂ b o (by simpa using n) e
    have x₁ := x₀.iter (I := I) (List.mem_cons_self ..) hk₂ (hIo _ _ st₂)
    refine wpAny_assign_Name (wpAny_storeName_local (lookup_relabel_local hx) x₁.hC (fun h₃ hn₃ hs₃ => ?_) (by simp [compEnvC, relabel, hkind]))
    have x₂ := x₁.store hn₃ hs₃
    have kp₂ := hKp _ _ kp₁ fun b o nc _ _ e => (hs₃.2 b nc).trans e
    have st₃ : St (i + 1) h₃ := W.frame _ _ _ st₂ fun b hb o e => (hs₃.2 b fun q => hC ((show b = C from q) ▸ hb)).trans e
    refine wpAny_mono (turn i v ys P₁ h₃ _ _ hP (by omega) hJ x₂ (by simp) (by simp only [if_neg hxy]; exact hy)) (fun r s₂ h₂ => ?_) fun _ _ f => f
    obtain ⟨h₅, tk₅, l₂, rfl, stb, nw₂, hJ₂⟩ := h₂
    have x₄ := x₂.ext stb nw₂
    have kp₃ := hKp _ _ kp₂ fun b o _ _ _ e => stb b o e
    have st₅ : St (i + 1) h₅ := W.frame _ _ _ st₃ fun b _ o e => stb b o e
    refine append_at (hsz := by show ys.toArray.size ≤ sizeLine; rw [List.size_toArray]; omega) x₄.hD fun h₆ hs₆ hD₆ => ?_
    have x₅ := x₄.app (hD₆.trans (congrArg some (lstO_snoc ys r))) hs₆
    exact ih (i + 1) (ys ++ [r]) _ h₆ tk₅ _ (by omega) (by rw [List.length_append, List.length_singleton]; omega) hJ₂ x₅ (by simp only [if_neg hxy]; exact hy) (W.frame _ _ _ st₅ fun b hb o e => (hs₆.2 b fun q => hD ((show b = D from q) ▸ hb)).trans e) (hKp _ _ kp₃ fun b o _ nd _ e => (hs₆.2 b nd).trans e)

/-- the turns of the outer of two clauses over two tuples -/
theorem runO {elt iter iter1 : Expr} {x y : Str} {px py : Pos} {scope : Scope} {cl : List (Str × Addr)} {pos : Pos} {I C D O1 : Addr} {fp : List Addr} {n : Nat} {P : Nat → Value → Prop} {St : Nat → Heap → Prop} {its1 : Array Value}
    (W : Walks prog w A I fp [I] n P St) (hh : A.handled = none) (hsz : n * its1.size ≤ sizeLine) (hlive : ∀ i h, St i h → ∀ b ∈ fp, ∃ o, h.get? b = some o) (hC : C ∉ fp) (hD : D ∉ fp) (hkind : scope.kind = .function)
    (hx : scope.names.lookup x = some .local) (hy : scope.names.lookup y = some .local) (hxy : x ≠ y) (hs : ∀ v, foldedSetIterable iter1 (compEnvC scope cl C env) v = pure v) (hO : IsTup H O1 its1)
    (J : Nat → Nat → List Value → List (Addr × Obj) → Prop) (hJ0 : ∀ i ys P₁, J i its1.size ys P₁ → J (i + 1) 0 ys P₁)
    (hit : ∀ i ys P₁ h tk mC, J i 0 ys P₁ → CInv H L m [I] C D ys P₁ mC h → wpAny (model prog w) A (eval iter1 (compEnvC scope cl C env)) (fun xv s₁ => xv = .ref O1 ∧ s₁ = { s with heap := h, toks := tk }) (fun _ _ => False) { s with heap := h, toks := tk })
    (turn : ∀ i v j u ys P₁ Is h tk mC, P i v → i < n → its1[j]? = some u → J i j ys P₁ → CInv H L m Is C D ys P₁ mC h → mC x = some v → mC y = some u →
      wpAny (model prog w) A (eval elt (compEnvC scope cl C env)) (fun r s₂ => ∃ h₂ tk₂ l₂, s₂ = { s with heap := h₂, toks := tk₂ } ∧ h.StaysIn h₂ ∧ NewL h h₂ l₂ ∧ J i (j + 1) (ys ++ [r]) (l₂ ++ P₁)) (fun _ _ => False) { s with heap := h, toks := tk })
    (fin : ∀ ys P₁ h tk mC, J n 0 ys P₁ → CInv H L m [] C D ys P₁ mC h → R (.ok .next) { s with heap := h, toks := tk }) :
    ∀ k i ys P₁ h tk mC, i + k = n → ys.length ≤ i * its1.size → J i 0 ys P₁ → CInv H L m [I] C D ys P₁ mC h → St i h →
      codeAny (model prog w) A (.compLoop (.ListComp elt [⟨.Name x px, iter, [], 0⟩, ⟨.Name y py, iter1, [], 0⟩] scope pos) 0 (.ref I) (.ref D) (compEnvC scope cl C env)) R { s with heap := h, toks := tk } := by
  have hIo : ∀ i h, St i h → ∃ o, h.get? I = some o := fun i h st => hlive i h st I (W.sub I (List.mem_singleton.mpr rfl))
  intro k
  induction k with
  | zero =>
    intro i ys P₁ h tk mC hi hyl hJ x₀ st
    obtain rfl : i = n := by omega
    exact turnO (fun _ => rfl) hs hh (W.done _ _ _ st fun h' tk' hk => fin ys P₁ h' tk' mC hJ (x₀.drop (fun _ h => nomatch h) hk))
  | succ k ih =>
    intro i ys P₁ h tk mC hi hyl hJ x₀ st
    refine turnO (fun _ => rfl) hs hh (W.item i _ _ _ (by omega) st fun v h₂ tk₂ hP st₂ hk₂ => ?_)
    have x₁ := x₀.iter (I := I) (List.mem_cons_self ..) hk₂ (hIo _ _ st₂)
    refine wpAny_assign_Name (wpAny_storeName_local (lookup_relabel_local hx) x₁.hC (fun h₃ hn₃ hs₃ => ?_) (by simp [compEnvC, relabel, hkind]))
    have x₂ := x₁.store hn₃ hs₃
    have st₃ : St (i + 1) h₃ := W.frame _ _ _ st₂ fun b hb o e => (hs₃.2 b fun q => hC ((show b = C from q) ▸ hb)).trans e
    refine wpAny_mono (hit i ys P₁ h₃ _ _ hJ x₂) (fun xv s₃ hq => ?_) fun _ _ f => f
    obtain ⟨rfl, rfl⟩ := hq
    have hO₃ : IsTup h₃ O1 its1 := IsTup.keeps hO x₂.F.keep
    have hlt : O1 < h₃.objs.size := by obtain ⟨_, e, _⟩ := hO₃; exact Heap.lt_size e
    refine iter_tuple hO₃ ?_
    have up : h₃.StaysIn (h₃.push { cls := .type "tuple_iterator", data := .fields #[.ref O1, .int 0 0] }) := fun b o e => Heap.get?_push_of_some _ e
    have hnone : h₃.get? h₃.objs.size = none := Heap.get?_none_of_le (Nat.le_refl _)
    have hnew : (h₃.push { cls := .type "tuple_iterator", data := .fields #[.ref O1, .int 0 0] }).get? h₃.objs.size = some { cls := .type "tuple_iterator", data := .fields #[.ref O1, .int 0 0] } := Heap.get?_push_size _ rfl
    have x₃ := x₂.more up hnone hnew
    have st₄ : St (i + 1) (h₃.push { cls := .type "tuple_iterator", data := .fields #[.ref O1, .int 0 0] }) := W.frame _ _ _ st₃ fun b _ o e => up b o e
    obtain ⟨oI, eI⟩ := hIo _ _ st₃
    obtain ⟨oC, eC⟩ := x₂.liveC
    have hlt' : ∀ b o, h₃.get? b = some o → b ≠ h₃.objs.size := fun b o e => Nat.ne_of_lt (Heap.lt_size e)
    have W1 := Walks.tuple (prog := prog) (w := w) hh h₃.objs.size O1 (Nat.ne_of_lt hlt) its1
    have hO0 : ∀ b, H.get? b = none → b ≠ O1 := fun b e q => by obtain ⟨o, eo, _⟩ := hO; rw [← q, e] at eo; cases eo
    have hCf : C ∉ [h₃.objs.size, O1] := by
      intro hm
      rcases List.mem_cons.mp hm with q | hm
      · exact hlt' _ _ eC q
      · exact hO0 _ x₂.C0 (List.mem_singleton.mp hm)
    have hDf : D ∉ [h₃.objs.size, O1] := by
      intro hm
      rcases List.mem_cons.mp hm with q | hm
      · exact hlt' _ _ x₂.hD q
      · exact hO0 _ x₂.D0 (List.mem_singleton.mp hm)
    have loop := run1 (R := fun r s₅ => match r with
            | .ok _ => codeAny (model prog w) A (.compLoop (.ListComp elt [⟨.Name x px, iter, [], 0⟩, ⟨.Name y py, iter1, [], 0⟩] scope pos) 0 (.ref I) (.ref D) (compEnvC scope cl C env)) R s₅
            | .error _ => False) (s := s) (elt := elt) (iter := iter1) (g := ⟨.Name x px, iter, [], 0⟩) (x := y) (y := x) (px := py) (scope := scope) (cl := cl) (pos := pos) (env := env) (vx := v) (b0 := i * its1.size) W1
      (Nat.le_trans (by have := Nat.mul_le_mul_right its1.size (show i + 1 ≤ n by omega); rw [Nat.add_mul, Nat.one_mul] at this; exact this) hsz) (fun _ _ st => by obtain ⟨o, e, _⟩ := st.1; exact ⟨o, e⟩) hCf hDf (Is := [I]) (fun J' hJ' => by rw [List.mem_singleton.mp hJ']; exact hlt' _ _ eI) hkind hy hxy (fun j ys P => J i j ys P) (fun h => St (i + 1) h) (fun h h' st k => W.frame _ _ _ st fun b hb o e => k b o (fun q => hC (q ▸ hb)) (fun q => hD (q ▸ hb)) (by obtain ⟨o', e'⟩ := hlive _ _ st₃ b hb; exact hlt' _ _ e') e)
      (fun j u ys P₁ h tk mC hu hj hJ x hyu hxv => turn i v j u ys P₁ _ h tk mC hP (by omega) hu hJ x hxv hyu)
      (fun ys₂ P₂ h' tk' mC' hJ' kp' hl' x' => ih (i + 1) ys₂ P₂ h' tk' mC' (by omega) (by rw [Nat.add_mul, Nat.one_mul]; exact hl') (hJ0 _ _ _ hJ') x' kp')
      its1.size 0 ys P₁ _ (tk₂ + 1) _ (by omega) hyl hJ x₃ (by simp) ⟨⟨_, hnew, rfl, rfl⟩, hO₃.keeps up⟩ st₄
    exact compStart1 loop (W1.self 0 _ _ _ ⟨⟨_, hnew, rfl, rfl⟩, hO₃.keeps up⟩ loop)
end
end
section
section
variable {prog : Program} {w : World} {A : Around} {E : Value → Shared → Prop} {s : Shared} {H : Heap} {L : Addr} {m : Str → Option Value} {env : Env} {news : List (Addr × Obj)}

theorem comp_core {elt target iter : Expr} {ifs : List Expr} {rest : List Comprehension} {scope : Scope} {cl : List (Str × Addr)} {pos : Pos} {I : Addr} {fp : List Addr} {n : Nat} {P : Nat → Value → Prop} {St : Nat → Heap → Prop} {RR : Value → Addr → Result → Shared → Prop}
    (W : Walks prog w A I fp [I] n P St) (hlive : ∀ i h, St i h → ∀ b ∈ fp, ∃ o, h.get? b = some o) (st0 : St 0 s.heap) (F : Fr H L s.heap m) (N : News H L s.heap news) (hIL : I ≠ L) (hI0 : H.get? I = none) (offI : ∀ p ∈ news, p.1 ≠ I)
    (hcell : ∀ y ∈ scope.names, y.2 ≠ .cell) (hkind : scope.kind = .function)
    (loop : ∀ C D h tk mC, CInv H L m [I] C D [] news mC h → St 0 h → C ∉ fp → D ∉ fp →
      codeAny (model prog w) A (.compLoop (.ListComp elt (⟨target, iter, ifs, 0⟩ :: rest) scope pos) 0 (.ref I) (.ref D) (compEnvC scope cl C env)) (RR (.ref D) C) { s with heap := h, toks := tk }) :
    wpAny (model prog w) A (newList []) (fun acc s₃ => wpAny (model prog w) A (newFunctionEnv scope env.globals cl [] env.qual none .none (some env)) (fun cenv s₄ =>
      codeAny (model prog w) A (.compStart (.ListComp elt (⟨target, iter, ifs, 0⟩ :: rest) scope pos) 0 (.ref I) acc { cenv with scope := relabel scope env }) (RR acc cenv.locals) s₄) E s₃) E s := by
  refine wpAny_newObj_type (wpAny_newFunctionEnv hcell (by intro y hy; simp at hy) (fun h₁ hns₁ hsb₁ => ?_) hkind)
  dsimp only at hns₁ hsb₁ ⊢
  generalize hH2 : s.heap.push { cls := .type "list", dict := none, data := .seq ([] : List Value).toArray } = H2 at hns₁ hsb₁ ⊢
  have hC : H2.objs.size = s.heap.objs.size + 1 := by rw [← hH2, Heap.size_push]
  have hDC : s.heap.objs.size ≠ H2.objs.size := by rw [hC]; exact Nat.ne_of_lt (Nat.lt_succ_self _)
  have below : ∀ b, b < s.heap.objs.size → b ≠ H2.objs.size ∧ b ≠ s.heap.objs.size := fun b hb => ⟨by rw [hC]; exact Nat.ne_of_lt (Nat.lt_succ_of_lt hb), Nat.ne_of_lt hb⟩
  have old : s.heap.StaysIn h₁ := fun b o e => hsb₁.extBut b o (below b (Heap.lt_size e)).1 (Heap.get?_push_of_some _ (hH2 ▸ Heap.get?_push_of_some _ e))
  have hacc : h₁.get? s.heap.objs.size = some (lstO []) := hsb₁.extBut _ _ hDC (Heap.get?_push_of_some _ (hH2 ▸ Heap.get?_push_size _ rfl))
  have fresh₀ : ∀ a, s.heap.objs.size ≤ a → H.get? a = none := fun a ha => by
    cases e : H.get? a with
    | none => rfl
    | some o' => exact absurd (Heap.lt_size (F.keep a o' e)) (Nat.not_lt.mpr ha)
  have hLlt : L < s.heap.objs.size := F.ns.lt
  have hlt : ∀ b ∈ fp, b < s.heap.objs.size := fun b hb => by obtain ⟨o, e⟩ := hlive _ _ st0 b hb; exact Heap.lt_size e
  have hIlt : I < s.heap.objs.size := hlt I (W.sub I (List.mem_singleton.mpr rfl))
  have st₁ : St 0 h₁ := W.frame _ _ _ st0 fun b _ o e => old b o e
  have x : CInv H L m [I] H2.objs.size s.heap.objs.size [] news (fun y => ([] : List (Str × Value)).reverse.lookup y) h₁ := by
    refine ⟨F.keeps old, N.grown old, hns₁, hacc, Ne.symm (below L hLlt).1, Ne.symm (below L hLlt).2, Ne.symm hDC, fresh₀ _ (by rw [hC]; exact Nat.le_succ _), fresh₀ _ (Nat.le_refl _), fun p hp => (below _ (Heap.lt_size (N p hp).1)).1, fun p hp => (below _ (Heap.lt_size (N p hp).1)).2, fun J hJ => ?_⟩
    rw [List.mem_singleton.mp hJ]
    obtain ⟨o, e⟩ := hlive _ _ st0 I (W.sub I (List.mem_singleton.mpr rfl))
    exact ⟨hIL, (below I hIlt).1, (below I hIlt).2, hI0, offI, o, old _ _ e⟩
  have hl := loop _ _ h₁ (s.toks + ([] : List (Str × Value)).length) _ x st₁ (fun hm => (below _ (hlt _ hm)).1 rfl) (fun hm => (below _ (hlt _ hm)).2 rfl)
  exact codeAny_compStart_list hl (W.self 0 _ _ _ st₁ hl)

/-- the end of a comprehension whose list is handed on -/
theorem compEnd {use : Option (Value → Sem Unit)} (hu : use = none) {Q : Value → Shared → Prop} {Is : List Addr} {C D : Addr} {ys : List Value} {P : List (Addr × Obj)} {mC : Str → Option Value} {h : Heap} {tk : Nat} (x : CInv H L m Is C D ys P mC h)
    (q : ∀ h', Fr H L h' m → News H L h' ((D, lstO ys) :: P) → (∀ p ∈ P, p.1 ≠ D) → Q (.ref D) { s with heap := h', toks := tk }) :
    compPost (model prog w) A E use Q (.ref D) C (.ok .next) { s with heap := h, toks := tk } := by
  subst hu
  refine ⟨mC, x.hC, fun h' hs => q h' (x.F.change hs x.CL x.C0) (fun p hp => ?_) x.offD⟩
  rcases List.mem_cons.mp hp with rfl | hp
  · exact ⟨(hs.2 _ (Ne.symm x.CD)).trans x.hD, x.DL, x.D0⟩
  · exact ⟨(hs.2 _ (x.offC p hp)).trans (x.N p hp).1, (x.N p hp).2⟩

theorem tup_live {I t : Addr} {its : Array Value} : ∀ i (h : Heap), (h.IsTupleIter I t i ∧ h.IsTuple t its) → ∀ b ∈ [I, t], ∃ o, h.get? b = some o := by
  intro i h st b hb
  rcases List.mem_cons.mp hb with rfl | hb
  · obtain ⟨o, e, _⟩ := st.1; exact ⟨o, e⟩
  · rw [List.mem_singleton.mp hb]; obtain ⟨o, e, _⟩ := st.2; exact ⟨o, e⟩
theorem list_live {I t : Addr} {its : Array Value} : ∀ i (h : Heap), (h.IsListIter I t i ∧ h.IsList t its) → ∀ b ∈ [I, t], ∃ o, h.get? b = some o := by
  intro i h st b hb
  rcases List.mem_cons.mp hb with rfl | hb
  · obtain ⟨o, e, _⟩ := st.1; exact ⟨o, e⟩
  · rw [List.mem_singleton.mp hb]; obtain ⟨o, e, _⟩ := st.2; exact ⟨o, e⟩

/-- what an element's evaluation brings -/
def TurnEnd (s : Shared) (h : Heap) (Jn : Value → List (Addr × Obj) → Prop) (r : Value) (s₂ : Shared) : Prop := ∃ h₂ tk₂ l₂, s₂ = { s with heap := h₂, toks := tk₂ } ∧ h.StaysIn h₂ ∧ NewL h h₂ l₂ ∧ Jn r l₂
/-- [elt for x in tuple0 for y in tuple1] -/
theorem comp22 {elt iter iter1 : Expr} {x y : Str} {px py : Pos} {scope : Scope} {cl : List (Str × Addr)} {pos : Pos} {Q : Value → Shared → Prop} {O0 O1 : Addr} {its0 its1 : Array Value}
    (F : Fr H L s.heap m) (N : News H L s.heap news) (hh : A.handled = none) (hclos : closureFor scope env = pure cl) (hcell : ∀ y ∈ scope.names, y.2 ≠ .cell) (hkind : scope.kind = .function)
    (hnames : ∀ y ∈ scope.names, y.2 = .local → scope.names.lookup y.1 = some .local) (hx : scope.names.lookup x = some .local) (hy : scope.names.lookup y = some .local) (hxy : x ≠ y)
    (hs0 : ∀ v, foldedSetIterable iter env v = pure v) (hs1 : ∀ C v, foldedSetIterable iter1 (compEnvC scope cl C env) v = pure v) (hO0 : IsTup H O0 its0) (hO1 : IsTup H O1 its1) (hsz : its0.size * its1.size ≤ sizeLine)
    (h0 : wpAny (model prog w) A (eval iter env) (fun xv s₁ => xv = .ref O0 ∧ s₁ = s) (fun _ _ => False) s)
    (J : Nat → Nat → List Value → List (Addr × Obj) → Prop) (hj : J 0 0 [] news) (hJ0 : ∀ i ys P₁, J i its1.size ys P₁ → J (i + 1) 0 ys P₁)
    (hit : ∀ Is C D ys P₁ h tk mC, CInv H L m Is C D ys P₁ mC h → (∀ p ∈ news, p ∈ P₁) → wpAny (model prog w) A (eval iter1 (compEnvC scope cl C env)) (fun xv s₁ => xv = .ref O1 ∧ s₁ = { s with heap := h, toks := tk }) (fun _ _ => False) { s with heap := h, toks := tk })
    (turn : ∀ i v j u ys P₁ Is C D h tk mC, its0[i]? = some v → its1[j]? = some u → J i j ys P₁ → (∀ p ∈ news, p ∈ P₁) → CInv H L m Is C D ys P₁ mC h → mC x = some v → mC y = some u →
      wpAny (model prog w) A (eval elt (compEnvC scope cl C env)) (TurnEnd s h fun r l₂ => J i (j + 1) (ys ++ [r]) (l₂ ++ P₁)) (fun _ _ => False) { s with heap := h, toks := tk })
    (fin : ∀ D ys P₁ h tk, J its0.size 0 ys P₁ → Fr H L h m → News H L h ((D, lstO ys) :: P₁) → (∀ p ∈ P₁, p.1 ≠ D) → Q (.ref D) { s with heap := h, toks := tk }) :
    wpAny (model prog w) A (eval (.ListComp elt [⟨.Name x px, iter, [], 0⟩, ⟨.Name y py, iter1, [], 0⟩] scope pos) env) Q E s := by
  rw [eval_ListComp]
  refine wpAny_comprehension_free (use := none) rfl hs0 hclos hkind hnames (wpAny_mono h0 (fun xv s₁ h₁ => ?_) fun _ _ f => f.elim)
  obtain ⟨rfl, rfl⟩ := h₁
  have hO : IsTup s₁.heap O0 its0 := IsTup.keeps hO0 F.keep
  have hlt : O0 < s₁.heap.objs.size := by obtain ⟨_, e, _⟩ := hO; exact Heap.lt_size e
  refine iter_tuple hO ?_
  have up : s₁.heap.StaysIn (s₁.heap.push { cls := .type "tuple_iterator", data := .fields #[.ref O0, .int 0 0] }) := fun b o e => Heap.get?_push_of_some _ e
  have hnew : (s₁.heap.push { cls := .type "tuple_iterator", data := .fields #[.ref O0, .int 0 0] }).get? s₁.heap.objs.size = some { cls := .type "tuple_iterator", data := .fields #[.ref O0, .int 0 0] } := Heap.get?_push_size _ rfl
  have W := Walks.tuple (prog := prog) (w := w) hh s₁.heap.objs.size O0 (Nat.ne_of_lt hlt) its0
  refine comp_core (s := { s₁ with heap := _ }) W tup_live ⟨⟨_, hnew, rfl, rfl⟩, hO.keeps up⟩ (F.keeps up) (N.grown up) (Ne.symm (Nat.ne_of_lt F.ns.lt)) (next_is_new F) (fun p hp => Nat.ne_of_lt (Heap.lt_size (N p hp).1)) hcell hkind ?_
  intro C D h tk mC x₀ st hCf hDf
  refine runO (s := { s₁ with heap := _ }) W hh hsz tup_live hCf hDf hkind hx hy hxy (hs1 C) hO1 (fun i j ys P₁ => J i j ys P₁ ∧ ∀ p ∈ news, p ∈ P₁) (fun i ys P₁ q => ⟨hJ0 i ys P₁ q.1, q.2⟩) ?_ ?_ ?_ its0.size 0 [] news h tk mC (by omega) (by simp) ⟨hj, fun _ h => h⟩ x₀ st
  · exact fun i ys P₁ h' tk' mC' hJ x' => hit _ _ _ ys P₁ h' tk' mC' x' hJ.2
  · intro i v j u ys P₁ Is h' tk' mC' hv _ hu hJ x' hxv hyu
    refine wpAny_mono (turn i v j u ys P₁ Is C D h' tk' mC' hv hu hJ.1 hJ.2 x' hxv hyu) (fun r s₂ q => ?_) fun _ _ f => f
    obtain ⟨h₂, tk₂, l₂, e, st₂, nw, hj₂⟩ := q
    exact ⟨h₂, tk₂, l₂, e, st₂, nw, hj₂, fun p hp => List.mem_append_right _ (hJ.2 p hp)⟩
  · intro ys P₁ h' tk' mC' hJ x'
    exact compEnd rfl x' fun h'' F' N' o' => fin D ys P₁ h'' tk' hJ.1 F' N' o'
end
end
section
abbrev V2 := Int × Int
@[irreducible] def lvStep (st : V2 × V2) (x : V2) : V2 × V2 :=
  (if cmpR x.1 x.2 st.1.1 st.1.2 < 0 then x else st.1, if 0 < cmpR x.1 x.2 st.2.1 st.2.2 then x else st.2)
@[irreducible] def lvOf (x : V2) (xs : List V2) : V2 × V2 := (x :: xs).foldl lvStep (x, x)
theorem lv_step (st : T3 × T3) (x : T3) : ((lgStep st x).1.2, (lgStep st x).2.2) = lvStep (st.1.2, st.2.2) x.2 := by
  unfold lgStep lvStep
  dsimp only
  split <;> split <;> rfl
theorem lv_fold : ∀ (xs : List T3) (st : T3 × T3), ((xs.foldl lgStep st).1.2, (xs.foldl lgStep st).2.2) = (xs.map (·.2)).foldl lvStep (st.1.2, st.2.2)
  | [], _ => rfl
  | x :: r, st => by
    rw [List.foldl_cons, lv_fold r, List.map_cons, List.foldl_cons, lv_step]
theorem lv_of (x : T3) (xs : List T3) : ((lgOf x xs).1.2, (lgOf x xs).2.2) = lvOf x.2 (xs.map (·.2)) := by
  unfold lgOf lvOf
  rw [lv_fold, List.map_cons]

abbrev tup2O (p q : Int) (t u : Tok) : Obj := { cls := .type "tuple", data := .seq #[.int p t, .int q u] }
/-- refs to pairs of ints, all in the ledger -/
inductive PairsIn : List Value → List T3 → List (Addr × Obj) → Prop
  | nil {P} : PairsIn [] [] P
  | snoc {ys xs P} (x : T3) (t u : Tok) : PairsIn ys xs P → (x.1, tup2O x.2.1 x.2.2 t u) ∈ P → PairsIn (ys ++ [.ref x.1]) (xs ++ [x]) P
theorem PairsIn.mono {ys xs P P'} (h : PairsIn ys xs P) (hs : ∀ p ∈ P, p ∈ P') : PairsIn ys xs P' := by
  induction h with
  | nil => exact .nil
  | snoc x t u _ hm ih => exact .snoc x t u (ih hs) (hs _ hm)
theorem PairsIn.eq {ys xs P} (h : PairsIn ys xs P) : ys = lgVs xs := by
  induction h with
  | nil => rfl
  | snoc x t u _ hm ih => rw [ih]; simp [lgVs]
theorem PairsIn.get {ys xs P} (h : PairsIn ys xs P) : ∀ x ∈ xs, ∃ t u, (x.1, tup2O x.2.1 x.2.2 t u) ∈ P := by
  induction h with
  | nil => intro x hx; cases hx
  | snoc x t u _ hm ih =>
    intro y hy
    rcases List.mem_append.mp hy with hy | hy
    · exact ih y hy
    · rw [List.mem_singleton.mp hy]; exact ⟨t, u, hm⟩
/-- the products of the pairs a, a' with b, b', as far as i, j says -/
def prodsTo (a a' b b' : V2) : Nat → Nat → List V2
  | 0, 0 => []
  | 0, 1 => [(mulP a.1 a.2 b.1 b.2, mulQ a.1 a.2 b.1 b.2)]
  | 0, _ => [(mulP a.1 a.2 b.1 b.2, mulQ a.1 a.2 b.1 b.2), (mulP a.1 a.2 b'.1 b'.2, mulQ a.1 a.2 b'.1 b'.2)]
  | 1, 0 => [(mulP a.1 a.2 b.1 b.2, mulQ a.1 a.2 b.1 b.2), (mulP a.1 a.2 b'.1 b'.2, mulQ a.1 a.2 b'.1 b'.2)]
  | 1, 1 => [(mulP a.1 a.2 b.1 b.2, mulQ a.1 a.2 b.1 b.2), (mulP a.1 a.2 b'.1 b'.2, mulQ a.1 a.2 b'.1 b'.2), (mulP a'.1 a'.2 b.1 b.2, mulQ a'.1 a'.2 b.1 b.2)]
  | _, _ => [(mulP a.1 a.2 b.1 b.2, mulQ a.1 a.2 b.1 b.2), (mulP a.1 a.2 b'.1 b'.2, mulQ a.1 a.2 b'.1 b'.2), (mulP a'.1 a'.2 b.1 b.2, mulQ a'.1 a'.2 b.1 b.2), (mulP a'.1 a'.2 b'.1 b'.2, mulQ a'.1 a'.2 b'.1 b'.2)]
def ProdJ (a a' b b' : V2) (news : List (Addr × Obj)) (i j : Nat) (ys : List Value) (P : List (Addr × Obj)) : Prop := ∃ xs, PairsIn ys xs P ∧ xs.map (·.2) = prodsTo a a' b b' i j
@[irreducible] def joinP (a a' b b' : V2) : V2 × V2 := lvOf (mulP a.1 a.2 b.1 b.2, mulQ a.1 a.2 b.1 b.2) [(mulP a.1 a.2 b'.1 b'.2, mulQ a.1 a.2 b'.1 b'.2), (mulP a'.1 a'.2 b.1 b.2, mulQ a'.1 a'.2 b.1 b.2), (mulP a'.1 a'.2 b'.1 b'.2, mulQ a'.1 a'.2 b'.1 b'.2)]
theorem prods_split {a a' b b' : V2} {xs : List T3} (h : xs.map (·.2) = prodsTo a a' b b' 2 0) : ∃ x r, xs = x :: r ∧ ((lgOf x r).1.2, (lgOf x r).2.2) = joinP a a' b b' := by
  have hl := congrArg List.length h
  obtain ⟨x0, x1, x2, x3, rfl⟩ : ∃ x0 x1 x2 x3, xs = [x0, x1, x2, x3] := by
    rw [List.length_map] at hl
    rcases xs with _ | ⟨x0, _ | ⟨x1, _ | ⟨x2, _ | ⟨x3, _ | ⟨x4, r⟩⟩⟩⟩⟩ <;> first | exact ⟨_, _, _, _, rfl⟩ | (simp [prodsTo] at hl; done)
  refine ⟨x0, [x1, x2, x3], rfl, ?_⟩
  simp only [prodsTo, List.map_cons, List.map_nil, List.cons.injEq, and_true] at h
  rw [lv_of]
  unfold joinP
  simp only [List.map_cons, List.map_nil]
  rw [h.1, h.2.1, h.2.2.1, h.2.2.2]
theorem prod_end {H h' : Heap} {L D : Addr} {news P : List (Addr × Obj)} {ys : List Value} {x : T3} {r : List T3} {V : V2 × V2} (N : News H L h' news) (hp : PairsIn ys (x :: r) P) (hP : ∀ p ∈ P, p ∈ news)
    (hm : (D, ({ cls := .type "tuple", data := .seq #[.ref (lgOf x r).1.1, .ref (lgOf x r).2.1] } : Obj)) ∈ news) (hV : ((lgOf x r).1.2, (lgOf x r).2.2) = V) : PairOf H h' (.ref D) V.1.1 V.1.2 V.2.1 V.2.2 := by
  subst hV
  obtain ⟨t1, u1, e1⟩ := hp.get _ (lgOf_mem x r).1
  obtain ⟨t2, u2, e2⟩ := hp.get _ (lgOf_mem x r).2
  exact pairOf_end N hm (hP _ e1) (hP _ e2) rfl rfl rfl rfl
end
section
set_option maxHeartbeats 8000000 in
theorem join_prod {w mean mg mb} (t : Tok) (O P : Addr) (a0 a1 a2 a3 b0 b1 b2 b3 : Int) (sa : Sz4 a0 a1 a2 a3) (sb : Sz4 b0 b1 b2 b3) (n1 : a1 * b1 ≠ 0) (n2 : a1 * b3 ≠ 0) (n3 : a3 * b1 ≠ 0) (n4 : a3 * b3 ≠ 0)
    (sp : ∀ x ∈ prodsTo (a0, a1) (a2, a3) (b0, b1) (b2, b3) 2 0, Sz x.1 ∧ Sz x.2) :
    PC w mean mg mb 134 [.str (Str.ofString "prod") t, .ref O, .ref P] 160 (fun h => BoundsAt h O a0 a1 a2 a3 ∧ BoundsAt h P b0 b1 b2 b3)
      (fun H h' v => PairOf H h' v (joinP (a0, a1) (a2, a3) (b0, b1) (b2, b3)).1.1 (joinP (a0, a1) (a2, a3) (b0, b1) (b2, b3)).1.2 (joinP (a0, a1) (a2, a3) (b0, b1) (b2, b3)).2.1 (joinP (a0, a1) (a2, a3) (b0, b1) (b2, b3)).2.2) := by
  k_with_none
  k_with "pcend" => exact prod_end (by k_asm) hp (fun p hp => .tail _ (.tail _ hp)) (.head _) hV
  k_with "nm" => first | (refine wpAny_Name (wpAny_loadName_local rfl rfl x.hC hxv ?_) (by decide)) | (refine wpAny_Name (wpAny_loadName_local rfl rfl x.hC hyu ?_) (by decide))
  k_with "turnend" => exact ⟨_, _, _, rfl, st', nw', xs ++ [_], .snoc (D', _, _) _ _ (hp.mono fun p hp => List.mem_append_right _ hp) (.head _), by rw [List.map_append, he]; rfl⟩
  k_with "callpc" => first | ((rename News _ _ _ _ => pN'); refine' pc_use (lg_pc D x r (fun y hy => sp y.2 (he ▸ List.mem_map_of_mem hy))) ?pF pN' ?pX ?pT ?pd ?pu ?pp ?_; (case pF => k_asm); (case pX => k_asm); (case pT => k_asm); (case pd => ((try dsimp only [arnd, Around.deeper]); omega)); (case pu => ((try dsimp only [arnd, Around.deeper]); omega)); (case pp => exact ⟨⟨_, pN'.get (.head _), rfl, _, rfl⟩, fun y hy => by obtain ⟨t, u, e⟩ := hp.get y hy; exact Pair.ofNews pN' (.tail _ e)⟩); clear pN'; intro v' h' tk' F' G' st' r'; (obtain ⟨DD, rfl, nw'⟩ := r'; have N' := G' _ nw'; (try simp only [List.cons_append, List.nil_append] at N'); clear G' nw'); (try k_sweep))| ((rename News _ _ _ _ => pN'); refine' pc_use (rmul_pc A0 B0 a0 a1 b0 b1 sa.1 sa.2.1 sb.1 sb.2.1 n1) ?pF pN' ?pX ?pT ?pd ?pu ?pp ?_; (case pF => k_asm); (case pX => k_asm); (case pT => k_asm); (case pd => ((try dsimp only [arnd, Around.deeper]); omega)); (case pu => ((try dsimp only [arnd, Around.deeper]); omega)); (case pp => exact ⟨hA0.keeps (Fr.keep (by k_asm)), hB0.keeps (Fr.keep (by k_asm))⟩); clear pN'; intro v' h' tk' F' G' st' r'; (obtain ⟨D', t1', t2', rfl, nw'⟩ := r'; rw [mulP_def, mulQ_def] at nw'; have N' := G' [] NewL.nil; clear G'; (try simp only [List.nil_append] at N')); (try k_sweep))| ((rename News _ _ _ _ => pN'); refine' pc_use (rmul_pc A0 B1 a0 a1 b2 b3 sa.1 sa.2.1 sb.2.2.1 sb.2.2.2 n2) ?pF pN' ?pX ?pT ?pd ?pu ?pp ?_; (case pF => k_asm); (case pX => k_asm); (case pT => k_asm); (case pd => ((try dsimp only [arnd, Around.deeper]); omega)); (case pu => ((try dsimp only [arnd, Around.deeper]); omega)); (case pp => exact ⟨hA0.keeps (Fr.keep (by k_asm)), hB1.keeps (Fr.keep (by k_asm))⟩); clear pN'; intro v' h' tk' F' G' st' r'; (obtain ⟨D', t1', t2', rfl, nw'⟩ := r'; rw [mulP_def, mulQ_def] at nw'; have N' := G' [] NewL.nil; clear G'; (try simp only [List.nil_append] at N')); (try k_sweep))| ((rename News _ _ _ _ => pN'); refine' pc_use (rmul_pc A1 B0 a2 a3 b0 b1 sa.2.2.1 sa.2.2.2 sb.1 sb.2.1 n3) ?pF pN' ?pX ?pT ?pd ?pu ?pp ?_; (case pF => k_asm); (case pX => k_asm); (case pT => k_asm); (case pd => ((try dsimp only [arnd, Around.deeper]); omega)); (case pu => ((try dsimp only [arnd, Around.deeper]); omega)); (case pp => exact ⟨hA1.keeps (Fr.keep (by k_asm)), hB0.keeps (Fr.keep (by k_asm))⟩); clear pN'; intro v' h' tk' F' G' st' r'; (obtain ⟨D', t1', t2', rfl, nw'⟩ := r'; rw [mulP_def, mulQ_def] at nw'; have N' := G' [] NewL.nil; clear G'; (try simp only [List.nil_append] at N')); (try k_sweep))| ((rename News _ _ _ _ => pN'); refine' pc_use (rmul_pc A1 B1 a2 a3 b2 b3 sa.2.2.1 sa.2.2.2 sb.2.2.1 sb.2.2.2 n4) ?pF pN' ?pX ?pT ?pd ?pu ?pp ?_; (case pF => k_asm); (case pX => k_asm); (case pT => k_asm); (case pd => ((try dsimp only [arnd, Around.deeper]); omega)); (case pu => ((try dsimp only [arnd, Around.deeper]); omega)); (case pp => exact ⟨hA1.keeps (Fr.keep (by k_asm)), hB1.keeps (Fr.keep (by k_asm))⟩); clear pN'; intro v' h' tk' F' G' st' r'; (obtain ⟨D', t1', t2', rfl, nw'⟩ := r'; rw [mulP_def, mulQ_def] at nw'; have N' := G' [] NewL.nil; clear G'; (try simp only [List.nil_append] at N')); (try k_sweep))
  refine' pc_enterC (binds := [(Str.ofString "kind", .str (Str.ofString "prod") t), (Str.ofString "one", .ref O), (Str.ofString "other", .ref P)]) ?k1 ?k2 ?k3 ?k4 ?k5 ?kD ?_ ?c2 ?c3 ?c4
  case k1 => k_dflt k_is
  case k2 => k_dflt k_is
  case k3 => decide
  case k4 => intro s; exact BindsTo.of_eq rfl
  case k5 => exact rfl
  case kD => decide +kernel
  case c2 => exact rfl
  case c3 => exact rfl
  case c4 => exact rfl
  intro dp un fr gd s Q L h₁ tk cells F N Y X T hp hd hu
  k_cells Y
  (try simp only [List.cons_append, List.nil_append] at N)
  try dsimp only
  with_reducible show wpAny _ _ _ _ _ _
  k_fold
  rename_i oc dc
  replace dc : oc.data = .cell (some (.ref P)) := dc
  obtain ⟨⟨A0, A1, hO, hA0, hA1⟩, ⟨B0, B1, hP, hB0, hB1⟩⟩ := hp
  k_with "comp" =>
    rename Fr _ _ _ _ => lF'
    rename News _ _ _ _ => lN'
    with_unfolding_all refine comp22 lF' lN' rfl rfl (by decide) rfl (by decide) rfl rfl (by decide) (fun _ => rfl) (fun _ _ => rfl) hO hP (by show 4 ≤ sizeLine; rw [sizeLine_eq]; omega) ?h0 (ProdJ (a0, a1) (a2, a3) (b0, b1) (b2, b3) []) ⟨[], .nil, rfl⟩ ?hJ0 ?hit ?turn ?fin
    case h0 => (walk1; exact ⟨rfl, rfl⟩)
    case hit => (intro Is C D ys P₁ h tk mC x hsub; exact wpAny_Name (wpAny_loadName_cell rfl rfl rfl ⟨_, (x.N.get (hsub _ (.head _))), dc⟩ ⟨rfl, rfl⟩) (by decide))
    case hJ0 => (rintro (_ | _ | i) ys P₁ ⟨xs, hp, he⟩ <;> exact ⟨xs, hp, he⟩)
    case' turn =>
      rintro (_ | _ | i) v (_ | _ | j) u ys P₁ Is C D h tk mC hv hu' ⟨xs, hp, he⟩ hsub x hxv hyu
      all_goals first | (exfalso; simp at hv; done) | (exfalso; simp at hu'; done) | skip
      all_goals (obtain rfl := Option.some.inj hv; obtain rfl := Option.some.inj hu'; clear hv hu'; have F := x.F; have N := x.N; clear lF' lN'; (try k_unmd); (try k_fold))
    case' fin =>
      rintro D ys P₁ h tk ⟨xs, hp, he⟩ F N hoff
      obtain ⟨x, r, rfl, hV⟩ := prods_split he
      have hys := hp.eq
      subst hys
      clear lF' lN'
  repeat' (first | (k_unfold; (try dsimp only)) | walk1 | (dsimp only; walk1) | (dsimp only; k_unfold; (try dsimp only)) | (leave1; walk_say "STEP leave1"; try dsimp only) | fail "no step")
end
section
open PySem.SeqAt in
theorem shaped_room_dummy : True := trivial
/-- T is a tuple term that reads as d -/
def Rd (h : Heap) (T : Addr) (d : PyData) : Prop := ∃ as, Reads h (.ref T) d as
theorem Rd.keeps {h h' : Heap} {T : Addr} {d : PyData} (x : Rd h T d) (k : ∀ b o, h.get? b = some o → h'.get? b = some o) : Rd h' T d := by
  obtain ⟨as, x⟩ := x
  exact ⟨as, PyProof.Rows.Reads.keeps k x⟩
theorem Rd.inv {h : Heap} {T : Addr} {ds : List PyData} (x : Rd h T (.tuple ds)) : ∃ vs as, IsTup h T (List.toArray vs) ∧ ReadsAll h vs ds as := by
  obtain ⟨as, x⟩ := x
  cases x with
  | @tuple a o vs n xs as' h1 h2 h3 h4 => exact ⟨vs.toList, as, ⟨o, h1, h2, n, by simpa using h3⟩, h4⟩
theorem readsAll_cons {h : Heap} {vs : List Value} {d : PyData} {ds : List PyData} {as : List Addr} (x : ReadsAll h vs (d :: ds) as) : ∃ v r as1 as2, vs = v :: r ∧ Reads h v d as1 ∧ ReadsAll h r ds as2 := by
  cases x with
  | cons a b => exact ⟨_, _, _, _, rfl, a, b⟩
theorem readsAll_nil {h : Heap} {vs : List Value} {as : List Addr} (x : ReadsAll h vs [] as) : vs = [] := by cases x; rfl
theorem reads_str {h : Heap} {v : Value} {c : Str} {as : List Addr} (x : Reads h v (.str c) as) : ∃ t, v = .str c t := by cases x; exact ⟨_, rfl⟩
theorem reads_int {h : Heap} {v : Value} {c : Int} {as : List Addr} (x : Reads h v (.int c) as) : ∃ t, v = .int c t := by cases x; exact ⟨_, rfl⟩
theorem reads_tup {h : Heap} {v : Value} {ds : List PyData} {as : List Addr} (x : Reads h v (.tuple ds) as) : ∃ T, v = .ref T ∧ Rd h T (.tuple ds) := by
  cases x with
  | tuple h1 h2 h3 h4 => exact ⟨_, rfl, as, .tuple h1 h2 h3 h4⟩
abbrev dNum (p q : Int) : PyData := .tuple [.str (Str.ofString "num"), .int p, .int q]
abbrev dPow (b e : PyData) : PyData := .tuple [.str (Str.ofString "pow"), b, e]
abbrev dExp : PyData := .tuple [.str (Str.ofString "call"), .str (Str.ofString "exp"), .tuple [dNum 1 1]]
abbrev dSym (x : Str) : PyData := .tuple [.str (Str.ofString "sym"), .str x]
abbrev dSin (d : PyData) : PyData := .tuple [.str (Str.ofString "call"), .str (Str.ofString "sin"), .tuple [d]]
abbrev dSum (a b : PyData) : PyData := .tuple [.str (Str.ofString "sum"), .tuple [a, b]]
abbrev dProd (a b : PyData) : PyData := .tuple [.str (Str.ofString "prod"), .tuple [a, b]]
theorem Rd.num {h : Heap} {T : Addr} {p q : Int} (x : Rd h T (dNum p q)) : NumAt h T p q := by
  obtain ⟨vs, as, i, r⟩ := x.inv
  obtain ⟨v, r1, _, _, rfl, e1, r⟩ := readsAll_cons r
  obtain ⟨v2, r2, _, _, rfl, e2, r⟩ := readsAll_cons r
  obtain ⟨v3, r3, _, _, rfl, e3, r⟩ := readsAll_cons r
  obtain rfl := readsAll_nil r
  obtain ⟨t1, rfl⟩ := reads_str e1
  obtain ⟨t2, rfl⟩ := reads_int e2
  obtain ⟨t3, rfl⟩ := reads_int e3
  exact ⟨t1, t2, t3, i⟩
theorem Rd.head {h : Heap} {T : Addr} {c : Str} {ds : List PyData} (x : Rd h T (.tuple (.str c :: ds))) : HeadAt h T c := by
  obtain ⟨vs, as, i, r⟩ := x.inv
  obtain ⟨v, r1, _, _, rfl, e1, r⟩ := readsAll_cons r
  obtain ⟨t1, rfl⟩ := reads_str e1
  exact ⟨_, t1, i⟩
/-- a head, and two tuples behind it -/
theorem Rd.three {h : Heap} {T : Addr} {c : Str} {bs es : List PyData} (x : Rd h T (.tuple [.str c, .tuple bs, .tuple es])) : ∃ t B E, IsTup h T #[.str c t, .ref B, .ref E] ∧ Rd h B (.tuple bs) ∧ Rd h E (.tuple es) := by
  obtain ⟨vs, as, i, r⟩ := x.inv
  obtain ⟨v, r1, _, _, rfl, e1, r⟩ := readsAll_cons r
  obtain ⟨v2, r2, _, _, rfl, e2, r⟩ := readsAll_cons r
  obtain ⟨v3, r3, _, _, rfl, e3, r⟩ := readsAll_cons r
  obtain rfl := readsAll_nil r
  obtain ⟨t1, rfl⟩ := reads_str e1
  obtain ⟨B, rfl, hB⟩ := reads_tup e2
  obtain ⟨E, rfl, hE⟩ := reads_tup e3
  exact ⟨t1, B, E, i, hB, hE⟩
/-- a head, and a pair of tuples behind it -/
theorem Rd.args {h : Heap} {T : Addr} {c : Str} {as bs : List PyData} (x : Rd h T (.tuple [.str c, .tuple [.tuple as, .tuple bs]])) : ∃ t S A B, IsTup h T #[.str c t, .ref S] ∧ IsTup h S #[.ref A, .ref B] ∧ Rd h A (.tuple as) ∧ Rd h B (.tuple bs) := by
  obtain ⟨vs, _, i, r⟩ := x.inv
  obtain ⟨v, r1, _, _, rfl, e1, r⟩ := readsAll_cons r
  obtain ⟨v2, r2, _, _, rfl, e2, r⟩ := readsAll_cons r
  obtain rfl := readsAll_nil r
  obtain ⟨t1, rfl⟩ := reads_str e1
  obtain ⟨S, rfl, hS⟩ := reads_tup e2
  obtain ⟨vs, _, i2, r⟩ := hS.inv
  obtain ⟨v, r1, _, _, rfl, e1, r⟩ := readsAll_cons r
  obtain ⟨v2, r2, _, _, rfl, e2, r⟩ := readsAll_cons r
  obtain rfl := readsAll_nil r
  obtain ⟨A, rfl, hA⟩ := reads_tup e1
  obtain ⟨B, rfl, hB⟩ := reads_tup e2
  exact ⟨t1, S, A, B, i, i2, hA, hB⟩
theorem exp_rd {w : World} {h : Heap} (X : (hd.heap_39 w.params).In h) : Rd h 95 dExp := by
  refine ⟨_, reads_tuple_at (X _ _ (by k_dflt k_is)) rfl rfl (.cons (.str _ _) (.cons (.str _ _) (.cons (reads_tuple_at (X _ _ (by k_dflt k_is)) rfl rfl (.cons (reads_tuple_at (X _ _ (by k_dflt k_is)) rfl rfl (.cons (.str _ _) (.cons (.int _ _) (.cons (.int _ _) .nil)))) .nil)) .nil)))⟩
theorem isTup_of {w : World} {h : Heap} {a : Addr} {vs : Array Value} {n : Nat} (X : (hd.heap_39 w.params).In h) (e : (hd.heap_39 w.params).lookup a = some { cls := .type "tuple", data := .seq vs n }) : IsTup h a vs := ⟨_, X _ _ e, rfl, _, rfl⟩
theorem e_bounds {w : World} {h : Heap} (X : (hd.heap_39 w.params).In h) : BoundsAt h 112 2718281828459 1000000000000 2718281828460 1000000000000 :=
  ⟨_, _, isTup_of X (by k_dflt k_is), ⟨_, _, isTup_of X (by k_dflt k_is)⟩, ⟨_, _, isTup_of X (by k_dflt k_is)⟩⟩
theorem r0_pair {w : World} {h : Heap} (X : (hd.heap_39 w.params).In h) : Pair h 49 0 1 := ⟨_, _, isTup_of X (by k_dflt k_is)⟩
theorem r1_pair {w : World} {h : Heap} (X : (hd.heap_39 w.params).In h) : Pair h 50 1 1 := ⟨_, _, isTup_of X (by k_dflt k_is)⟩
theorem pi_tup {w : World} {h : Heap} (X : (hd.heap_39 w.params).In h) : BoundsAt h 115 3141592653589793238462643383279 1000000000000000000000000000000 3141592653589793238462643383280 1000000000000000000000000000000 :=
  ⟨_, _, isTup_of X (by k_dflt k_is), ⟨_, _, isTup_of X (by k_dflt k_is)⟩, ⟨_, _, isTup_of X (by k_dflt k_is)⟩⟩
end
section
theorem shaped_exp : PySem.SeqAt.shaped dExp = true := by decide +kernel
set_option maxHeartbeats 8000000 in
theorem b_num {w mean mg mb} (Z : Addr) (p q : Int) : PC w mean mg mb 141 [.ref Z] 200 (fun h => Rd h Z (dNum p q)) (fun H h' v => PairOf H h' v p q p q) := by
  k_with_none
  k_with "callpc" => first | ((rename News _ _ _ _ => pN'); refine' pc_use (isnum_t Z) ?pF pN' ?pX ?pT ?pd ?pu ?pp ?_; (case pF => k_asm); (case pX => k_asm); (case pT => k_asm); (case pd => ((try dsimp only [arnd, Around.deeper]); omega)); (case pu => ((try dsimp only [arnd, Around.deeper]); omega)); (case pp => exact hN.head.keeps (Fr.keep (by k_asm))); clear pN'; intro v' h' tk' F' G' st' r'; (subst r'; have N' := G' [] NewL.nil; clear G'; (try simp only [List.nil_append] at N')); (try k_sweep))| ((rename News _ _ _ _ => pN'); refine' pc_use (numof_pc Z p q) ?pF pN' ?pX ?pT ?pd ?pu ?pp ?_; (case pF => k_asm); (case pX => k_asm); (case pT => k_asm); (case pd => ((try dsimp only [arnd, Around.deeper]); omega)); (case pu => ((try dsimp only [arnd, Around.deeper]); omega)); (case pp => exact hN.keeps (Fr.keep (by k_asm))); clear pN'; intro v' h' tk' F' G' st' r'; (obtain ⟨D', t1', t2', rfl, nw'⟩ := r'; have N' := G' _ nw'; (try simp only [List.cons_append, List.nil_append] at N'); clear G' nw'); (try k_sweep))
  k_with "pcend" => exact pairOf_end (by k_asm) (by k_mem) (by k_mem) (by k_mem) rfl rfl rfl rfl
  refine' pc_enter (binds := [(Str.ofString "t", .ref Z)]) ?k1 ?k2 ?k3 ?k4 ?k5 ?_ ?c2 ?c3 ?c4 ?c5
  case k1 => k_dflt k_is
  case k2 => k_dflt k_is
  case k3 => decide
  case k4 => intro s; exact BindsTo.of_eq rfl
  case k5 => exact locs rfl
  case c2 => exact rfl
  case c3 => exact rfl
  case c4 => exact rfl
  case c5 => decide
  intro dp un fr gd s Q L h₁ tk F N X T hp hd hu
  try dsimp only
  k_fold
  have hN := hp.num
  repeat' (first | (k_unfold; (try dsimp only)) | walk1 | (dsimp only; walk1) | (dsimp only; k_unfold; (try dsimp only)) | (leave1; walk_say "STEP leave1"; try dsimp only) | fail "no step")

set_option maxHeartbeats 8000000 in
theorem b_exp {w mean mg mb} (Z : Addr) : PC w mean mg mb 141 [.ref Z] 200 (fun h => Rd h Z dExp) (fun _ _ v => v = .ref 112) := by
  k_with_none
  k_with "callpc" => ((rename News _ _ _ _ => pN'); refine' pc_use (isnum_f Z (Str.ofString "call") (by decide)) ?pF pN' ?pX ?pT ?pd ?pu ?pp ?_; (case pF => k_asm); (case pX => k_asm); (case pT => k_asm); (case pd => ((try dsimp only [arnd, Around.deeper]); omega)); (case pu => ((try dsimp only [arnd, Around.deeper]); omega)); (case pp => exact hH.keeps (Fr.keep (by k_asm))); clear pN'; intro v' h' tk' F' G' st' r'; (subst r'; have N' := G' [] NewL.nil; clear G'; (try simp only [List.nil_append] at N')); (try k_sweep))
  k_with "eq" => (refine PyProof.Rows.eq_dataH (PyProof.Rows.Reads.keeps (Fr.keep (by k_asm)) hR) (PyProof.Rows.Reads.keeps (Fr.keep (by k_asm)) hE) shaped_exp shaped_exp (by (try dsimp only [arnd, Around.deeper]); omega) ?_; rw [show PyData.eqv dExp dExp = true from by rfl])
  k_with "pcend" => rfl
  refine' pc_enter (binds := [(Str.ofString "t", .ref Z)]) ?k1 ?k2 ?k3 ?k4 ?k5 ?_ ?c2 ?c3 ?c4 ?c5
  case k1 => k_dflt k_is
  case k2 => k_dflt k_is
  case k3 => decide
  case k4 => intro s; exact BindsTo.of_eq rfl
  case k5 => exact locs rfl
  case c2 => exact rfl
  case c3 => exact rfl
  case c4 => exact rfl
  case c5 => decide
  intro dp un fr gd s Q L h₁ tk F N X T hp hd hu
  try dsimp only
  k_fold
  have hH := hp.head
  obtain ⟨as, hR⟩ := hp
  obtain ⟨es, hE⟩ := exp_rd X
  repeat' (first | (k_unfold; (try dsimp only)) | walk1 | (dsimp only; walk1) | (dsimp only; k_unfold; (try dsimp only)) | (leave1; walk_say "STEP leave1"; try dsimp only) | fail "no step")

set_option maxHeartbeats 8000000 in
theorem b_pow {w mean mg mb} (Z : Addr) (b c p k : Int) (hb : 0 < b) (hp0 : 0 < p) (hk1 : 1 ≤ k) (hk2 : k ≤ 64) (hc : c ^ p.toNat ≠ 0) (z1 : (Builtin.Int.intBits b : Int) * p ≤ 2 ^ 27) (z2 : (Builtin.Int.intBits c : Int) * p ≤ 2 ^ 27)
    (z3 : IntMulOk (b ^ p.toNat) (1000000000000 ^ k.toNat)) (hn0 : 0 ≤ rootN b c p k) (hns : Sz (rootN b c p k)) :
    PC w mean mg mb 141 [.ref Z] 200 (fun h => Rd h Z (dPow (dNum b c) (dNum p k)))
      (fun H h' v => ∃ r, IsRoot (rootN b c p k) k r ∧ PairOf H h' v (ratP r 1000000000000) (ratQ r 1000000000000) (ratP (r + 1) 1000000000000) (ratQ (r + 1) 1000000000000)) := by
  k_with_none
  k_with "callpc" => first | ((rename News _ _ _ _ => pN'); refine' pc_use (isnum_f Z (Str.ofString "pow") (by decide)) ?pF pN' ?pX ?pT ?pd ?pu ?pp ?_; (case pF => k_asm); (case pX => k_asm); (case pT => k_asm); (case pd => ((try dsimp only [arnd, Around.deeper]); omega)); (case pu => ((try dsimp only [arnd, Around.deeper]); omega)); (case pp => exact hH.keeps (Fr.keep (by k_asm))); clear pN'; intro v' h' tk' F' G' st' r'; (subst r'; have N' := G' [] NewL.nil; clear G'; (try simp only [List.nil_append] at N')); (try k_sweep))| ((rename News _ _ _ _ => pN'); refine' pc_use (rootb_pc B E b c p k hb hp0 hk1 hk2 hc z1 z2 z3 hn0 hns) ?pF pN' ?pX ?pT ?pd ?pu ?pp ?_; (case pF => k_asm); (case pX => k_asm); (case pT => k_asm); (case pd => ((try dsimp only [arnd, Around.deeper]); omega)); (case pu => ((try dsimp only [arnd, Around.deeper]); omega)); (case pp => exact ⟨hB.num.keeps (Fr.keep (by k_asm)), hE.num.keeps (Fr.keep (by k_asm))⟩); clear pN'; intro v' h' tk' F' G' st' r'; (obtain ⟨r, hRt, D, D1, D2, t1, t2, u1, u2, rfl, nw'⟩ := r'; have N' := G' _ nw'; (try simp only [List.cons_append, List.nil_append] at N'); clear G' nw'); (try k_sweep))
  k_with "eq" => (refine PyProof.Rows.eq_dataH (PyProof.Rows.Reads.keeps (Fr.keep (by k_asm)) hR) (PyProof.Rows.Reads.keeps (Fr.keep (by k_asm)) hX) (by rfl) shaped_exp (by (try dsimp only [arnd, Around.deeper]); omega) ?_; rw [show PyData.eqv (dPow (dNum b c) (dNum p k)) dExp = false from rfl])
  k_with "pcend" => exact ⟨r, hRt, pairOf_end (by k_asm) (by k_mem) (by k_mem) (by k_mem) rfl rfl rfl rfl⟩
  refine' pc_enter (binds := [(Str.ofString "t", .ref Z)]) ?k1 ?k2 ?k3 ?k4 ?k5 ?_ ?c2 ?c3 ?c4 ?c5
  case k1 => k_dflt k_is
  case k2 => k_dflt k_is
  case k3 => decide
  case k4 => intro s; exact BindsTo.of_eq rfl
  case k5 => exact locs rfl
  case c2 => exact rfl
  case c3 => exact rfl
  case c4 => exact rfl
  case c5 => decide
  intro dp un fr gd s Q L h₁ tk F N X T hp hd hu
  try dsimp only
  k_fold
  have hH := hp.head
  obtain ⟨tt, B, E, hI, hB, hE⟩ := hp.three
  obtain ⟨as, hR⟩ := hp
  obtain ⟨es, hX⟩ := exp_rd X
  repeat' (first | (k_unfold; (try dsimp only)) | walk1 | (dsimp only; walk1) | (dsimp only; k_unfold; (try dsimp only)) | (leave1; walk_say "STEP leave1"; try dsimp only) | fail "no step")
end
section
theorem PC.pre {w : World} {mean : ExcName → Option Value} {mg mb : Str → Option Value} {f : Addr} {vs : List Value} {k : Nat} {pre pre' : Heap → Prop} {R : Heap → Heap → Value → Prop} (C : PC w mean mg mb f vs k pre R) (h : ∀ H, pre' H → pre H) : PC w mean mg mb f vs k pre' R :=
  fun dp un fr gd s Q E X T hd hu hp hret => C dp un fr gd s Q E X T hd hu (h _ hp) hret
theorem eqv_head {c : Str} {ds : List PyData} (hc : (c == Str.ofString "call") = false) : PyData.eqv (.tuple (.str c :: ds)) dExp = false := by
  simp [PyData.eqv, PyData.eqvAll, hc]
set_option maxHeartbeats 8000000 in
theorem b_sym {w mean mg mb} (Z : Addr) (x : Str) (hsh : PySem.SeqAt.shaped (dSym x) = true) : PC w mean mg mb 141 [.ref Z] 200 (fun h => Rd h Z (dSym x)) (fun _ _ v => v = .none) := by
  k_with_none
  k_with "callpc" => ((rename News _ _ _ _ => pN'); refine' pc_use (isnum_f Z (Str.ofString "sym") (by decide)) ?pF pN' ?pX ?pT ?pd ?pu ?pp ?_; (case pF => k_asm); (case pX => k_asm); (case pT => k_asm); (case pd => ((try dsimp only [arnd, Around.deeper]); omega)); (case pu => ((try dsimp only [arnd, Around.deeper]); omega)); (case pp => exact hH.keeps (Fr.keep (by k_asm))); clear pN'; intro v' h' tk' F' G' st' r'; (subst r'; have N' := G' [] NewL.nil; clear G'; (try simp only [List.nil_append] at N')); (try k_sweep))
  k_with "eq" => (refine PyProof.Rows.eq_dataH (PyProof.Rows.Reads.keeps (Fr.keep (by k_asm)) hR) (PyProof.Rows.Reads.keeps (Fr.keep (by k_asm)) hE) hsh shaped_exp (by (try dsimp only [arnd, Around.deeper]); omega) ?_; rw [eqv_head (by decide)])
  k_with "pcend" => rfl
  refine' pc_enter (binds := [(Str.ofString "t", .ref Z)]) ?k1 ?k2 ?k3 ?k4 ?k5 ?_ ?c2 ?c3 ?c4 ?c5
  case k1 => k_dflt k_is
  case k2 => k_dflt k_is
  case k3 => decide
  case k4 => intro s; exact BindsTo.of_eq rfl
  case k5 => exact locs rfl
  case c2 => exact rfl
  case c3 => exact rfl
  case c4 => exact rfl
  case c5 => decide
  intro dp un fr gd s Q L h₁ tk F N X T hp hd hu
  try dsimp only
  k_fold
  have hH := hp.head
  obtain ⟨items, tt, hI⟩ := id hH
  k_with "sub" => (refine' item_tupleT (l := Value.str (Str.ofString "sym") tt :: items) ?t ?a ?b ?c ?d ?_; (case t => exact hI.keeps (Fr.keep (by k_asm))); (case a => decide); (case b => decide); (case c => exact idx0); (case d => rfl))
  obtain ⟨as, hR⟩ := hp
  obtain ⟨es, hE⟩ := exp_rd X
  repeat' (first | (k_unfold; (try dsimp only)) | walk1 | (dsimp only; walk1) | (dsimp only; k_unfold; (try dsimp only)) | (leave1; walk_say "STEP leave1"; try dsimp only) | fail "no step")

theorem eqv_sin {d : PyData} : PyData.eqv (dSin d) dExp = false := by
  have e : (Str.ofString "sin" == Str.ofString "exp") = false := by decide
  simp [PyData.eqv, PyData.eqvAll, e]
set_option maxHeartbeats 8000000 in
theorem b_sin {w mean mg mb} (Z : Addr) (d : PyData) (hsh : PySem.SeqAt.shaped (dSin d) = true) : PC w mean mg mb 141 [.ref Z] 200 (fun h => Rd h Z (dSin d)) (fun _ _ v => v = .none) := by
  k_with_none
  k_with "callpc" => ((rename News _ _ _ _ => pN'); refine' pc_use (isnum_f Z (Str.ofString "call") (by decide)) ?pF pN' ?pX ?pT ?pd ?pu ?pp ?_; (case pF => k_asm); (case pX => k_asm); (case pT => k_asm); (case pd => ((try dsimp only [arnd, Around.deeper]); omega)); (case pu => ((try dsimp only [arnd, Around.deeper]); omega)); (case pp => exact hH.keeps (Fr.keep (by k_asm))); clear pN'; intro v' h' tk' F' G' st' r'; (subst r'; have N' := G' [] NewL.nil; clear G'; (try simp only [List.nil_append] at N')); (try k_sweep))
  k_with "eq" => (refine PyProof.Rows.eq_dataH (PyProof.Rows.Reads.keeps (Fr.keep (by k_asm)) hR) (PyProof.Rows.Reads.keeps (Fr.keep (by k_asm)) hE) hsh shaped_exp (by (try dsimp only [arnd, Around.deeper]); omega) ?_; rw [eqv_sin])
  k_with "pcend" => rfl
  refine' pc_enter (binds := [(Str.ofString "t", .ref Z)]) ?k1 ?k2 ?k3 ?k4 ?k5 ?_ ?c2 ?c3 ?c4 ?c5
  case k1 => k_dflt k_is
  case k2 => k_dflt k_is
  case k3 => decide
  case k4 => intro s; exact BindsTo.of_eq rfl
  case k5 => exact locs rfl
  case c2 => exact rfl
  case c3 => exact rfl
  case c4 => exact rfl
  case c5 => decide
  intro dp un fr gd s Q L h₁ tk F N X T hp hd hu
  try dsimp only
  k_fold
  have hH := hp.head
  obtain ⟨items, tt, hI⟩ := id hH
  k_with "sub" => (refine' item_tupleT (l := Value.str (Str.ofString "call") tt :: items) ?t ?a ?b ?c ?d ?_; (case t => exact hI.keeps (Fr.keep (by k_asm))); (case a => decide); (case b => decide); (case c => exact idx0); (case d => rfl))
  obtain ⟨as, hR⟩ := hp
  obtain ⟨es, hE⟩ := exp_rd X
  repeat' (first | (k_unfold; (try dsimp only)) | walk1 | (dsimp only; walk1) | (dsimp only; k_unfold; (try dsimp only)) | (leave1; walk_say "STEP leave1"; try dsimp only) | fail "no step")

set_option maxHeartbeats 8000000 in
theorem b_pown {w mean mg mb} (Z : Addr) (bs es : List PyData) (hsh : PySem.SeqAt.shaped (dPow (.tuple bs) (.tuple es)) = true)
    (hr : ∀ B E, PC w mean mg mb 129 [.ref B, .ref E] 20 (fun h => Rd h B (.tuple bs) ∧ Rd h E (.tuple es)) (fun _ _ v => v = .none)) :
    PC w mean mg mb 141 [.ref Z] 200 (fun h => Rd h Z (dPow (.tuple bs) (.tuple es))) (fun _ _ v => v = .none) := by
  k_with_none
  k_with "callpc" => first | ((rename News _ _ _ _ => pN'); refine' pc_use (isnum_f Z (Str.ofString "pow") (by decide)) ?pF pN' ?pX ?pT ?pd ?pu ?pp ?_; (case pF => k_asm); (case pX => k_asm); (case pT => k_asm); (case pd => ((try dsimp only [arnd, Around.deeper]); omega)); (case pu => ((try dsimp only [arnd, Around.deeper]); omega)); (case pp => exact hH.keeps (Fr.keep (by k_asm))); clear pN'; intro v' h' tk' F' G' st' r'; (subst r'; have N' := G' [] NewL.nil; clear G'; (try simp only [List.nil_append] at N')); (try k_sweep))| ((rename News _ _ _ _ => pN'); refine' pc_use (hr B E) ?pF pN' ?pX ?pT ?pd ?pu ?pp ?_; (case pF => k_asm); (case pX => k_asm); (case pT => k_asm); (case pd => ((try dsimp only [arnd, Around.deeper]); omega)); (case pu => ((try dsimp only [arnd, Around.deeper]); omega)); (case pp => exact ⟨hB.keeps (Fr.keep (by k_asm)), hE.keeps (Fr.keep (by k_asm))⟩); clear pN'; intro v' h' tk' F' G' st' r'; (subst r'; have N' := G' [] NewL.nil; clear G'; (try simp only [List.nil_append] at N')); (try k_sweep))
  k_with "eq" => (refine PyProof.Rows.eq_dataH (PyProof.Rows.Reads.keeps (Fr.keep (by k_asm)) hR) (PyProof.Rows.Reads.keeps (Fr.keep (by k_asm)) hX) hsh shaped_exp (by (try dsimp only [arnd, Around.deeper]); omega) ?_; rw [eqv_head (by decide)])
  k_with "pcend" => rfl
  refine' pc_enter (binds := [(Str.ofString "t", .ref Z)]) ?k1 ?k2 ?k3 ?k4 ?k5 ?_ ?c2 ?c3 ?c4 ?c5
  case k1 => k_dflt k_is
  case k2 => k_dflt k_is
  case k3 => decide
  case k4 => intro s; exact BindsTo.of_eq rfl
  case k5 => exact locs rfl
  case c2 => exact rfl
  case c3 => exact rfl
  case c4 => exact rfl
  case c5 => decide
  intro dp un fr gd s Q L h₁ tk F N X T hp hd hu
  try dsimp only
  k_fold
  have hH := hp.head
  obtain ⟨tt, B, E, hI, hB, hE⟩ := hp.three
  obtain ⟨as, hR⟩ := hp
  obtain ⟨es, hX⟩ := exp_rd X
  repeat' (first | (k_unfold; (try dsimp only)) | walk1 | (dsimp only; walk1) | (dsimp only; k_unfold; (try dsimp only)) | (leave1; walk_say "STEP leave1"; try dsimp only) | fail "no step")
end
section
def TEnd (H : Heap) (L : Addr) (J : (Str → Option Value) → List (Addr × Obj) → Prop) (I : Addr) (oI : Obj) (s₁ s₂ : Shared) : Prop :=
  ∃ h' tk m' P', s₂ = { s₁ with heap := h', toks := tk } ∧ Fr H L h' m' ∧ News H L h' ((I, oI) :: P') ∧ (∀ p ∈ P', p.2.cls ≠ .type "tuple_iterator") ∧ J m' P'
def TPost (H : Heap) (L : Addr) (J : (Str → Option Value) → List (Addr × Obj) → Prop) (I : Addr) (oI : Obj) (s₁ : Shared) (Q : Flow → Shared → Prop) (f : Flow) (s₂ : Shared) : Prop :=
  match f with
  | .ret v => Q (.ret v) s₂
  | .brk => Q .next s₂
  | _ => TEnd H L J I oI s₁ s₂
theorem TEnd.intro {H : Heap} {L : Addr} {J : (Str → Option Value) → List (Addr × Obj) → Prop} {I : Addr} {oI : Obj} {s₁ : Shared} {h' : Heap} {tk : Nat} {m' : Str → Option Value} {P : List (Addr × Obj)} (P' : List (Addr × Obj))
    (F : Fr H L h' m') (N : News H L h' P) (hI : (I, oI) ∈ P) (hs : ∀ p ∈ P', p ∈ P) (ho : ∀ p ∈ P', p.2.cls ≠ .type "tuple_iterator") (hj : J m' P') : TEnd H L J I oI s₁ { s₁ with heap := h', toks := tk } :=
  ⟨h', tk, m', P', rfl, F, fun p hp => N p ((List.mem_cons.mp hp).elim (fun e => e ▸ hI) (hs p)), ho, hj⟩
theorem iter_tup2 {prog : Program} {w : World} {A : Around} {E : Value → Shared → Prop} {s : Shared} {env : Env} {H : Heap} {x : Str} {body : List Stmt} {Q : Flow → Shared → Prop} {O : Addr} {its : Array Value} {m₀ : Str → Option Value} {P₀ P₁ : List (Addr × Obj)}
    (J : Nat → (Str → Option Value) → List (Addr × Obj) → Prop)
    (hh : A.handled = none) (hO : IsTup H O its) (F : Fr H env.locals s.heap m₀) (N₁ : News H env.locals s.heap P₁) (hs : ∀ p ∈ P₀, p ∈ P₁) (hj : J 0 m₀ P₀)
    (turn : ∀ i v m₁ P₁ h tk I oI, its[i]? = some v → oI.cls = .type "tuple_iterator" → J i m₁ P₁ → Fr H env.locals h (fun y => if y = x then some v else m₁ y) → News H env.locals h ((I, oI) :: P₁) →
      wpAny (model prog w) A (execs body env) (TPost H env.locals (J (i + 1)) I oI { s with heap := h, toks := tk } Q) E { s with heap := h, toks := tk })
    (done : ∀ m₁ P₁ h tk, J its.size m₁ P₁ → Fr H env.locals h m₁ → News H env.locals h P₁ → Q .next { s with heap := h, toks := tk }) :
    wpAny (model prog w) A (pyIter (.ref O)) (fun it s₂ => LoopAtV prog w A H env x body Q E it s₂) E s := by
  have N : News H env.locals s.heap P₀ := fun p hp => N₁ p (hs p hp)
  have hOs : IsTup s.heap O its := IsTup.keeps hO F.keep
  obtain ⟨ol, hol, _⟩ := id hO
  have hlt : O < s.heap.objs.size := by obtain ⟨_, e, _⟩ := hOs; exact Heap.lt_size e
  have W := Walks.tuple (prog := prog) (w := w) hh s.heap.objs.size O (Nat.ne_of_lt hlt) its
  refine iter_tuple hOs ⟨_, _, _, its.size, _, _, m₀, P₀, J, rfl, W, ?_, ?_, ?_, ⟨⟨_, Heap.get?_push_size _ rfl, rfl, rfl⟩, hOs.keeps fun o e => Heap.get?_push_of_some _⟩, F.push _, (fun p hp => ⟨Heap.get?_push_of_some _ (N p hp).1, (N p hp).2⟩), hj, ?_, ?_⟩
  · intro hm
    rcases List.mem_cons.mp hm with e | hm
    · exact absurd F.ns.lt (e ▸ Nat.lt_irrefl _)
    · exact absurd (Nat.lt_of_lt_of_le (Heap.lt_size hol) F.above) ((List.mem_singleton.mp hm) ▸ Nat.lt_irrefl _)
  · intro b hb
    rw [List.mem_singleton.mp hb]
    exact next_is_new F
  · intro p hp hI
    exact absurd (Heap.lt_size (N p hp).1) ((List.mem_singleton.mp hI) ▸ Nat.lt_irrefl _)
  · rintro i v m₁ n₁ s₁ own ⟨hh', tk', rfl⟩ hin hP hJ hoff hown hget hall st F₁ Nw
    obtain ⟨oI, eI, cI, _⟩ := id st.1
    have hIo : (s.heap.objs.size, oI) ∈ own := hall _ (List.mem_cons_self ..) (next_is_new F) _ eI
    have N₂ : News H env.locals hh' ((s.heap.objs.size, oI) :: n₁) := fun p hp => by
      rcases List.mem_cons.mp hp with rfl | hp
      · exact Nw _ (List.mem_append_left _ hIo)
      · exact Nw _ (List.mem_append_right _ hp)
    refine wpAny_mono (turn i v m₁ n₁ hh' tk' _ oI hP cI hJ F₁ N₂) (fun f s₂ p => ?_) fun _ _ e => e
    have fin : TEnd H env.locals (J (i + 1)) s.heap.objs.size oI { s with heap := hh', toks := tk' } s₂ → LoopStepU H env.locals [s.heap.objs.size] own (J (i + 1)) { s with heap := hh', toks := tk' } .next s₂ := by
      rintro ⟨h', tk, m', P', e, F', N', ho, hm⟩
      refine ⟨rfl, h', tk, m', P', e, F', fun p hp => ?_, fun p hp hI => ?_, hm⟩
      · rcases List.mem_append.mp hp with hp | hp
        · have h1 := hown p hp
          have h2 := hget p hp
          rcases List.mem_cons.mp h1 with q | q
          · have h3 : oI = p.2 := Option.some.inj (eI.symm.trans (q ▸ h2))
            have h4 : (s.heap.objs.size, oI) = p := by rw [← q, h3]
            rw [← h4]
            exact N' _ (List.mem_cons_self ..)
          · have h3 := (Nw p (List.mem_append_left _ hp)).2.2
            rw [List.mem_singleton.mp q, hol] at h3
            cases h3
        · exact N' _ (List.mem_cons_of_mem _ hp)
      · have h1 := (N' _ (List.mem_cons_self ..)).1
        have h2 := (N' _ (List.mem_cons_of_mem _ hp)).1
        rw [List.mem_singleton.mp hI] at h2
        have h3 : oI = p.2 := Option.some.inj (h1.symm.trans h2)
        exact ho p hp (h3 ▸ cI)
    cases f with
    | ret v => exact .ret p
    | brk => exact .brk p
    | next => exact .next (fin p)
    | cont => exact .cont (fin p)
  · rintro h' tk m' news' F' N' _ hJ
    exact done m' news' h' tk hJ F' N'
/-- what bounds_of hands back: a new pair of pairs, or the bounds of e that stand at the top -/
def BRes (H h' : Heap) (v : Value) (a b c d : Int) : Prop := PairOf H h' v a b c d ∨ (v = .ref 112 ∧ a = 2718281828459 ∧ b = 1000000000000 ∧ c = 2718281828460 ∧ d = 1000000000000)
theorem BoundsAt.ofNews {H h : Heap} {L O D1 D2 : Addr} {news : List (Addr × Obj)} {a b c d : Int} {t1 t2 u1 u2 : Tok} (N : News H L h news) (hm : (O, ({ cls := .type "tuple", data := .seq #[.ref D1, .ref D2] } : Obj)) ∈ news)
    (h1 : (D1, ({ cls := .type "tuple", data := .seq #[.int a t1, .int b t2] } : Obj)) ∈ news) (h2 : (D2, ({ cls := .type "tuple", data := .seq #[.int c u1, .int d u2] } : Obj)) ∈ news) : BoundsAt h O a b c d :=
  ⟨D1, D2, News.isTup N hm, Pair.ofNews N h1, Pair.ofNews N h2⟩
def Found (m₀ : Str → Option Value) (a b c d : Int) (m : Str → Option Value) (P : List (Addr × Obj)) : Prop :=
  (∃ O D1 D2 t1 t2 u1 u2, m (Str.ofString "found") = some (.ref O) ∧ P = [(O, ({ cls := .type "tuple", data := .seq #[.ref D1, .ref D2] } : Obj)), (D1, ({ cls := .type "tuple", data := .seq #[.int a t1, .int b t2] } : Obj)), (D2, ({ cls := .type "tuple", data := .seq #[.int c u1, .int d u2] } : Obj))]) ∧
  ∀ z, z ≠ Str.ofString "one" → z ≠ Str.ofString "told" → z ≠ Str.ofString "found" → m z = m₀ z
def Found0 (m₀ : Str → Option Value) (R : Addr) (m : Str → Option Value) (P : List (Addr × Obj)) : Prop :=
  (∃ O, m (Str.ofString "found") = some (.ref O) ∧ P = [(O, ({ cls := .type "tuple", data := .seq #[.ref R, .ref R] } : Obj))]) ∧
  ∀ z, z ≠ Str.ofString "one" → z ≠ Str.ofString "told" → z ≠ Str.ofString "found" → m z = m₀ z
theorem found_fr {H h : Heap} {L O : Addr} {m₀ m : Str → Option Value} {v : Value} (h1 : m (Str.ofString "found") = some (.ref O)) (h2 : ∀ z, z ≠ Str.ofString "one" → z ≠ Str.ofString "told" → z ≠ Str.ofString "found" → m z = m₀ z)
    (F : Fr H L h (fun y => if y = Str.ofString "one" then some v else m y)) :
    Fr H L h (fun y => if y = Str.ofString "one" then some v else if y = Str.ofString "told" then m y else if y = Str.ofString "found" then some (.ref O) else m₀ y) := by
  have e : (fun y => if y = Str.ofString "one" then some v else m y) = (fun y => if y = Str.ofString "one" then some v else if y = Str.ofString "told" then m y else if y = Str.ofString "found" then some (.ref O) else m₀ y) := by
    funext y
    by_cases a : y = Str.ofString "one"
    · simp [a]
    · simp only [if_neg a]
      by_cases b : y = Str.ofString "told"
      · simp [b]
      · simp only [if_neg b]
        by_cases c : y = Str.ofString "found"
        · simp only [if_pos c]; rw [c]; exact h1
        · simp only [if_neg c]; exact h2 y a b c
  rw [← e]; exact F
theorem found_frE {H h : Heap} {L O : Addr} {m : Str → Option Value} (h1 : m (Str.ofString "found") = some (.ref O)) (F : Fr H L h m) : Fr H L h (fun y => if y = Str.ofString "found" then some (.ref O) else m y) := by
  have e : m = (fun y => if y = Str.ofString "found" then some (.ref O) else m y) := by
    funext y
    by_cases c : y = Str.ofString "found"
    · simp only [if_pos c]; rw [c]; exact h1
    · simp only [if_neg c]
  rw [← e]; exact F
end
local macro_rules | `(tactic| walk_at "TPost") => `(tactic| (dsimp only [TPost]))
section
theorem bounds0 {H h h' : Heap} {L O R : Addr} {p q : Int} {news : List (Addr × Obj)} (N : News H L h news) (hm : (O, ({ cls := .type "tuple", data := .seq #[.ref R, .ref R] } : Obj)) ∈ news) (hp : Pair h' R p q) (k : ∀ b o, h'.get? b = some o → h.get? b = some o) : BoundsAt h O p q p q :=
  ⟨R, R, News.isTup N hm, hp.keeps k, hp.keeps k⟩
theorem bres_at {w : World} {H h : Heap} {L O : Addr} {a b c d : Int} {news : List (Addr × Obj)} (N : News H L h news) (X : (hd.heap_39 w.params).In H) (k : ∀ b o, H.get? b = some o → h.get? b = some o)
    (x : (∃ D1 D2 t1 t2 u1 u2, (O, ({ cls := .type "tuple", data := .seq #[.ref D1, .ref D2] } : Obj)) ∈ news ∧ (D1, ({ cls := .type "tuple", data := .seq #[.int a t1, .int b t2] } : Obj)) ∈ news ∧ (D2, ({ cls := .type "tuple", data := .seq #[.int c u1, .int d u2] } : Obj)) ∈ news) ∨
      (O = 112 ∧ a = 2718281828459 ∧ b = 1000000000000 ∧ c = 2718281828460 ∧ d = 1000000000000)) : BoundsAt h O a b c d := by
  rcases x with ⟨D1, D2, t1, t2, u1, u2, h0, h1, h2⟩ | ⟨rfl, rfl, rfl, rfl, rfl⟩
  · exact BoundsAt.ofNews N h0 h1 h2
  · exact (e_bounds X).keeps k
def SumJ (m₀ : Str → Option Value) (R : Addr) (f0 f1 f2 f3 g0 g1 g2 g3 : Int) : Nat → (Str → Option Value) → List (Addr × Obj) → Prop
  | 0 => Found0 m₀ R
  | 1 => Found m₀ f0 f1 f2 f3
  | _ => Found m₀ g0 g1 g2 g3
theorem tend_found {H h' : Heap} {L I O D1 D2 : Addr} {oI : Obj} {s₁ : Shared} {m₀ m' : Str → Option Value} {P : List (Addr × Obj)} {a b c d : Int} {t1 t2 u1 u2 : Tok} {tk : Nat} (F : Fr H L h' m') (N : News H L h' P) (hI : (I, oI) ∈ P) (hm : m' (Str.ofString "found") = some (.ref O))
    (h0 : (O, ({ cls := .type "tuple", data := .seq #[.ref D1, .ref D2] } : Obj)) ∈ P) (h1 : (D1, ({ cls := .type "tuple", data := .seq #[.int a t1, .int b t2] } : Obj)) ∈ P) (h2 : (D2, ({ cls := .type "tuple", data := .seq #[.int c u1, .int d u2] } : Obj)) ∈ P)
    (hz : ∀ z, z ≠ Str.ofString "one" → z ≠ Str.ofString "told" → z ≠ Str.ofString "found" → m' z = m₀ z) : TEnd H L (Found m₀ a b c d) I oI s₁ { s₁ with heap := h', toks := tk } := by
  refine TEnd.intro [_, _, _] F N hI ?_ ?_ ⟨⟨O, D1, D2, t1, t2, u1, u2, hm, rfl⟩, hz⟩
  · intro p hp
    rcases List.mem_cons.mp hp with rfl | hp
    · exact h0
    rcases List.mem_cons.mp hp with rfl | hp
    · exact h1
    rw [List.mem_singleton.mp hp]; exact h2
  · intro p hp
    rcases List.mem_cons.mp hp with rfl | hp
    · simp
    rcases List.mem_cons.mp hp with rfl | hp
    · simp
    rw [List.mem_singleton.mp hp]; simp

set_option maxHeartbeats 8000000 in
theorem b_sum {w mean mg mb} (Z : Addr) (as bs : List PyData) (a0 a1 a2 a3 b0 b1 b2 b3 f0 f1 f2 f3 g0 g1 g2 g3 : Int) (hsh : PySem.SeqAt.shaped (dSum (.tuple as) (.tuple bs)) = true)
    (ca : ∀ A, PC w mean mg mb 141 [.ref A] 200 (fun h => Rd h A (.tuple as)) (fun H h' v => BRes H h' v a0 a1 a2 a3))
    (cb : ∀ A, PC w mean mg mb 141 [.ref A] 200 (fun h => Rd h A (.tuple bs)) (fun H h' v => BRes H h' v b0 b1 b2 b3))
    (j1 : ∀ t O P, PC w mean mg mb 134 [.str (Str.ofString "sum") t, .ref O, .ref P] 160 (fun h => BoundsAt h O 0 1 0 1 ∧ BoundsAt h P a0 a1 a2 a3) (fun H h' v => PairOf H h' v f0 f1 f2 f3))
    (j2 : ∀ t O P, PC w mean mg mb 134 [.str (Str.ofString "sum") t, .ref O, .ref P] 160 (fun h => BoundsAt h O f0 f1 f2 f3 ∧ BoundsAt h P b0 b1 b2 b3) (fun H h' v => PairOf H h' v g0 g1 g2 g3)) :
    PC w mean mg mb 141 [.ref Z] 210 (fun h => Rd h Z (dSum (.tuple as) (.tuple bs))) (fun H h' v => PairOf H h' v g0 g1 g2 g3) := by
  k_with_none
  k_with "callpc" => first | ((rename News _ _ _ _ => pN'); refine' pc_use (isnum_f Z (Str.ofString "sum") (by decide)) ?pF pN' ?pX ?pT ?pd ?pu ?pp ?_; (case pF => k_asm); (case pX => k_asm); (case pT => k_asm); (case pd => ((try dsimp only [arnd, Around.deeper]); omega)); (case pu => ((try dsimp only [arnd, Around.deeper]); omega)); (case pp => exact hH.keeps (Fr.keep (by k_asm))); clear pN'; intro v' h' tk' F' G' st' r'; (subst r'; have N' := G' [] NewL.nil; clear G'; (try simp only [List.nil_append] at N')); (try k_sweep))| ((rename News _ _ _ _ => pN'); refine' pc_use (ca A) ?pF pN' ?pX ?pT ?pd ?pu ?pp ?_; (case pF => k_asm); (case pX => k_asm); (case pT => k_asm); (case pd => ((try dsimp only [arnd, Around.deeper]); omega)); (case pu => ((try dsimp only [arnd, Around.deeper]); omega)); (case pp => exact hA.keeps (Fr.keep (by k_asm))); clear pN'; intro v' h' tk' F' G' st' r'; rcases r' with r' | r'; (case' inl => (obtain ⟨D, D1, D2, t1, t2, u1, u2, rfl, nw'⟩ := r'; have N' := G' _ nw'; (try simp only [List.cons_append, List.nil_append] at N'); clear G' nw'; (try k_sweep))); (case' inr => (obtain ⟨rfl, hE⟩ := r'; have N' := G' [] NewL.nil; (try simp only [List.nil_append] at N'); clear G'; (try k_sweep))))| ((rename News _ _ _ _ => pN'); refine' pc_use (cb B) ?pF pN' ?pX ?pT ?pd ?pu ?pp ?_; (case pF => k_asm); (case pX => k_asm); (case pT => k_asm); (case pd => ((try dsimp only [arnd, Around.deeper]); omega)); (case pu => ((try dsimp only [arnd, Around.deeper]); omega)); (case pp => exact hB.keeps (Fr.keep (by k_asm))); clear pN'; intro v' h' tk' F' G' st' r'; rcases r' with r' | r'; (case' inl => (obtain ⟨D, D1, D2, t1, t2, u1, u2, rfl, nw'⟩ := r'; have N' := G' _ nw'; (try simp only [List.cons_append, List.nil_append] at N'); clear G' nw'; (try k_sweep))); (case' inr => (obtain ⟨rfl, hE⟩ := r'; have N' := G' [] NewL.nil; (try simp only [List.nil_append] at N'); clear G'; (try k_sweep))))| ((rename News _ _ _ _ => pN'); refine' pc_use (j1 _ _ _) ?pF pN' ?pX ?pT ?pd ?pu ?pp ?_; (case pF => k_asm); (case pX => k_asm); (case pT => k_asm); (case pd => ((try dsimp only [arnd, Around.deeper]); omega)); (case pu => ((try dsimp only [arnd, Around.deeper]); omega)); (case pp => exact ⟨bounds0 pN' (by k_mem) (r0_pair X) (Fr.keep (by k_asm)), bres_at pN' X (Fr.keep (by k_asm)) (by k_extra "bres")⟩); clear pN'; intro v' h' tk' F' G' st' r'; (obtain ⟨D, D1, D2, t1, t2, u1, u2, rfl, nw'⟩ := r'; have N' := G' _ nw'; (try simp only [List.cons_append, List.nil_append] at N'); clear G' nw'); (try k_sweep))| ((rename News _ _ _ _ => pN'); refine' pc_use (j2 _ _ _) ?pF pN' ?pX ?pT ?pd ?pu ?pp ?_; (case pF => k_asm); (case pX => k_asm); (case pT => k_asm); (case pd => ((try dsimp only [arnd, Around.deeper]); omega)); (case pu => ((try dsimp only [arnd, Around.deeper]); omega)); (case pp => exact ⟨BoundsAt.ofNews pN' (by k_mem) (by k_mem) (by k_mem), bres_at pN' X (Fr.keep (by k_asm)) (by k_extra "bres")⟩); clear pN'; intro v' h' tk' F' G' st' r'; (obtain ⟨D, D1, D2, t1, t2, u1, u2, rfl, nw'⟩ := r'; have N' := G' _ nw'; (try simp only [List.cons_append, List.nil_append] at N'); clear G' nw'); (try k_sweep))
  k_with "bres" => first | exact .inl ⟨_, _, _, _, _, _, by k_mem, by k_mem, by k_mem⟩ | exact .inr ⟨rfl, hE⟩
  k_with "eq" => (refine PyProof.Rows.eq_dataH (PyProof.Rows.Reads.keeps (Fr.keep (by k_asm)) hR) (PyProof.Rows.Reads.keeps (Fr.keep (by k_asm)) hX) hsh shaped_exp (by (try dsimp only [arnd, Around.deeper]); omega) ?_; rw [eqv_head (by decide)])
  k_with "for" => ((rename Fr _ _ _ _ => lF'); (with_unfolding_all refine' For_invVF lF' ?k1 ?k2 ?_; (case k1 => exact rfl); (case k2 => exact rfl)))
  k_with "tend" => exact tend_found (by k_asm) (by k_asm) (by k_mem) (by with_unfolding_all rfl) (by k_mem) (by k_mem) (by k_mem) (by intro z h1 h2 h3; simp only [if_neg h1, if_neg h2, if_neg h3])
  k_with "pcend" => exact pairOf_end (by k_asm) (by k_mem) (by k_mem) (by k_mem) rfl rfl rfl rfl
  refine' pc_enter (binds := [(Str.ofString "t", .ref Z)]) ?k1 ?k2 ?k3 ?k4 ?k5 ?_ ?c2 ?c3 ?c4 ?c5
  case k1 => k_dflt k_is
  case k2 => k_dflt k_is
  case k3 => decide
  case k4 => intro s; exact BindsTo.of_eq rfl
  case k5 => exact locs rfl
  case c2 => exact rfl
  case c3 => exact rfl
  case c4 => exact rfl
  case c5 => decide
  intro dp un fr gd s Q L h₁ tk F N X T hp hd hu
  try dsimp only
  k_fold
  have hH := hp.head
  obtain ⟨tt, S, A, B, hI, hS, hA, hB⟩ := hp.args
  obtain ⟨as, hR⟩ := hp
  obtain ⟨es, hX⟩ := exp_rd X
  k_with "pyiter" =>
    rename Fr _ _ _ _ => lF'
    rename News _ _ _ _ => lN'
    with_unfolding_all refine' iter_tup2 (SumJ _ 49 f0 f1 f2 f3 g0 g1 g2 g3) rfl hS lF' lN' ?hs ⟨⟨_, rfl, rfl⟩, fun _ _ _ _ => rfl⟩ ?lturn ?ldone
    case hs => (intro p hp; rw [List.mem_singleton.mp hp]; k_mem)
    case' ldone =>
      rintro m₁ P₁ h tk ⟨⟨O, D1, D2, t1, t2, u1, u2, hm, rfl⟩, hz⟩ F N
      replace F := found_frE hm F
      clear lF' lN'
      dsimp only [envOf] at F N
    case' lturn =>
      rintro (_ | _ | i) v m₁ P₁ h tk I oI hv hcls hJ F N
      rotate_left 2
      · simp at hv
      all_goals obtain rfl := Option.some.inj hv
      obtain ⟨⟨O, hm, rfl⟩, hz⟩ := hJ
      rotate_left
      obtain ⟨⟨O, D1, D2, t1, t2, u1, u2, hm, rfl⟩, hz⟩ := hJ
      rotate_left
      all_goals (replace F := found_fr hm hz F; clear lF' lN' hv; dsimp only [envOf] at F N; (try k_unmd); (try k_fold))
  repeat' (first | (k_unfold; (try dsimp only)) | walk1 | (dsimp only; walk1) | (dsimp only; k_unfold; (try dsimp only)) | (leave1; walk_say "STEP leave1"; try dsimp only) | fail "no step")
end
section

set_option maxHeartbeats 8000000 in
theorem b_prod {w mean mg mb} (Z : Addr) (as bs : List PyData) (a0 a1 a2 a3 b0 b1 b2 b3 f0 f1 f2 f3 g0 g1 g2 g3 : Int) (hsh : PySem.SeqAt.shaped (dProd (.tuple as) (.tuple bs)) = true)
    (ca : ∀ A, PC w mean mg mb 141 [.ref A] 200 (fun h => Rd h A (.tuple as)) (fun H h' v => BRes H h' v a0 a1 a2 a3))
    (cb : ∀ A, PC w mean mg mb 141 [.ref A] 200 (fun h => Rd h A (.tuple bs)) (fun H h' v => BRes H h' v b0 b1 b2 b3))
    (j1 : ∀ t O P, PC w mean mg mb 134 [.str (Str.ofString "prod") t, .ref O, .ref P] 160 (fun h => BoundsAt h O 1 1 1 1 ∧ BoundsAt h P a0 a1 a2 a3) (fun H h' v => PairOf H h' v f0 f1 f2 f3))
    (j2 : ∀ t O P, PC w mean mg mb 134 [.str (Str.ofString "prod") t, .ref O, .ref P] 160 (fun h => BoundsAt h O f0 f1 f2 f3 ∧ BoundsAt h P b0 b1 b2 b3) (fun H h' v => PairOf H h' v g0 g1 g2 g3)) :
    PC w mean mg mb 141 [.ref Z] 210 (fun h => Rd h Z (dProd (.tuple as) (.tuple bs))) (fun H h' v => PairOf H h' v g0 g1 g2 g3) := by
  k_with_none
  k_with "callpc" => first | ((rename News _ _ _ _ => pN'); refine' pc_use (isnum_f Z (Str.ofString "prod") (by decide)) ?pF pN' ?pX ?pT ?pd ?pu ?pp ?_; (case pF => k_asm); (case pX => k_asm); (case pT => k_asm); (case pd => ((try dsimp only [arnd, Around.deeper]); omega)); (case pu => ((try dsimp only [arnd, Around.deeper]); omega)); (case pp => exact hH.keeps (Fr.keep (by k_asm))); clear pN'; intro v' h' tk' F' G' st' r'; (subst r'; have N' := G' [] NewL.nil; clear G'; (try simp only [List.nil_append] at N')); (try k_sweep))| ((rename News _ _ _ _ => pN'); refine' pc_use (ca A) ?pF pN' ?pX ?pT ?pd ?pu ?pp ?_; (case pF => k_asm); (case pX => k_asm); (case pT => k_asm); (case pd => ((try dsimp only [arnd, Around.deeper]); omega)); (case pu => ((try dsimp only [arnd, Around.deeper]); omega)); (case pp => exact hA.keeps (Fr.keep (by k_asm))); clear pN'; intro v' h' tk' F' G' st' r'; rcases r' with r' | r'; (case' inl => (obtain ⟨D, D1, D2, t1, t2, u1, u2, rfl, nw'⟩ := r'; have N' := G' _ nw'; (try simp only [List.cons_append, List.nil_append] at N'); clear G' nw'; (try k_sweep))); (case' inr => (obtain ⟨rfl, hE⟩ := r'; have N' := G' [] NewL.nil; (try simp only [List.nil_append] at N'); clear G'; (try k_sweep))))| ((rename News _ _ _ _ => pN'); refine' pc_use (cb B) ?pF pN' ?pX ?pT ?pd ?pu ?pp ?_; (case pF => k_asm); (case pX => k_asm); (case pT => k_asm); (case pd => ((try dsimp only [arnd, Around.deeper]); omega)); (case pu => ((try dsimp only [arnd, Around.deeper]); omega)); (case pp => exact hB.keeps (Fr.keep (by k_asm))); clear pN'; intro v' h' tk' F' G' st' r'; rcases r' with r' | r'; (case' inl => (obtain ⟨D, D1, D2, t1, t2, u1, u2, rfl, nw'⟩ := r'; have N' := G' _ nw'; (try simp only [List.cons_append, List.nil_append] at N'); clear G' nw'; (try k_sweep))); (case' inr => (obtain ⟨rfl, hE⟩ := r'; have N' := G' [] NewL.nil; (try simp only [List.nil_append] at N'); clear G'; (try k_sweep))))| ((rename News _ _ _ _ => pN'); refine' pc_use (j1 _ _ _) ?pF pN' ?pX ?pT ?pd ?pu ?pp ?_; (case pF => k_asm); (case pX => k_asm); (case pT => k_asm); (case pd => ((try dsimp only [arnd, Around.deeper]); omega)); (case pu => ((try dsimp only [arnd, Around.deeper]); omega)); (case pp => exact ⟨bounds0 pN' (by k_mem) (r1_pair X) (Fr.keep (by k_asm)), bres_at pN' X (Fr.keep (by k_asm)) (by k_extra "bres")⟩); clear pN'; intro v' h' tk' F' G' st' r'; (obtain ⟨D, D1, D2, t1, t2, u1, u2, rfl, nw'⟩ := r'; have N' := G' _ nw'; (try simp only [List.cons_append, List.nil_append] at N'); clear G' nw'); (try k_sweep))| ((rename News _ _ _ _ => pN'); refine' pc_use (j2 _ _ _) ?pF pN' ?pX ?pT ?pd ?pu ?pp ?_; (case pF => k_asm); (case pX => k_asm); (case pT => k_asm); (case pd => ((try dsimp only [arnd, Around.deeper]); omega)); (case pu => ((try dsimp only [arnd, Around.deeper]); omega)); (case pp => exact ⟨BoundsAt.ofNews pN' (by k_mem) (by k_mem) (by k_mem), bres_at pN' X (Fr.keep (by k_asm)) (by k_extra "bres")⟩); clear pN'; intro v' h' tk' F' G' st' r'; (obtain ⟨D, D1, D2, t1, t2, u1, u2, rfl, nw'⟩ := r'; have N' := G' _ nw'; (try simp only [List.cons_append, List.nil_append] at N'); clear G' nw'); (try k_sweep))
  k_with "bres" => first | exact .inl ⟨_, _, _, _, _, _, by k_mem, by k_mem, by k_mem⟩ | exact .inr ⟨rfl, hE⟩
  k_with "eq" => (refine PyProof.Rows.eq_dataH (PyProof.Rows.Reads.keeps (Fr.keep (by k_asm)) hR) (PyProof.Rows.Reads.keeps (Fr.keep (by k_asm)) hX) hsh shaped_exp (by (try dsimp only [arnd, Around.deeper]); omega) ?_; rw [eqv_head (by decide)])
  k_with "for" => ((rename Fr _ _ _ _ => lF'); (with_unfolding_all refine' For_invVF lF' ?k1 ?k2 ?_; (case k1 => exact rfl); (case k2 => exact rfl)))
  k_with "tend" => exact tend_found (by k_asm) (by k_asm) (by k_mem) (by with_unfolding_all rfl) (by k_mem) (by k_mem) (by k_mem) (by intro z h1 h2 h3; simp only [if_neg h1, if_neg h2, if_neg h3])
  k_with "pcend" => exact pairOf_end (by k_asm) (by k_mem) (by k_mem) (by k_mem) rfl rfl rfl rfl
  refine' pc_enter (binds := [(Str.ofString "t", .ref Z)]) ?k1 ?k2 ?k3 ?k4 ?k5 ?_ ?c2 ?c3 ?c4 ?c5
  case k1 => k_dflt k_is
  case k2 => k_dflt k_is
  case k3 => decide
  case k4 => intro s; exact BindsTo.of_eq rfl
  case k5 => exact locs rfl
  case c2 => exact rfl
  case c3 => exact rfl
  case c4 => exact rfl
  case c5 => decide
  intro dp un fr gd s Q L h₁ tk F N X T hp hd hu
  try dsimp only
  k_fold
  have hH := hp.head
  obtain ⟨tt, S, A, B, hI, hS, hA, hB⟩ := hp.args
  obtain ⟨as, hR⟩ := hp
  obtain ⟨es, hX⟩ := exp_rd X
  k_with "pyiter" =>
    rename Fr _ _ _ _ => lF'
    rename News _ _ _ _ => lN'
    with_unfolding_all refine' iter_tup2 (SumJ _ 50 f0 f1 f2 f3 g0 g1 g2 g3) rfl hS lF' lN' ?hs ⟨⟨_, rfl, rfl⟩, fun _ _ _ _ => rfl⟩ ?lturn ?ldone
    case hs => (intro p hp; rw [List.mem_singleton.mp hp]; k_mem)
    case' ldone =>
      rintro m₁ P₁ h tk ⟨⟨O, D1, D2, t1, t2, u1, u2, hm, rfl⟩, hz⟩ F N
      replace F := found_frE hm F
      clear lF' lN'
      dsimp only [envOf] at F N
    case' lturn =>
      rintro (_ | _ | i) v m₁ P₁ h tk I oI hv hcls hJ F N
      rotate_left 2
      · simp at hv
      all_goals obtain rfl := Option.some.inj hv
      obtain ⟨⟨O, hm, rfl⟩, hz⟩ := hJ
      rotate_left
      obtain ⟨⟨O, D1, D2, t1, t2, u1, u2, hm, rfl⟩, hz⟩ := hJ
      rotate_left
      all_goals (replace F := found_fr hm hz F; clear lF' lN' hv; dsimp only [envOf] at F N; (try k_unmd); (try k_fold))
  repeat' (first | (k_unfold; (try dsimp only)) | walk1 | (dsimp only; walk1) | (dsimp only; k_unfold; (try dsimp only)) | (leave1; walk_say "STEP leave1"; try dsimp only) | fail "no step")
end
section
def SumJN (m₀ : Str → Option Value) (R : Addr) (f0 f1 f2 f3 : Int) : Nat → (Str → Option Value) → List (Addr × Obj) → Prop
  | 0 => Found0 m₀ R
  | 1 => Found m₀ f0 f1 f2 f3
  | _ => fun _ _ => False

set_option maxHeartbeats 8000000 in
theorem b_sum_n {w mean mg mb} (Z : Addr) (as bs : List PyData) (a0 a1 a2 a3 f0 f1 f2 f3 : Int) (hsh : PySem.SeqAt.shaped (dSum (.tuple as) (.tuple bs)) = true)
    (ca : ∀ A, PC w mean mg mb 141 [.ref A] 200 (fun h => Rd h A (.tuple as)) (fun H h' v => BRes H h' v a0 a1 a2 a3))
    (cb : ∀ A, PC w mean mg mb 141 [.ref A] 200 (fun h => Rd h A (.tuple bs)) (fun _ _ v => v = .none))
    (j1 : ∀ t O P, PC w mean mg mb 134 [.str (Str.ofString "sum") t, .ref O, .ref P] 160 (fun h => BoundsAt h O 0 1 0 1 ∧ BoundsAt h P a0 a1 a2 a3) (fun H h' v => PairOf H h' v f0 f1 f2 f3)) :
    PC w mean mg mb 141 [.ref Z] 210 (fun h => Rd h Z (dSum (.tuple as) (.tuple bs))) (fun _ _ v => v = .none) := by
  k_with_none
  k_with "callpc" => first | ((rename News _ _ _ _ => pN'); refine' pc_use (isnum_f Z (Str.ofString "sum") (by decide)) ?pF pN' ?pX ?pT ?pd ?pu ?pp ?_; (case pF => k_asm); (case pX => k_asm); (case pT => k_asm); (case pd => ((try dsimp only [arnd, Around.deeper]); omega)); (case pu => ((try dsimp only [arnd, Around.deeper]); omega)); (case pp => exact hH.keeps (Fr.keep (by k_asm))); clear pN'; intro v' h' tk' F' G' st' r'; (subst r'; have N' := G' [] NewL.nil; clear G'; (try simp only [List.nil_append] at N')); (try k_sweep))| ((rename News _ _ _ _ => pN'); refine' pc_use (ca A) ?pF pN' ?pX ?pT ?pd ?pu ?pp ?_; (case pF => k_asm); (case pX => k_asm); (case pT => k_asm); (case pd => ((try dsimp only [arnd, Around.deeper]); omega)); (case pu => ((try dsimp only [arnd, Around.deeper]); omega)); (case pp => exact hA.keeps (Fr.keep (by k_asm))); clear pN'; intro v' h' tk' F' G' st' r'; rcases r' with r' | r'; (case' inl => (obtain ⟨D, D1, D2, t1, t2, u1, u2, rfl, nw'⟩ := r'; have N' := G' _ nw'; (try simp only [List.cons_append, List.nil_append] at N'); clear G' nw'; (try k_sweep))); (case' inr => (obtain ⟨rfl, hE⟩ := r'; have N' := G' [] NewL.nil; (try simp only [List.nil_append] at N'); clear G'; (try k_sweep))))| ((rename News _ _ _ _ => pN'); refine' pc_use (cb B) ?pF pN' ?pX ?pT ?pd ?pu ?pp ?_; (case pF => k_asm); (case pX => k_asm); (case pT => k_asm); (case pd => ((try dsimp only [arnd, Around.deeper]); omega)); (case pu => ((try dsimp only [arnd, Around.deeper]); omega)); (case pp => exact hB.keeps (Fr.keep (by k_asm))); clear pN'; intro v' h' tk' F' G' st' r'; (subst r'; have N' := G' [] NewL.nil; clear G'; (try simp only [List.nil_append] at N')); (try k_sweep))| ((rename News _ _ _ _ => pN'); refine' pc_use (j1 _ _ _) ?pF pN' ?pX ?pT ?pd ?pu ?pp ?_; (case pF => k_asm); (case pX => k_asm); (case pT => k_asm); (case pd => ((try dsimp only [arnd, Around.deeper]); omega)); (case pu => ((try dsimp only [arnd, Around.deeper]); omega)); (case pp => exact ⟨bounds0 pN' (by k_mem) (r0_pair X) (Fr.keep (by k_asm)), bres_at pN' X (Fr.keep (by k_asm)) (by k_extra "bres")⟩); clear pN'; intro v' h' tk' F' G' st' r'; (obtain ⟨D, D1, D2, t1, t2, u1, u2, rfl, nw'⟩ := r'; have N' := G' _ nw'; (try simp only [List.cons_append, List.nil_append] at N'); clear G' nw'); (try k_sweep))
  k_with "bres" => first | exact .inl ⟨_, _, _, _, _, _, by k_mem, by k_mem, by k_mem⟩ | exact .inr ⟨rfl, hE⟩
  k_with "eq" => (refine PyProof.Rows.eq_dataH (PyProof.Rows.Reads.keeps (Fr.keep (by k_asm)) hR) (PyProof.Rows.Reads.keeps (Fr.keep (by k_asm)) hX) hsh shaped_exp (by (try dsimp only [arnd, Around.deeper]); omega) ?_; rw [eqv_head (by decide)])
  k_with "for" => ((rename Fr _ _ _ _ => lF'); (with_unfolding_all refine' For_invVF lF' ?k1 ?k2 ?_; (case k1 => exact rfl); (case k2 => exact rfl)))
  k_with "tend" => exact tend_found (by k_asm) (by k_asm) (by k_mem) (by with_unfolding_all rfl) (by k_mem) (by k_mem) (by k_mem) (by intro z h1 h2 h3; simp only [if_neg h1, if_neg h2, if_neg h3])
  k_with "pcend" => rfl
  refine' pc_enter (binds := [(Str.ofString "t", .ref Z)]) ?k1 ?k2 ?k3 ?k4 ?k5 ?_ ?c2 ?c3 ?c4 ?c5
  case k1 => k_dflt k_is
  case k2 => k_dflt k_is
  case k3 => decide
  case k4 => intro s; exact BindsTo.of_eq rfl
  case k5 => exact locs rfl
  case c2 => exact rfl
  case c3 => exact rfl
  case c4 => exact rfl
  case c5 => decide
  intro dp un fr gd s Q L h₁ tk F N X T hp hd hu
  try dsimp only
  k_fold
  have hH := hp.head
  obtain ⟨tt, S, A, B, hI, hS, hA, hB⟩ := hp.args
  obtain ⟨as, hR⟩ := hp
  obtain ⟨es, hX⟩ := exp_rd X
  k_with "pyiter" =>
    rename Fr _ _ _ _ => lF'
    rename News _ _ _ _ => lN'
    with_unfolding_all refine' iter_tup2 (SumJN _ 49 f0 f1 f2 f3) rfl hS lF' lN' ?hs ⟨⟨_, rfl, rfl⟩, fun _ _ _ _ => rfl⟩ ?lturn ?ldone
    case hs => (intro p hp; rw [List.mem_singleton.mp hp]; k_mem)
    case ldone => (intro m₁ P₁ h tk hJ; exact hJ.elim)
    case' lturn =>
      rintro (_ | _ | i) v m₁ P₁ h tk I oI hv hcls hJ F N
      rotate_left 2
      · simp at hv
      all_goals obtain rfl := Option.some.inj hv
      obtain ⟨⟨O, hm, rfl⟩, hz⟩ := hJ
      rotate_left
      obtain ⟨⟨O, D1, D2, t1, t2, u1, u2, hm, rfl⟩, hz⟩ := hJ
      rotate_left
      all_goals (replace F := found_fr hm hz F; clear lF' lN' hv; dsimp only [envOf] at F N; (try k_unmd); (try k_fold))
  repeat' (first | (k_unfold; (try dsimp only)) | walk1 | (dsimp only; walk1) | (dsimp only; k_unfold; (try dsimp only)) | (leave1; walk_say "STEP leave1"; try dsimp only) | fail "no step")
end
section
theorem e_tup {w : World} {h : Heap} (X : (hd.heap_39 w.params).In h) : IsTup h 112 #[.ref 110, .ref 111] := isTup_of X (by k_dflt k_is)
theorem e_pair0 {w : World} {h : Heap} (X : (hd.heap_39 w.params).In h) : Pair h 110 2718281828459 1000000000000 := ⟨_, _, isTup_of X (by k_dflt k_is)⟩
theorem e_pair1 {w : World} {h : Heap} (X : (hd.heap_39 w.params).In h) : Pair h 111 2718281828460 1000000000000 := ⟨_, _, isTup_of X (by k_dflt k_is)⟩
@[irreducible] def endsP (a a' b b' : V2) : V2 × V2 := lvOf a [a', b, b']
theorem isList_fun {h : Heap} {l : Addr} {x y : Array Value} (a : h.IsList l x) (b : h.IsList l y) : x = y := by
  obtain ⟨o, e1, _, n, d1⟩ := a
  obtain ⟨o', e2, _, n', d2⟩ := b
  rw [e1] at e2
  cases e2
  rw [d1] at d2
  cases d2
  rfl
theorem lg4 {w mean mg mb} (l : Addr) (a0 a1 a2 a3 b0 b1 b2 b3 : Int) (sa : Sz4 a0 a1 a2 a3) (sb : Sz4 b0 b1 b2 b3) :
    PC w mean mg mb 122 [.ref l] 140 (fun h => ∃ A0 A1 B0 B1, h.IsList l #[.ref A0, .ref A1, .ref B0, .ref B1] ∧ Pair h A0 a0 a1 ∧ Pair h A1 a2 a3 ∧ Pair h B0 b0 b1 ∧ Pair h B1 b2 b3)
      (fun H h' v => ∃ D E1 E2, v = .ref D ∧ NewL H h' [(D, ({ cls := .type "tuple", data := .seq #[.ref E1, .ref E2] } : Obj))] ∧
        ∀ A0 A1 B0 B1, h'.IsList l #[.ref A0, .ref A1, .ref B0, .ref B1] → (E1, (endsP (a0, a1) (a2, a3) (b0, b1) (b2, b3)).1) ∈ ([(A0, a0, a1), (A1, a2, a3), (B0, b0, b1), (B1, b2, b3)] : List T3) ∧ (E2, (endsP (a0, a1) (a2, a3) (b0, b1) (b2, b3)).2) ∈ ([(A0, a0, a1), (A1, a2, a3), (B0, b0, b1), (B1, b2, b3)] : List T3)) := by
  intro dp un fr gd s Q E X T hd hu ⟨A0, A1, B0, B1, hl, p0, p1, p2, p3⟩ hret
  have hs : ∀ y ∈ ((A0, a0, a1) : T3) :: [(A1, a2, a3), (B0, b0, b1), (B1, b2, b3)], Sz y.2.1 ∧ Sz y.2.2 := by
    intro y hy
    simp only [List.mem_cons, List.not_mem_nil, or_false] at hy
    rcases hy with rfl | rfl | rfl | rfl
    · exact ⟨sa.1, sa.2.1⟩
    · exact ⟨sa.2.2.1, sa.2.2.2⟩
    · exact ⟨sb.1, sb.2.1⟩
    · exact ⟨sb.2.2.1, sb.2.2.2⟩
  refine lg_pc l (A0, a0, a1) [(A1, a2, a3), (B0, b0, b1), (B1, b2, b3)] hs dp un fr gd s Q E X T hd hu ⟨hl, ?_⟩ (fun v h' tk st r => hret v h' tk st ?_)
  · intro y hy
    simp only [List.mem_cons, List.not_mem_nil, or_false] at hy
    rcases hy with rfl | rfl | rfl | rfl <;> assumption
  · obtain ⟨D, rfl, nw⟩ := r
    refine ⟨D, _, _, rfl, nw, fun A0' A1' B0' B1' hl' => ?_⟩
    have e := isList_fun (hl.at fun o => st _ o) hl'
    simp only [Array.mk.injEq, List.cons.injEq, Value.ref.injEq, and_true] at e
    obtain ⟨rfl, rfl, rfl, rfl⟩ := e
    have hv := lv_of (A0, a0, a1) [(A1, a2, a3), (B0, b0, b1), (B1, b2, b3)]
    have hm := lgOf_mem (A0, a0, a1) [(A1, a2, a3), (B0, b0, b1), (B1, b2, b3)]
    have e1 : endsP (a0, a1) (a2, a3) (b0, b1) (b2, b3) = lvOf (a0, a1) [(a2, a3), (b0, b1), (b2, b3)] := by unfold endsP; rfl
    rw [e1]
    simp only [List.map_cons, List.map_nil] at hv
    rw [← hv]
    exact hm
/-- where a pair of ints lies: new, or at the top -/
def Loc (l : List (Addr × Obj)) (E : Addr) (p q : Int) : Prop := (∃ t u, (E, tup2O p q t u) ∈ l) ∨ ∀ (w : World) (h : Heap), (hd.heap_39 w.params).In h → Pair h E p q
theorem Loc.mono {l l' : List (Addr × Obj)} {E : Addr} {p q : Int} (x : Loc l E p q) (h : ∀ p ∈ l, p ∈ l') : Loc l' E p q := x.imp (fun ⟨t, u, e⟩ => ⟨t, u, h _ e⟩) id
theorem Loc.at {w : World} {H h : Heap} {L E : Addr} {l news : List (Addr × Obj)} {p q : Int} (x : Loc l E p q) (N : News H L h news) (hs : ∀ p ∈ l, p ∈ news) (X : (hd.heap_39 w.params).In H) (k : ∀ b o, H.get? b = some o → h.get? b = some o) : Pair h E p q := by
  rcases x with ⟨t, u, e⟩ | x
  · exact Pair.ofNews N (hs _ e)
  · exact (x w H X).keeps k
def BR2 (H h' : Heap) (v : Value) (p q r s : Int) : Prop := ∃ D E1 E2 l, v = .ref D ∧ NewL H h' ((D, ({ cls := .type "tuple", data := .seq #[.ref E1, .ref E2] } : Obj)) :: l) ∧ Loc l E1 p q ∧ Loc l E2 r s
theorem ends_end {H h' : Heap} {L D E1 E2 A0 A1 B0 B1 : Addr} {news : List (Addr × Obj)} {a0 a1 a2 a3 b0 b1 b2 b3 : Int} {V : V2 × V2} (N : News H L h' news) (hm : (D, ({ cls := .type "tuple", data := .seq #[.ref E1, .ref E2] } : Obj)) ∈ news)
    (he : (E1, V.1) ∈ ([(A0, a0, a1), (A1, a2, a3), (B0, b0, b1), (B1, b2, b3)] : List T3) ∧ (E2, V.2) ∈ ([(A0, a0, a1), (A1, a2, a3), (B0, b0, b1), (B1, b2, b3)] : List T3))
    (h0 : Loc news A0 a0 a1) (h1 : Loc news A1 a2 a3) (h2 : Loc news B0 b0 b1) (h3 : Loc news B1 b2 b3) : BR2 H h' (.ref D) V.1.1 V.1.2 V.2.1 V.2.2 := by
  have all : ∀ x ∈ ([(A0, a0, a1), (A1, a2, a3), (B0, b0, b1), (B1, b2, b3)] : List T3), Loc news x.1 x.2.1 x.2.2 := by
    intro x hx
    simp only [List.mem_cons, List.not_mem_nil, or_false] at hx
    rcases hx with rfl | rfl | rfl | rfl <;> assumption
  refine ⟨D, E1, E2, news, rfl, fun p hp => ?_, all _ he.1, all _ he.2⟩
  rcases List.mem_cons.mp hp with rfl | hp
  · exact ⟨(N _ hm).1, (N _ hm).2.2⟩
  · exact ⟨(N _ hp).1, (N _ hp).2.2⟩
theorem loc_new {news : List (Addr × Obj)} {E : Addr} {p q : Int} {t u : Tok} (h : (E, tup2O p q t u) ∈ news) : Loc news E p q := .inl ⟨t, u, h⟩
theorem loc_e0 {news : List (Addr × Obj)} {a b c d : Int} (h : a = 2718281828459 ∧ b = 1000000000000 ∧ c = 2718281828460 ∧ d = 1000000000000) : Loc news 110 a b := by
  obtain ⟨rfl, rfl, _⟩ := h
  exact .inr fun w h X => e_pair0 X
theorem loc_e1 {news : List (Addr × Obj)} {a b c d : Int} (h : a = 2718281828459 ∧ b = 1000000000000 ∧ c = 2718281828460 ∧ d = 1000000000000) : Loc news 111 c d := by
  obtain ⟨_, _, rfl, rfl⟩ := h
  exact .inr fun w h X => e_pair1 X
end
section
set_option maxHeartbeats 8000000 in
theorem bends {w mean mg mb} (A B : Addr) (as bs : List PyData) (a0 a1 a2 a3 b0 b1 b2 b3 : Int) (sa : Sz4 a0 a1 a2 a3) (sb : Sz4 b0 b1 b2 b3)
    (ca : ∀ A, PC w mean mg mb 141 [.ref A] 210 (fun h => Rd h A (.tuple as)) (fun H h' v => BRes H h' v a0 a1 a2 a3))
    (cb : ∀ A, PC w mean mg mb 141 [.ref A] 210 (fun h => Rd h A (.tuple bs)) (fun H h' v => BRes H h' v b0 b1 b2 b3)) :
    PC w mean mg mb 148 [.ref A, .ref B] 220 (fun h => Rd h A (.tuple as) ∧ Rd h B (.tuple bs)) (fun H h' v => BR2 H h' v (endsP (a0, a1) (a2, a3) (b0, b1) (b2, b3)).1.1 (endsP (a0, a1) (a2, a3) (b0, b1) (b2, b3)).1.2 (endsP (a0, a1) (a2, a3) (b0, b1) (b2, b3)).2.1 (endsP (a0, a1) (a2, a3) (b0, b1) (b2, b3)).2.2) := by
  k_with_none
  k_with "loc" => first | exact loc_new (by k_mem) | exact loc_e0 hEa | exact loc_e1 hEa | exact loc_e0 hEb | exact loc_e1 hEb
  k_with "pair" => first | exact Pair.ofNews pN' (by k_mem) | exact (e_pair0 X).keeps (Fr.keep (by k_asm)) | exact (e_pair1 X).keeps (Fr.keep (by k_asm)) | (obtain ⟨ea, eb, ec, ed⟩ := hEa; first | (rw [ea, eb]; exact (e_pair0 X).keeps (Fr.keep (by k_asm))) | (rw [ec, ed]; exact (e_pair1 X).keeps (Fr.keep (by k_asm)))) | (obtain ⟨ea, eb, ec, ed⟩ := hEb; first | (rw [ea, eb]; exact (e_pair0 X).keeps (Fr.keep (by k_asm))) | (rw [ec, ed]; exact (e_pair1 X).keeps (Fr.keep (by k_asm))))
  k_with "list" => (refine' list_copyKT ?F ?N ((e_tup X).keeps (Fr.keep (by k_asm))) ?_ ?z; (case F => k_asm); (case N => k_asm); (case z => (show 2 ≤ sizeLine; rw [sizeLine_eq]; omega)); intro D' c' h' F' N' l1; (try k_lt l1); (try k_sweep))
  k_with "callpc" => first | ((rename News _ _ _ _ => pN'); refine' pc_use (ca A) ?pF pN' ?pX ?pT ?pd ?pu ?pp ?_; (case pF => k_asm); (case pX => k_asm); (case pT => k_asm); (case pd => ((try dsimp only [arnd, Around.deeper]); omega)); (case pu => ((try dsimp only [arnd, Around.deeper]); omega)); (case pp => exact hA.keeps (Fr.keep (by k_asm))); clear pN'; intro v' h' tk' F' G' st' r'; rcases r' with r' | r'; (case' inl => (obtain ⟨D, D1, D2, t1, t2, u1, u2, rfl, nw'⟩ := r'; have N' := G' _ nw'; (try simp only [List.cons_append, List.nil_append] at N'); clear G' nw'; (try k_sweep))); (case' inr => (obtain ⟨rfl, hEa⟩ := r'; have N' := G' [] NewL.nil; (try simp only [List.nil_append] at N'); clear G'; (try k_sweep))))| ((rename News _ _ _ _ => pN'); refine' pc_use (cb B) ?pF pN' ?pX ?pT ?pd ?pu ?pp ?_; (case pF => k_asm); (case pX => k_asm); (case pT => k_asm); (case pd => ((try dsimp only [arnd, Around.deeper]); omega)); (case pu => ((try dsimp only [arnd, Around.deeper]); omega)); (case pp => exact hB.keeps (Fr.keep (by k_asm))); clear pN'; intro v' h' tk' F' G' st' r'; rcases r' with r' | r'; (case' inl => (obtain ⟨D, D1, D2, t1, t2, u1, u2, rfl, nw'⟩ := r'; have N' := G' _ nw'; (try simp only [List.cons_append, List.nil_append] at N'); clear G' nw'; (try k_sweep))); (case' inr => (obtain ⟨rfl, hEb⟩ := r'; have N' := G' [] NewL.nil; (try simp only [List.nil_append] at N'); clear G'; (try k_sweep))))| ((rename News _ _ _ _ => pN'); refine' pc_use (lg4 _ a0 a1 a2 a3 b0 b1 b2 b3 sa sb) ?pF pN' ?pX ?pT ?pd ?pu ?pp ?_; (case pF => k_asm); (case pX => k_asm); (case pT => k_asm); (case pd => ((try dsimp only [arnd, Around.deeper]); omega)); (case pu => ((try dsimp only [arnd, Around.deeper]); omega)); (case pp => exact ⟨_, _, _, _, pN'.isList (by k_mem), by (k_extra "pair"), by (k_extra "pair"), by (k_extra "pair"), by (k_extra "pair")⟩); clear pN'; intro v' h' tk' F' G' st' r'; (obtain ⟨DD, E1, E2, rfl, nw', hsel⟩ := r'; have N2' := G' _ nw'; (try simp only [List.cons_append, List.nil_append] at N2'); have hsel2 := hsel _ _ _ _ (N2'.isList (by k_mem)); clear hsel; have N' := G' [] NewL.nil; clear G'; (try simp only [List.nil_append] at N')); (try k_sweep))
  k_with "pcend" => exact ends_end N2' (by k_mem) hsel2 (by k_extra "loc") (by k_extra "loc") (by k_extra "loc") (by k_extra "loc")
  refine' pc_enter (binds := [(Str.ofString "low", .ref A), (Str.ofString "high", .ref B)]) ?k1 ?k2 ?k3 ?k4 ?k5 ?_ ?c2 ?c3 ?c4 ?c5
  case k1 => k_dflt k_is
  case k2 => k_dflt k_is
  case k3 => decide
  case k4 => intro s; exact BindsTo.of_eq rfl
  case k5 => exact locs rfl
  case c2 => exact rfl
  case c3 => exact rfl
  case c4 => exact rfl
  case c5 => decide
  intro dp un fr gd s Q L h₁ tk F N X T hp hd hu
  try dsimp only
  k_fold
  obtain ⟨hA, hB⟩ := hp
  repeat' (first | (k_unfold; (try dsimp only)) | walk1 | (dsimp only; walk1) | (dsimp only; k_unfold; (try dsimp only)) | (leave1; walk_say "STEP leave1"; try dsimp only) | fail "no step")
end
section
@[irreducible] def ntF (r0 r1 t0 t1 : Int) : Int :=
  (ratP (ratP (r0 * t1) (r1 * t0) * 2 + 1 * ratQ (r0 * t1) (r1 * t0)) (ratQ (r0 * t1) (r1 * t0) * 2)).fdiv (ratQ (ratP (r0 * t1) (r1 * t0) * 2 + 1 * ratQ (r0 * t1) (r1 * t0)) (ratQ (r0 * t1) (r1 * t0) * 2))
theorem sz_small {x : Int} (h : x.natAbs < 2 ^ 64) : Sz x := sz_of (b := 64) (by decide) h
set_option maxHeartbeats 8000000 in
theorem nt_pc {w mean mg mb} (A B : Addr) (r0 r1 t0 t1 : Int) (s0 : Sz r0) (s1 : Sz r1) (s2 : Sz t0) (s3 : Sz t1) (n1 : r1 * t0 ≠ 0) (s4 : Sz (ratP (r0 * t1) (r1 * t0))) (s5 : Sz (ratQ (r0 * t1) (r1 * t0))) (n2 : ratQ (r0 * t1) (r1 * t0) * 2 ≠ 0)
    (n3 : ratQ (ratP (r0 * t1) (r1 * t0) * 2 + 1 * ratQ (r0 * t1) (r1 * t0)) (ratQ (r0 * t1) (r1 * t0) * 2) ≠ 0) :
    PC w mean mg mb 155 [.ref A, .ref B] 150 (fun h => Pair h A r0 r1 ∧ Pair h B t0 t1) (fun _ _ v => ∃ t, v = .int (ntF r0 r1 t0 t1) t) := by
  k_with_none
  k_with "callpc" => first | ((rename News _ _ _ _ => pN'); refine' pc_use (rdiv_pc A B r0 r1 t0 t1 s0 s1 s2 s3 n1) ?pF pN' ?pX ?pT ?pd ?pu ?pp ?_; (case pF => k_asm); (case pX => k_asm); (case pT => k_asm); (case pd => ((try dsimp only [arnd, Around.deeper]); omega)); (case pu => ((try dsimp only [arnd, Around.deeper]); omega)); (case pp => exact ⟨hA.keeps (Fr.keep (by k_asm)), hB.keeps (Fr.keep (by k_asm))⟩); clear pN'; intro v' h' tk' F' G' st' r'; (obtain ⟨D', t1', t2', rfl, nw'⟩ := r'; have N' := G' _ nw'; (try simp only [List.cons_append, List.nil_append] at N'); clear G' nw'); (try k_sweep))| ((rename News _ _ _ _ => pN'); refine' pc_use (radd_pc _ _ _ _ 1 2 s4 s5 (sz_small (by decide)) (sz_small (by decide)) n2) ?pF pN' ?pX ?pT ?pd ?pu ?pp ?_; (case pF => k_asm); (case pX => k_asm); (case pT => k_asm); (case pd => ((try dsimp only [arnd, Around.deeper]); omega)); (case pu => ((try dsimp only [arnd, Around.deeper]); omega)); (case pp => exact ⟨Pair.ofNews pN' (by k_mem), Pair.ofNews pN' (by k_mem)⟩); clear pN'; intro v' h' tk' F' G' st' r'; (obtain ⟨D', t1', t2', rfl, nw'⟩ := r'; have N' := G' _ nw'; (try simp only [List.cons_append, List.nil_append] at N'); clear G' nw'); (try k_sweep))| ((rename News _ _ _ _ => pN'); refine' pc_use (rfloor_pc _ _ _ n3) ?pF pN' ?pX ?pT ?pd ?pu ?pp ?_; (case pF => k_asm); (case pX => k_asm); (case pT => k_asm); (case pd => ((try dsimp only [arnd, Around.deeper]); omega)); (case pu => ((try dsimp only [arnd, Around.deeper]); omega)); (case pp => exact Pair.ofNews pN' (by k_mem)); clear pN'; intro v' h' tk' F' G' st' r'; (obtain ⟨tf, rfl⟩ := r'; have N' := G' [] NewL.nil; clear G'; (try simp only [List.nil_append] at N')); (try k_sweep))
  k_with "pcend" => (unfold ntF; exact ⟨_, rfl⟩)
  refine' pc_enter (binds := [(Str.ofString "r", .ref A), (Str.ofString "turn", .ref B)]) ?k1 ?k2 ?k3 ?k4 ?k5 ?_ ?c2 ?c3 ?c4 ?c5
  case k1 => k_dflt k_is
  case k2 => k_dflt k_is
  case k3 => decide
  case k4 => intro s; exact BindsTo.of_eq rfl
  case k5 => exact locs rfl
  case c2 => exact rfl
  case c3 => exact rfl
  case c4 => exact rfl
  case c5 => decide
  intro dp un fr gd s Q L h₁ tk F N X T hp hd hu
  try dsimp only
  k_fold
  obtain ⟨hA, hB⟩ := hp
  repeat' (first | (k_unfold; (try dsimp only)) | walk1 | (dsimp only; walk1) | (dsimp only; k_unfold; (try dsimp only)) | (leave1; walk_say "STEP leave1"; try dsimp only) | fail "no step")
end
section
section
variable {prog : Program} {w : World} {A : Around} {E : Value → Shared → Prop} {s : Shared} {H : Heap} {L : Addr} {m : Str → Option Value} {env : Env} {news : List (Addr × Obj)}
/-- [elt for x in tuple] -/
theorem comp1T {elt iter : Expr} {x : Str} {px : Pos} {scope : Scope} {cl : List (Str × Addr)} {pos : Pos} {Q : Value → Shared → Prop} {O0 : Addr} {its0 : Array Value}
    (F : Fr H L s.heap m) (N : News H L s.heap news) (hh : A.handled = none) (hclos : closureFor scope env = pure cl) (hcell : ∀ y ∈ scope.names, y.2 ≠ .cell) (hkind : scope.kind = .function)
    (hnames : ∀ y ∈ scope.names, y.2 = .local → scope.names.lookup y.1 = some .local) (hx : scope.names.lookup x = some .local)
    (hs0 : ∀ v, foldedSetIterable iter env v = pure v) (hO0 : IsTup H O0 its0) (hsz : its0.size ≤ sizeLine)
    (h0 : wpAny (model prog w) A (eval iter env) (fun xv s₁ => xv = .ref O0 ∧ s₁ = s) (fun _ _ => False) s)
    (J : Nat → List Value → List (Addr × Obj) → Prop) (hj : J 0 [] news)
    (turn : ∀ i v ys P₁ Is C D h tk mC, its0[i]? = some v → J i ys P₁ → (∀ p ∈ news, p ∈ P₁) → CInv H L m Is C D ys P₁ mC h → mC x = some v →
      wpAny (model prog w) A (eval elt (compEnvC scope cl C env)) (TurnEnd s h fun r l₂ => J (i + 1) (ys ++ [r]) (l₂ ++ P₁)) (fun _ _ => False) { s with heap := h, toks := tk })
    (fin : ∀ D ys P₁ h tk, J its0.size ys P₁ → (∀ p ∈ news, p ∈ P₁) → Fr H L h m → News H L h ((D, lstO ys) :: P₁) → (∀ p ∈ P₁, p.1 ≠ D) → Q (.ref D) { s with heap := h, toks := tk }) :
    wpAny (model prog w) A (eval (.ListComp elt [⟨.Name x px, iter, [], 0⟩] scope pos) env) Q E s := by
  rw [eval_ListComp]
  refine wpAny_comprehension_free (use := none) rfl hs0 hclos hkind hnames (wpAny_mono h0 (fun xv s₁ h₁ => ?_) fun _ _ f => f.elim)
  obtain ⟨rfl, rfl⟩ := h₁
  have hO : IsTup s₁.heap O0 its0 := IsTup.keeps hO0 F.keep
  have hlt : O0 < s₁.heap.objs.size := by obtain ⟨_, e, _⟩ := hO; exact Heap.lt_size e
  refine iter_tuple hO ?_
  have up : s₁.heap.StaysIn (s₁.heap.push { cls := .type "tuple_iterator", data := .fields #[.ref O0, .int 0 0] }) := fun b o e => Heap.get?_push_of_some _ e
  have hnew : (s₁.heap.push { cls := .type "tuple_iterator", data := .fields #[.ref O0, .int 0 0] }).get? s₁.heap.objs.size = some { cls := .type "tuple_iterator", data := .fields #[.ref O0, .int 0 0] } := Heap.get?_push_size _ rfl
  have W := Walks.tuple (prog := prog) (w := w) hh s₁.heap.objs.size O0 (Nat.ne_of_lt hlt) its0
  refine comp_core (s := { s₁ with heap := _ }) W tup_live ⟨⟨_, hnew, rfl, rfl⟩, hO.keeps up⟩ (F.keeps up) (N.grown up) (Ne.symm (Nat.ne_of_lt F.ns.lt)) (next_is_new F) (fun p hp => Nat.ne_of_lt (Heap.lt_size (N p hp).1)) hcell hkind ?_
  intro C D h tk mC x₀ st hCf hDf
  refine run0 (s := { s₁ with heap := _ }) W hsz (fun _ _ st => by obtain ⟨o, e, _⟩ := st.1; exact ⟨o, e⟩) hCf hDf hkind hx (fun i ys P₁ => J i ys P₁ ∧ ∀ p ∈ news, p ∈ P₁) ?_ ?_ its0.size 0 [] news h tk mC (by omega) (by simp) ⟨hj, fun _ h => h⟩ x₀ st
  · intro i v ys P₁ h' tk' mC' hv _ hJ x' hxv
    refine wpAny_tests_nil ⟨h', tk', [], rfl, fun _ _ e => e, NewL.nil, ?_⟩
    simp only [if_true, List.nil_append]
    refine wpAny_mono (turn i v ys P₁ _ C D h' tk' mC' hv hJ.1 hJ.2 x' hxv) (fun r s₂ q => ?_) fun _ _ f => f
    obtain ⟨h₂, tk₂, l₂, e, st₂, nw, hj₂⟩ := q
    exact ⟨h₂, tk₂, l₂, e, st₂, nw, hj₂, fun p hp => List.mem_append_right _ (hJ.2 p hp)⟩
  · intro ys P₁ h' tk' mC' hJ x'
    exact compEnd rfl x' fun h'' F' N' o' => fin D ys P₁ h'' tk' hJ.1 hJ.2 F' N' o'
end
end
section
structure NtOk (r0 r1 t0 t1 : Int) : Prop where
  s0 : Sz r0
  s1 : Sz r1
  s2 : Sz t0
  s3 : Sz t1
  n1 : r1 * t0 ≠ 0
  s4 : Sz (ratP (r0 * t1) (r1 * t0))
  s5 : Sz (ratQ (r0 * t1) (r1 * t0))
  n2 : ratQ (r0 * t1) (r1 * t0) * 2 ≠ 0
  n3 : ratQ (ratP (r0 * t1) (r1 * t0) * 2 + 1 * ratQ (r0 * t1) (r1 * t0)) (ratQ (r0 * t1) (r1 * t0) * 2) ≠ 0
theorem nt_ok {w mean mg mb} (A B : Addr) {r0 r1 t0 t1 : Int} (x : NtOk r0 r1 t0 t1) : PC w mean mg mb 155 [.ref A, .ref B] 150 (fun h => Pair h A r0 r1 ∧ Pair h B t0 t1) (fun _ _ v => ∃ t, v = .int (ntF r0 r1 t0 t1) t) :=
  nt_pc A B r0 r1 t0 t1 x.s0 x.s1 x.s2 x.s3 x.n1 x.s4 x.s5 x.n2 x.n3
abbrev pi0 : Int := 3141592653589793238462643383279
abbrev pi1 : Int := 3141592653589793238462643383280
abbrev piB : Int := 1000000000000000000000000000000
theorem pi_tup2 {w : World} {h : Heap} (X : (hd.heap_39 w.params).In h) : IsTup h 115 #[.ref 113, .ref 114] := isTup_of X (by k_dflt k_is)
theorem pi_pair0 {w : World} {h : Heap} (X : (hd.heap_39 w.params).In h) : Pair h 113 pi0 piB := ⟨_, _, isTup_of X (by k_dflt k_is)⟩
theorem pi_pair1 {w : World} {h : Heap} (X : (hd.heap_39 w.params).In h) : Pair h 114 pi1 piB := ⟨_, _, isTup_of X (by k_dflt k_is)⟩
def NtJ (r0 r1 : Int) : Nat → List Value → List (Addr × Obj) → Prop
  | 0 => fun ys _ => ys = []
  | 1 => fun ys _ => ∃ t, ys = [.int (ntF r0 r1 pi0 piB) t]
  | _ => fun ys _ => ∃ t u, ys = [.int (ntF r0 r1 pi0 piB) t, .int (ntF r0 r1 pi1 piB) u]
theorem news_sub {H h : Heap} {L D : Addr} {o : Obj} {news P : List (Addr × Obj)} (N : News H L h ((D, o) :: P)) (hs : ∀ p ∈ news, p ∈ P) : News H L h ((D, o) :: news) := fun p hp => by
  rcases List.mem_cons.mp hp with rfl | hp
  · exact N _ (.head _)
  · exact N _ (.tail _ (hs p hp))
theorem meet_end {M M2 a b c d : Int} (h1 : M2 = c ∨ M2 = d) (h2 : c ≤ M2 ∧ d ≤ M2) (h3 : M = a ∨ M = b) (h4 : M ≤ a ∧ M ≤ b) : Value.bool (decide (M < M2)) = Value.bool (decide (min a b < max c d)) := by
  have e1 : M = min a b := by omega
  have e2 : M2 = max c d := by omega
  rw [e1, e2]
end
section
set_option maxHeartbeats 8000000 in
theorem meet_pc {w mean mg mb} (A B : Addr) (l0 l1 h0 h1 : Int) (a1 : NtOk l0 l1 pi0 piB) (a2 : NtOk l0 l1 pi1 piB) (b1 : NtOk h0 h1 pi0 piB) (b2 : NtOk h0 h1 pi1 piB) :
    PC w mean mg mb 160 [.ref A, .ref B] 160 (fun h => Pair h A l0 l1 ∧ Pair h B h0 h1) (fun _ _ v => v = .bool (decide (min (ntF l0 l1 pi0 piB) (ntF l0 l1 pi1 piB) < max (ntF h0 h1 pi0 piB) (ntF h0 h1 pi1 piB)))) := by
  k_with_none
  k_with "nm" => first | (refine wpAny_Name (wpAny_loadName_local rfl rfl x.hC hxv ?_) (by decide)) | (refine wpAny_Name (wpAny_loadName_cell rfl rfl rfl ⟨_, (x.N.get (hsub _ (by k_mem))), d1⟩ ?_) (by decide)) | (refine wpAny_Name (wpAny_loadName_cell rfl rfl rfl ⟨_, (x.N.get (hsub _ (by k_mem))), d2⟩ ?_) (by decide))
  k_with "pcend" => exact meet_end (by assumption) (by assumption) (by assumption) (by assumption)
  k_with "turnend" => exact ⟨_, _, _, rfl, st', NewL.nil, by first | exact Exists.intro _ rfl | exact Exists.intro _ (Exists.intro _ rfl)⟩
  k_with "callpc" => first | ((rename News _ _ _ _ => pN'); refine' pc_use (nt_ok A 113 a1) ?pF pN' ?pX ?pT ?pd ?pu ?pp ?_; (case pF => k_asm); (case pX => k_asm); (case pT => k_asm); (case pd => ((try dsimp only [arnd, Around.deeper]); omega)); (case pu => ((try dsimp only [arnd, Around.deeper]); omega)); (case pp => exact ⟨hA.keeps (Fr.keep (by k_asm)), (pi_pair0 X).keeps (Fr.keep (by k_asm))⟩); clear pN'; intro v' h' tk' F' G' st' r'; (obtain ⟨tf, rfl⟩ := r'; have N' := G' [] NewL.nil; clear G'; (try simp only [List.nil_append] at N')); (try k_sweep))| ((rename News _ _ _ _ => pN'); refine' pc_use (nt_ok A 114 a2) ?pF pN' ?pX ?pT ?pd ?pu ?pp ?_; (case pF => k_asm); (case pX => k_asm); (case pT => k_asm); (case pd => ((try dsimp only [arnd, Around.deeper]); omega)); (case pu => ((try dsimp only [arnd, Around.deeper]); omega)); (case pp => exact ⟨hA.keeps (Fr.keep (by k_asm)), (pi_pair1 X).keeps (Fr.keep (by k_asm))⟩); clear pN'; intro v' h' tk' F' G' st' r'; (obtain ⟨tf, rfl⟩ := r'; have N' := G' [] NewL.nil; clear G'; (try simp only [List.nil_append] at N')); (try k_sweep))| ((rename News _ _ _ _ => pN'); refine' pc_use (nt_ok B 113 b1) ?pF pN' ?pX ?pT ?pd ?pu ?pp ?_; (case pF => k_asm); (case pX => k_asm); (case pT => k_asm); (case pd => ((try dsimp only [arnd, Around.deeper]); omega)); (case pu => ((try dsimp only [arnd, Around.deeper]); omega)); (case pp => exact ⟨hB.keeps (Fr.keep (by k_asm)), (pi_pair0 X).keeps (Fr.keep (by k_asm))⟩); clear pN'; intro v' h' tk' F' G' st' r'; (obtain ⟨tf, rfl⟩ := r'; have N' := G' [] NewL.nil; clear G'; (try simp only [List.nil_append] at N')); (try k_sweep))| ((rename News _ _ _ _ => pN'); refine' pc_use (nt_ok B 114 b2) ?pF pN' ?pX ?pT ?pd ?pu ?pp ?_; (case pF => k_asm); (case pX => k_asm); (case pT => k_asm); (case pd => ((try dsimp only [arnd, Around.deeper]); omega)); (case pu => ((try dsimp only [arnd, Around.deeper]); omega)); (case pp => exact ⟨hB.keeps (Fr.keep (by k_asm)), (pi_pair1 X).keeps (Fr.keep (by k_asm))⟩); clear pN'; intro v' h' tk' F' G' st' r'; (obtain ⟨tf, rfl⟩ := r'; have N' := G' [] NewL.nil; clear G'; (try simp only [List.nil_append] at N')); (try k_sweep))
  refine' pc_enterC (binds := [(Str.ofString "low", .ref A), (Str.ofString "high", .ref B)]) ?k1 ?k2 ?k3 ?k4 ?k5 ?kD ?_ ?c2 ?c3 ?c4
  case k1 => k_dflt k_is
  case k2 => k_dflt k_is
  case k3 => decide
  case k4 => intro s; exact BindsTo.of_eq rfl
  case k5 => exact rfl
  case kD => decide +kernel
  case c2 => exact rfl
  case c3 => exact rfl
  case c4 => exact rfl
  intro dp un fr gd s Q L h₁ tk cells F N Y X T hp hd hu
  k_cells Y
  (try simp only [List.cons_append, List.nil_append] at N)
  try dsimp only
  with_reducible show wpAny _ _ _ _ _ _
  k_fold
  rename_i o1 o2 d1 d2
  replace d1 : o1.data = .cell (some (.ref B)) := d1
  replace d2 : o2.data = .cell (some (.ref A)) := d2
  obtain ⟨hA, hB⟩ := hp
  k_with "comp" =>
    (with_reducible show wpAny _ _ (eval (Expr.ListComp (Expr.Call _ (Expr.Name (Str.ofString "high") _ :: _) _ _) _ _ _) _) _ _ _)
    rename Fr _ _ _ _ => lF'
    rename News _ _ _ _ => lN'
    with_unfolding_all refine comp1T lF' lN' rfl rfl (by decide) rfl (by decide) rfl (fun _ => rfl) (pi_tup2 X) (by show 2 ≤ sizeLine; rw [sizeLine_eq]; omega) ?h0 (NtJ h0 h1) rfl ?turn ?fin
    case h0 => (walk1; exact ⟨rfl, rfl⟩)
    case' turn =>
      rintro (_ | _ | i) v ys P₁ Is C D h tk mC hv hJ hsub x hxv
      all_goals first | (exfalso; simp at hv; done) | skip
      all_goals (obtain rfl := Option.some.inj hv; clear hv; have F := x.F; have N := x.N; clear lF' lN'; first | (obtain ⟨tj, rfl⟩ := hJ) | (obtain rfl := hJ); (try k_unmd); (try k_fold))
    case' fin =>
      rintro D ys P₁ h tk ⟨t1, t2, rfl⟩ hsub F N hoff
      replace N := news_sub N hsub
      clear lF' lN' hsub hoff
  k_with "comp" =>
    (with_reducible show wpAny _ _ (eval (Expr.ListComp (Expr.Call _ (Expr.Name (Str.ofString "low") _ :: _) _ _) _ _ _) _) _ _ _)
    rename Fr _ _ _ _ => lF'
    rename News _ _ _ _ => lN'
    with_unfolding_all refine comp1T lF' lN' rfl rfl (by decide) rfl (by decide) rfl (fun _ => rfl) (pi_tup2 X) (by show 2 ≤ sizeLine; rw [sizeLine_eq]; omega) ?h0B (NtJ l0 l1) rfl ?turnB ?finB
    case h0B => (walk1; exact ⟨rfl, rfl⟩)
    case' turnB =>
      rintro (_ | _ | i) v ys P₁ Is C D h tk mC hv hJ hsub x hxv
      all_goals first | (exfalso; simp at hv; done) | skip
      all_goals (obtain rfl := Option.some.inj hv; clear hv; have F := x.F; have N := x.N; clear lF' lN'; first | (obtain ⟨tj, rfl⟩ := hJ) | (obtain rfl := hJ); (try k_unmd); (try k_fold))
    case' finB =>
      rintro D ys P₁ h tk ⟨t1, t2, rfl⟩ hsub F N hoff
      replace N := news_sub N hsub
      clear lF' lN' hsub hoff
  repeat' (first | (k_unfold; (try dsimp only)) | walk1 | (dsimp only; walk1) | (dsimp only; k_unfold; (try dsimp only)) | (leave1; walk_say "STEP leave1"; try dsimp only) | fail "no step")
end
section
/-- a call that turns the one object B and makes new ones: its contract; H is the heap without B -/
def MC (w : World) (mean : ExcName → Option Value) (mg mb : Str → Option Value) (f : Addr) (vs : List Value) (k : Nat) (B : Addr) (o : Obj) (pre : Heap → Prop) (R : Heap → Heap → Value → Obj → Prop) : Prop :=
  ∀ (dp un : Nat) (fr : List Env) (gd : Option (List Code)) (s : Shared) (Q E : Value → Shared → Prop),
    s.heap.get? B = some o → (hd.heap_39 w.params).In (s.heap.hide B) → TopH mean mg mb (s.heap.hide B) → dp + k < recursionLimit → un + 8 * k < cLine → pre (s.heap.hide B) →
    (∀ v h' tk' o', (s.heap.hide B).StaysIn h' → h'.get? B = some o' → R (s.heap.hide B) h' v o' → Q v { s with heap := h', toks := tk' }) →
    wpAny (model PySem.Challenge.rw_pq0187_01.row.prog w) (arnd dp un fr gd) (call (.ref f) vs) Q E s

def McEnd (H : Heap) (B : Addr) (R : Heap → Heap → Value → Obj → Prop) (Q : Value → Shared → Prop) (s : Shared) (v : Value) (s' : Shared) : Prop :=
  (∀ v h' tk' o', H.StaysIn h' → h'.get? B = some o' → R H h' v o' → Q v { s with heap := h', toks := tk' }) → Q v s'
theorem mcEnd_of {H : Heap} {B : Addr} {R : Heap → Heap → Value → Obj → Prop} {Q : Value → Shared → Prop} {s : Shared} {v : Value} {L : Addr} {h' : Heap} {tk : Nat} {m : Str → Option Value} {news : List (Addr × Obj)} {o' : Obj}
    (F : Fr H L h' m) (N : News H L h' news) (hm : (B, o') ∈ news) (r : R H h' v o') : McEnd H B R Q s v { s with heap := h', toks := tk } := fun hret => hret v h' tk o' F.keep (N _ hm).1 r

theorem mc_enter {w : World} {mean : ExcName → Option Value} {mg mb : Str → Option Value} {f : Addr} {vs : List Value} {k : Nat} {B : Addr} {o : Obj} {pre : Heap → Prop} {R : Heap → Heap → Value → Obj → Prop}
    {name qual : Str} {params : Arguments} {body : List Stmt} {scope : Scope} {dV kV doc pm cdv ct oc : Value} {an od : Option Addr} {osl : Array (Option Value)} {binds : List (Str × Value)}
    (ho : (hd.heap_39 w.params).lookup f = some ⟨oc, od, .func (fnOf name qual params body scope dV kV doc pm an cdv ct), osl⟩) (hcd : codeIn (hd.heap_39 w.params) cdv qual = true)
    (hk0 : 1 ≤ k)
    (hbind : ∀ s, BindsTo s (fnOf name qual params body scope dV kV doc pm an cdv ct) ⟨vs, []⟩ binds) (hloc : ∀ y ∈ binds, scope.names.lookup y.1 = some .local)
    (h : ∀ (dp un : Nat) (fr : List Env) (gd : Option (List Code)) (s : Shared) (Q : Value → Shared → Prop) (H : Heap) (L : Addr) (h₁ : Heap) (tk : Nat),
      Fr H L h₁ (fun y => binds.reverse.lookup y) → News H L h₁ [(B, o)] → (hd.heap_39 w.params).In H → TopH mean mg mb H → pre H → dp + k < recursionLimit → un + 8 * k < cLine →
      wpAny (model PySem.Challenge.rw_pq0187_01.row.prog w) ((arnd dp un fr gd).deeper (envOf qual scope L f cdv)) (execs body (envOf qual scope L f cdv))
        (fun fl s' => McEnd H B R Q s (match fl with | .ret v => v | _ => .none) s')
        (fun _ _ => False)
        { s with heap := h₁, toks := tk })
    (hco : scope.isCoroutine = false) (hgen : scope.isGenerator = false) (hk : scope.kind = .function)
    (hcell : ∀ x ∈ scope.names, x.2 ≠ .cell) : MC w mean mg mb f vs k B o pre R := by
  intro dp un fr gd s Q E hB X T hd hu hp hret
  have back : ∀ b o, (s.heap.hide B).get? b = some o → s.heap.get? b = some o := fun b o e => Heap.of_hide e
  have T' : TopH mean mg mb s.heap := T.keeps back
  have X' := X.keeps back
  refine wpAny_call ?_
  refine codeAny_call_def (fd := fnOf name qual params body scope dV kV doc pm an cdv ct) (body := body) (binds := binds) (by show dp < recursionLimit; omega) (X' _ _ ho) rfl T'.nolimit (codeRec_of X' hcd) rfl (hbind s) hcell hloc (fun h₁ hns hk₁ => ?_) hco hgen hk
  refine wpAny_mono (h dp un fr gd s Q (s.heap.hide B) s.heap.objs.size h₁ (s.toks + binds.length) ⟨hns, fun b o e => hk₁ b o (back b o e), Nat.le_of_eq (Heap.hide_size _ _)⟩ (fun p hp => ?_) X T hp hd hu) (fun fl s' hl => ?_) (fun _ _ x => x.elim)
  · rw [List.mem_singleton.mp hp]
    exact ⟨hk₁ _ _ hB, Nat.ne_of_lt (Heap.lt_size hB), by
      cases q : (s.heap.hide B).get? B with
      | none => rfl
      | some o => rw [Heap.hide_self] at q; cases q⟩
  · exact hl hret

theorem mc_use {w : World} {mean : ExcName → Option Value} {mg mb : Str → Option Value} {f : Addr} {vs : List Value} {k : Nat} {B : Addr} {o : Obj} {pre : Heap → Prop} {R : Heap → Heap → Value → Obj → Prop}
    {dp un : Nat} {fr : List Env} {gd : Option (List Code)} {s : Shared} {Q E : Value → Shared → Prop} {H : Heap} {L : Addr} {m : Str → Option Value} {news : List (Addr × Obj)}
    (C : MC w mean mg mb f vs k B o pre R) (F : Fr H L s.heap m) (N : News H L s.heap ((B, o) :: news)) (X : (hd.heap_39 w.params).In H) (T : TopH mean mg mb H)
    (hd : dp + k < recursionLimit) (hu : un + 8 * k < cLine) (hne : ∀ p ∈ news, p.2.cls ≠ o.cls ∨ p.2.data ≠ o.data) (hp : ∀ h, Fr H L h m → News H L h news → pre h)
    (ret : ∀ v h' tk' o', Fr H L h' m → (∀ l, NewL (s.heap.hide B) h' l → News H L h' ((B, o') :: (l ++ news))) → R (s.heap.hide B) h' v o' → Q v { s with heap := h', toks := tk' }) :
    wpAny (model PySem.Challenge.rw_pq0187_01.row.prog w) (arnd dp un fr gd) (call (.ref f) vs) Q E s := by
  have hB := N (B, o) (.head _)
  have ne : ∀ p ∈ news, p.1 ≠ B := fun p hp q => by
    have h1 := (N p (.tail _ hp)).1
    rw [q, hB.1] at h1
    have e := Option.some.inj h1
    rcases hne p hp with h | h
    · exact h (by rw [← e])
    · exact h (by rw [← e])
  have down : ∀ b o, H.get? b = some o → (s.heap.hide B).get? b = some o := fun b o' e => by
    rw [Heap.hide_ne _ (fun q : b = B => by rw [q, hB.2.2] at e; cases e)]
    exact F.keep b o' e
  have Fh : Fr H L (s.heap.hide B) m := ⟨F.ns.at' fun o' e => by rw [Heap.hide_ne _ (Ne.symm hB.2.1)]; exact e, down, F.above⟩
  have Nh : News H L (s.heap.hide B) news := fun p hp => ⟨by rw [Heap.hide_ne _ (ne p hp)]; exact (N p (.tail _ hp)).1, (N p (.tail _ hp)).2⟩
  refine C dp un fr gd s Q E hB.1 (X.keeps down) (T.keeps down) hd hu (hp _ Fh Nh) (fun v h' tk' o' st hb r => ret v h' tk' o' (fr_stays Fh st) (fun l n => ?_) r)
  intro p hp
  rcases List.mem_cons.mp hp with rfl | hp
  · exact ⟨hb, hB.2⟩
  · exact NewL.app Fh Nh st n p hp
theorem mc_useU {w : World} {mean : ExcName → Option Value} {mg mb : Str → Option Value} {f : Addr} {vs : List Value} {k : Nat} {B : Addr} {o : Obj} {pre : Heap → Prop} {R : Heap → Heap → Value → Obj → Prop}
    {dp un : Nat} {fr : List Env} {gd : Option (List Code)} {s : Shared} {Q E : Value → Shared → Prop} {H : Heap} {L : Addr} {m : Str → Option Value} {news : List (Addr × Obj)} {g : Obj → List (Addr × Obj)}
    (C : MC w mean mg mb f vs k B o pre R) (F : Fr H L s.heap m) (N : News H L s.heap news) (X : (hd.heap_39 w.params).In H) (T : TopH mean mg mb H) (U : UpdF B o news g)
    (hd : dp + k < recursionLimit) (hu : un + 8 * k < cLine) (hp : ∀ h, (∀ b o, H.get? b = some o → h.get? b = some o) → (∀ p ∈ news, p.1 ≠ B → h.get? p.1 = some p.2) → pre h)
    (ret : ∀ v h' tk' o', Fr H L h' m → (∀ l, NewL (s.heap.hide B) h' l → News H L h' (l ++ g o')) → R (s.heap.hide B) h' v o' → Q v { s with heap := h', toks := tk' }) :
    wpAny (model PySem.Challenge.rw_pq0187_01.row.prog w) (arnd dp un fr gd) (call (.ref f) vs) Q E s := by
  obtain ⟨p1, p2, rfl, hg, h1, h2⟩ := U.split
  have hB := N (B, o) (List.mem_append_right _ (.head _))
  have down : ∀ b o, H.get? b = some o → (s.heap.hide B).get? b = some o := fun b o' e => by
    rw [Heap.hide_ne _ (fun q : b = B => by rw [q, hB.2.2] at e; cases e)]
    exact F.keep b o' e
  have Fh : Fr H L (s.heap.hide B) m := ⟨F.ns.at' fun o' e => by rw [Heap.hide_ne _ (Ne.symm hB.2.1)]; exact e, down, F.above⟩
  have Nh : News H L (s.heap.hide B) (p1 ++ p2) := fun p hp => by
    rcases List.mem_append.mp hp with hp | hp
    · exact ⟨by rw [Heap.hide_ne _ (h1 p hp)]; exact (N p (List.mem_append_left _ hp)).1, (N p (List.mem_append_left _ hp)).2⟩
    · exact ⟨by rw [Heap.hide_ne _ (h2 p hp)]; exact (N p (List.mem_append_right _ (.tail _ hp))).1, (N p (List.mem_append_right _ (.tail _ hp))).2⟩
  refine C dp un fr gd s Q E hB.1 (X.keeps down) (T.keeps down) hd hu (hp _ down fun p hm hn => ?_) (fun v h' tk' o' st hb r => ret v h' tk' o' (fr_stays Fh st) (fun l n => ?_) r)
  · rw [Heap.hide_ne _ hn]; exact (N p hm).1
  · rw [hg]
    intro p hp
    rcases List.mem_append.mp hp with hp | hp
    · exact NewL.app Fh Nh st n p (List.mem_append_left _ hp)
    · rcases List.mem_append.mp hp with hp | hp
      · exact news_stays Nh st p (List.mem_append_left _ hp)
      · rcases List.mem_cons.mp hp with rfl | hp
        · exact ⟨hb, hB.2⟩
        · exact news_stays Nh st p (List.mem_append_right _ hp)
end
local macro_rules | `(tactic| walk_at "McEnd") => `(tactic| (refine mcEnd_of (by k_asm) (by k_asm) (by k_mem) ?_; (try dsimp only); k_dflt (k_extra "mcend")))
section
abbrev boxO (l : Addr) (c : Int) (t : Tok) (n : Nat) : Obj := listOf #[.ref l, .int c t] n
theorem fmod_range {a b : Int} (hb : 0 < b) : 0 ≤ a.fmod b ∧ a.fmod b < b := by
  rw [Int.fmod_eq_emod_of_nonneg _ (by omega)]
  exact ⟨Int.emod_nonneg _ (by omega), Int.emod_lt_of_pos _ hb⟩
theorem take_end {B l : Addr} {c r many : Int} {t u : Tok} {n : Nat} (h : 0 ≤ r ∧ r < many) : ∃ r' u' t' n', Value.int r u = .int r' u' ∧ boxO l c t n = boxO l c t' n' ∧ 0 ≤ r' ∧ r' < many := ⟨r, u, t, n, rfl, rfl, h⟩
set_option maxHeartbeats 8000000 in
theorem take_pc {w mean mg mb} (B l : Addr) (c many : Int) (t u : Tok) (n : Nat) (vs : List Value) (ns : List Int) (hc0 : 0 ≤ c) (hc1 : c < 100) (hm : 0 < many) (hi : IntsAre vs ns) (hlen : ns.length ≤ 16) :
    MC w mean mg mb 167 [.ref B, .int many u] 120 B (boxO l c t n) (fun h => h.IsList l vs.toArray) (fun _ _ v o' => ∃ r' u' t' n', v = .int r' u' ∧ o' = boxO l (c + 1) t' n' ∧ 0 ≤ r' ∧ r' < many) := by
  k_with_none
  k_with "mcend" => exact take_end (B := B) (fmod_range hm)
  refine' mc_enter (binds := [(Str.ofString "box", .ref B), (Str.ofString "many", .int many u)]) ?k1 ?k2 ?k3 ?k4 ?k5 ?_ ?c2 ?c3 ?c4 ?c5
  case k1 => k_dflt k_is
  case k2 => k_dflt k_is
  case k3 => decide
  case k4 => intro s; exact BindsTo.of_eq rfl
  case k5 => exact locs rfl
  case c2 => exact rfl
  case c3 => exact rfl
  case c4 => exact rfl
  case c5 => decide
  intro dp un fr gd s Q H L h₁ tk F N X T hp hd hu
  try dsimp only
  k_fold
  repeat' (first | (k_unfold; (try dsimp only)) | walk1 | (dsimp only; walk1) | (dsimp only; k_unfold; (try dsimp only)) | (leave1; walk_say "STEP leave1"; try dsimp only) | fail "no step")
end
section
abbrev tupO (vs : List Value) : Obj := { cls := .type "tuple", data := .seq vs.toArray }
/-- a term in a ledger -/
def TermIn (l : List (Addr × Obj)) (T : Addr) (d : PyData) : Prop := ∀ (H h : Heap) (L : Addr) (news : List (Addr × Obj)), News H L h news → (∀ p ∈ l, p ∈ news) → Rd h T d
theorem rd_tuple {h : Heap} {T : Addr} {vs : List Value} {ds : List PyData} {as : List Addr} (e : h.get? T = some (tupO vs)) (r : ReadsAll h vs ds as) : Rd h T (.tuple ds) := ⟨as, reads_tuple_at e rfl rfl (by simpa using r)⟩
theorem termIn_num {l : List (Addr × Obj)} {T : Addr} {t a b : Tok} {p q : Int} (hm : (T, ({ cls := .type "tuple", data := .seq #[.str (Str.ofString "num") t, .int p a, .int q b] } : Obj)) ∈ l) : TermIn l T (dNum p q) :=
  fun _ _ _ _ N hs => rd_tuple (vs := [.str (Str.ofString "num") t, .int p a, .int q b]) (N _ (hs _ hm)).1 (.cons (.str _ _) (.cons (.int _ _) (.cons (.int _ _) .nil)))
theorem termIn_pow {l : List (Addr × Obj)} {T A B : Addr} {t : Tok} {d1 d2 : PyData} (hm : (T, ({ cls := .type "tuple", data := .seq #[.str (Str.ofString "pow") t, .ref A, .ref B] } : Obj)) ∈ l) (h1 : TermIn l A d1) (h2 : TermIn l B d2) : TermIn l T (dPow d1 d2) :=
  fun _ _ _ _ N hs => by
    obtain ⟨as, r1⟩ := h1 _ _ _ _ N hs
    obtain ⟨bs, r2⟩ := h2 _ _ _ _ N hs
    exact rd_tuple (vs := [.str (Str.ofString "pow") t, .ref A, .ref B]) (N _ (hs _ hm)).1 (.cons (.str _ _) (.cons r1 (.cons r2 .nil)))
theorem termIn_two {l : List (Addr × Obj)} {T S A B : Addr} {c : Str} {t : Tok} {d1 d2 : PyData} (hm : (T, ({ cls := .type "tuple", data := .seq #[.str c t, .ref S] } : Obj)) ∈ l) (hs : (S, ({ cls := .type "tuple", data := .seq #[.ref A, .ref B] } : Obj)) ∈ l) (h1 : TermIn l A d1) (h2 : TermIn l B d2) : TermIn l T (.tuple [.str c, .tuple [d1, d2]]) :=
  fun _ _ _ _ N hn => by
    obtain ⟨as, r1⟩ := h1 _ _ _ _ N hn
    obtain ⟨bs, r2⟩ := h2 _ _ _ _ N hn
    obtain ⟨cs, r3⟩ := rd_tuple (vs := [.ref A, .ref B]) (N _ (hn _ hs)).1 (.cons r1 (.cons r2 .nil))
    exact rd_tuple (vs := [.str c t, .ref S]) (N _ (hn _ hm)).1 (.cons (.str _ _) (.cons r3 .nil))
theorem termIn_call {l : List (Addr × Obj)} {T S A : Addr} {c e : Str} {t u : Tok} {d : PyData} (hm : (T, ({ cls := .type "tuple", data := .seq #[.str c t, .str e u, .ref S] } : Obj)) ∈ l) (hs : (S, ({ cls := .type "tuple", data := .seq #[.ref A] } : Obj)) ∈ l) (h1 : TermIn l A d) : TermIn l T (.tuple [.str c, .str e, .tuple [d]]) :=
  fun _ _ _ _ N hn => by
    obtain ⟨as, r1⟩ := h1 _ _ _ _ N hn
    obtain ⟨cs, r3⟩ := rd_tuple (vs := [.ref A]) (N _ (hn _ hs)).1 (.cons r1 .nil)
    exact rd_tuple (vs := [.str c t, .str e u, .ref S]) (N _ (hn _ hm)).1 (.cons (.str _ _) (.cons (.str _ _) (.cons r3 .nil)))
theorem termIn_sym {l : List (Addr × Obj)} {T : Addr} {c x : Str} {t u : Tok} (hm : (T, ({ cls := .type "tuple", data := .seq #[.str c t, .str x u] } : Obj)) ∈ l) : TermIn l T (.tuple [.str c, .str x]) :=
  fun _ _ _ _ N hs => rd_tuple (vs := [.str c t, .str x u]) (N _ (hs _ hm)).1 (.cons (.str _ _) (.cons (.str _ _) .nil))
theorem TermIn.mono {l l' : List (Addr × Obj)} {T : Addr} {d : PyData} (x : TermIn l T d) (h : ∀ p ∈ l, p ∈ l') : TermIn l' T d := fun _ _ _ _ N hs => x _ _ _ _ N fun p hp => hs p (h p hp)
abbrev ratios : List V2 := [(2, 1), (3, 1), (5, 7), (10, 1), (1, 3), (12, 5)]
abbrev exps : List V2 := [(1, 2), (2, 3), (1, 5), (3, 4)]
inductive Shape (l : List (Addr × Obj)) : PyData → Int → Value → Prop
  | num (p q : Int) (R : Addr) (t u : Tok) : (p, q) ∈ ratios → (R, tup2O p q t u) ∈ l → Shape l (dNum p q) 1 (.ref R)
  | pow (p q a k : Int) (R : Addr) (t u : Tok) : (p, q) ∈ ratios → (a, k) ∈ exps → (R, tup2O (p ^ a.toNat) (q ^ a.toNat) t u) ∈ l → Shape l (dPow (dNum p q) (dNum a k)) k (.ref R)
  | exp : Shape l dExp 0 .none
def NumR (lst : Addr) (H h' : Heap) (v : Value) (o' : Obj) : Prop := ∃ c t n D T X d many tm x1 x2 x3 oT o1 o2 o3, o' = boxO lst c t n ∧ 0 ≤ c ∧ c ≤ 3 ∧ v = .ref D ∧ NewL H h' [(D, ({ cls := .type "tuple", data := .seq #[.ref T, .int many tm, X] } : Obj)), (T, oT), (x1, o1), (x2, o2), (x3, o3)] ∧
  (oT.cls = .type "tuple" ∧ o1.cls = .type "tuple" ∧ o2.cls = .type "tuple" ∧ o3.cls = .type "tuple") ∧ TermIn [(T, oT), (x1, o1), (x2, o2), (x3, o3)] T d ∧ Shape [(T, oT), (x1, o1), (x2, o2), (x3, o3)] d many X
theorem num_end0 {lst : Addr} {H h' : Heap} {L D T R : Addr} {news : List (Addr × Obj)} {c p q : Int} {t tm a b e t1 t2 : Tok} {n : Nat} (N : News H L h' news) (hc0 : 0 ≤ c) (hc : c ≤ 3) (hD : (D, ({ cls := .type "tuple", data := .seq #[.ref T, .int 1 tm, .ref R] } : Obj)) ∈ news)
    (hT : (T, ({ cls := .type "tuple", data := .seq #[.str (Str.ofString "num") e, .int p a, .int q b] } : Obj)) ∈ news) (hR : (R, tup2O p q t1 t2) ∈ news) (hr : (p, q) ∈ ratios) : NumR lst H h' (.ref D) (boxO lst c t n) :=
  ⟨c, t, n, D, T, .ref R, _, 1, tm, R, R, R, _, _, _, _, rfl, hc0, hc, rfl, .cons N hD (.cons N hT (.cons N hR (.cons N hR (.cons N hR .nil)))), ⟨rfl, rfl, rfl, rfl⟩, termIn_num (.head _), .num p q R t1 t2 hr (.tail _ (.head _))⟩
theorem num_end1 {lst : Addr} {H h' : Heap} {L D T A B R : Addr} {news : List (Addr × Obj)} {c p q a k r s : Int} {t tm e e1 e2 a1 a2 b1 b2 t1 t2 : Tok} {n : Nat} (N : News H L h' news) (hc0 : 0 ≤ c) (hc : c ≤ 3) (hD : (D, ({ cls := .type "tuple", data := .seq #[.ref T, .int k tm, .ref R] } : Obj)) ∈ news)
    (hT : (T, ({ cls := .type "tuple", data := .seq #[.str (Str.ofString "pow") e, .ref A, .ref B] } : Obj)) ∈ news)
    (hA : (A, ({ cls := .type "tuple", data := .seq #[.str (Str.ofString "num") e1, .int p a1, .int q a2] } : Obj)) ∈ news) (hB : (B, ({ cls := .type "tuple", data := .seq #[.str (Str.ofString "num") e2, .int a b1, .int k b2] } : Obj)) ∈ news)
    (hR : (R, tup2O r s t1 t2) ∈ news) (hr : (p, q) ∈ ratios) (hk : (a, k) ∈ exps) (h1 : r = p ^ a.toNat) (h2 : s = q ^ a.toNat) : NumR lst H h' (.ref D) (boxO lst c t n) := by
  subst h1; subst h2
  exact ⟨c, t, n, D, T, .ref R, _, k, tm, A, B, R, _, _, _, _, rfl, hc0, hc, rfl, .cons N hD (.cons N hT (.cons N hA (.cons N hB (.cons N hR .nil)))), ⟨rfl, rfl, rfl, rfl⟩, termIn_pow (.head _) (termIn_num (.tail _ (.head _))) (termIn_num (.tail _ (.tail _ (.head _)))), .pow p q a k R t1 t2 hr hk (.tail _ (.tail _ (.tail _ (.head _))))⟩
theorem num_end2 {lst : Addr} {H h' : Heap} {L D T S A : Addr} {news : List (Addr × Obj)} {c : Int} {t tm e e1 e2 a1 a2 : Tok} {n : Nat} (N : News H L h' news) (hc0 : 0 ≤ c) (hc : c ≤ 3) (hD : (D, ({ cls := .type "tuple", data := .seq #[.ref T, .int 0 tm, .none] } : Obj)) ∈ news)
    (hT : (T, ({ cls := .type "tuple", data := .seq #[.str (Str.ofString "call") e, .str (Str.ofString "exp") e1, .ref S] } : Obj)) ∈ news) (hS : (S, ({ cls := .type "tuple", data := .seq #[.ref A] } : Obj)) ∈ news)
    (hA : (A, ({ cls := .type "tuple", data := .seq #[.str (Str.ofString "num") e2, .int 1 a1, .int 1 a2] } : Obj)) ∈ news) : NumR lst H h' (.ref D) (boxO lst c t n) :=
  ⟨c, t, n, D, T, .none, _, 0, tm, S, A, A, _, _, _, _, rfl, hc0, hc, rfl, .cons N hD (.cons N hT (.cons N hS (.cons N hA (.cons N hA .nil)))), ⟨rfl, rfl, rfl, rfl⟩, termIn_call (.head _) (.tail _ (.head _)) (termIn_num (.tail _ (.tail _ (.head _)))), .exp⟩
theorem ratios_small : ∀ x ∈ ratios, 1 ≤ x.1 ∧ x.1 ≤ 12 ∧ 1 ≤ x.2 ∧ x.2 ≤ 7 := by decide
theorem exps_small : ∀ x ∈ exps, 1 ≤ x.1 ∧ x.1 ≤ 3 ∧ 2 ≤ x.2 ∧ x.2 ≤ 5 := by decide
theorem pow_small {p a : Int} (h0 : 1 ≤ p) (h1 : p ≤ 12) (h2 : 1 ≤ a) (h3 : a ≤ 3) : (Builtin.Int.intBits p : Int) * a ≤ 2 ^ 27 := by
  have hb : Builtin.Int.intBits p ≤ 4 := bits_le (by show p.natAbs < 16; omega)
  have h4 := Int.mul_le_mul (show (Builtin.Int.intBits p : Int) ≤ 4 by omega) h3 (by omega) (by omega)
  have e : (2 : Int) ^ 27 = 134217728 := by decide
  omega
theorem menu_item {w : World} {A : Around} {E : Value → Shared → Prop} {s : Shared} {H : Heap} {L M B : Addr} {vs : List Value} {n : Nat} {news : List (Addr × Obj)} {r : Int} {u : Tok} {o : Obj} {value slice : PySem.Expr} {Q : Value → Shared → Prop} (ps : List V2)
    (N : News H L s.heap news) (hM : (M, listOf vs.toArray n) ∈ news) (hB : (B, o) ∈ news) (hlen : vs.length = ps.length)
    (hall : ∀ i < ps.length, ∃ R t u p q, vs[i]? = some (.ref R) ∧ ps[i]? = some (p, q) ∧ (R, tup2O p q t u) ∈ news ∧ @LT.lt Nat _ B R) (h0 : 0 ≤ r) (h1 : r < ps.length) (hz : ps.length < 100)
    (h : ∀ R t u p q, (p, q) ∈ ps → @LT.lt Nat _ B R → News H L s.heap [(R, tup2O p q t u), (B, o)] → Q (.ref R) s)
    (hs : subscripted slice false (.ref M) (.int r u) = operate [.ref M, .int r u] (getItem (.ref M) (.int r u)) := by with_unfolding_all rfl) :
    wpAny (model PySem.Challenge.rw_pq0187_01.row.prog w) A (subscriptTail value slice (.ref M) (.int r u)) Q E s := by
  have hl : s.heap.IsList M vs.toArray := N.isList hM
  obtain ⟨R, t, u', p, q, e1, e2, e3, e4⟩ := hall r.toNat (by omega)
  refine tail_any hl.typeIs slot_list_getitem.lookup (wpAny_getItem_list hl h0 (by omega) (by simpa using e1) (h R t u' p q (List.mem_of_getElem? e2) e4 fun x hx => ?_)) hs
  rcases List.mem_cons.mp hx with rfl | hx
  · exact N _ e3
  · rw [List.mem_singleton.mp hx]; exact N _ hB
theorem menu_item2 {w : World} {A : Around} {E : Value → Shared → Prop} {s : Shared} {H : Heap} {L M B : Addr} {vs : List Value} {n : Nat} {news : List (Addr × Obj)} {r : Int} {u : Tok} {o : Obj} {K : Addr × Obj} {value slice : PySem.Expr} {Q : Value → Shared → Prop} (ps : List V2)
    (N : News H L s.heap news) (hM : (M, listOf vs.toArray n) ∈ news) (hB : (B, o) ∈ news) (hK : K ∈ news) (hlen : vs.length = ps.length)
    (hall : ∀ i < ps.length, ∃ R t u p q, vs[i]? = some (.ref R) ∧ ps[i]? = some (p, q) ∧ (R, tup2O p q t u) ∈ news ∧ @LT.lt Nat _ B R) (h0 : 0 ≤ r) (h1 : r < ps.length) (hz : ps.length < 100)
    (h : ∀ R t u p q, (p, q) ∈ ps → @LT.lt Nat _ B R → News H L s.heap [(R, tup2O p q t u), K, (B, o)] → Q (.ref R) s)
    (hs : subscripted slice false (.ref M) (.int r u) = operate [.ref M, .int r u] (getItem (.ref M) (.int r u)) := by with_unfolding_all rfl) :
    wpAny (model PySem.Challenge.rw_pq0187_01.row.prog w) A (subscriptTail value slice (.ref M) (.int r u)) Q E s := by
  have hl : s.heap.IsList M vs.toArray := N.isList hM
  obtain ⟨R, t, u', p, q, e1, e2, e3, e4⟩ := hall r.toNat (by omega)
  refine tail_any hl.typeIs slot_list_getitem.lookup (wpAny_getItem_list hl h0 (by omega) (by simpa using e1) (h R t u' p q (List.mem_of_getElem? e2) e4 fun x hx => ?_)) hs
  rcases List.mem_cons.mp hx with rfl | hx
  · exact N _ e3
  rcases List.mem_cons.mp hx with rfl | hx
  · exact N _ hK
  · rw [List.mem_singleton.mp hx]; exact N _ hB
end
section
set_option maxHeartbeats 40000000 in
theorem number_pc {w mean mg mb} (B l : Addr) (t : Tok) (n : Nat) (vs : List Value) (ns : List Int) (hi : IntsAre vs ns) (hlen : ns.length ≤ 16) :
    MC w mean mg mb 174 [.ref B] 140 B (boxO l 0 t n) (fun h => h.IsList l vs.toArray) (NumR l) := by
  k_with_none
  k_with "callpc" => ((rename News _ _ _ _ => pN'); refine' mc_useU (take_pc B l _ _ _ _ _ vs ns ?xa ?xb ?xc hi hlen) ?pF pN' ?pX ?pT ?pU ?pd ?pu ?pp ?_; (case pF => k_asm); (case pX => k_asm); (case pT => k_asm); (case pU => k_updF); (case pd => ((try dsimp only [arnd, Around.deeper]); omega)); (case pu => ((try dsimp only [arnd, Around.deeper]); omega)); (case pp => exact fun h k _ => hL.at fun o => k _ o); (case xa => omega); (case xb => omega); (case xc => omega); clear pN'; intro v' h' tk' o' F' G' r'; obtain ⟨r, ur, tr, nr, rfl, rfl, hr0, hr1⟩ := r'; have N' := G' [] NewL.nil; (try simp only [List.nil_append] at N'); clear G'; (try k_sweep))
  k_with "pow" => first | exact pow_small hp1 hp2 ha1 ha2 | exact pow_small hp3 (by omega) ha1 ha2
  k_with "sub" => first | ((rename News _ _ _ _ => mN'); (refine menu_item2 (B := B) (K := (R, tup2O p q tR uR)) exps mN' (by k_mem) (by k_mem) (by k_mem) rfl ?ya ?yb ?yc (by decide) ?yd); (case ya => (rintro (_ | _ | _ | _ | i) hi; all_goals first | exact ⟨_, _, _, _, _, rfl, rfl, by k_mem, by omega⟩ | (exfalso; simp at hi; omega))); (case yb => omega); (case yc => (show _ < (4 : Int); omega)); intro R2 tR2 uR2 a k hk hBR2 NR2; obtain ⟨ha1, ha2, ha3, ha4⟩ := exps_small _ hk; dsimp only at ha1 ha2 ha3 ha4; clear mN') | ((rename News _ _ _ _ => mN'); (refine menu_item (B := B) ratios mN' (by k_mem) (by k_mem) rfl ?ya ?yb ?yc (by decide) ?yd); (case ya => (rintro (_ | _ | _ | _ | _ | _ | i) hi; all_goals first | exact ⟨_, _, _, _, _, rfl, rfl, by k_mem, by omega⟩ | (exfalso; simp at hi; omega))); (case yb => omega); (case yc => (show _ < (6 : Int); omega)); intro R tR uR p q hr hBR NR; obtain ⟨hp1, hp2, hp3, hp4⟩ := ratios_small _ hr; dsimp only at hp1 hp2 hp3 hp4; clear mN')
  k_with "mcend" => first | exact num_end0 (by k_asm) (by omega) (by omega) (by k_mem) (by k_mem) (by k_mem) hr | exact num_end1 (by k_asm) (by omega) (by omega) (by k_mem) (by k_mem) (by k_mem) (by k_mem) (by k_mem) hr hk rfl rfl | exact num_end1 (by k_asm) (by omega) (by omega) (by k_mem) (by k_mem) (by k_mem) (by k_mem) (by k_mem) hr (by decide) rfl rfl | exact num_end2 (by k_asm) (by omega) (by omega) (by k_mem) (by k_mem) (by k_mem) (by k_mem)
  refine' mc_enter (binds := [(Str.ofString "box", .ref B)]) ?k1 ?k2 ?k3 ?k4 ?k5 ?_ ?c2 ?c3 ?c4 ?c5
  case k1 => k_dflt k_is
  case k2 => k_dflt k_is
  case k3 => decide
  case k4 => intro s; exact BindsTo.of_eq rfl
  case k5 => exact locs rfl
  case c2 => exact rfl
  case c3 => exact rfl
  case c4 => exact rfl
  case c5 => decide
  intro dp un fr gd s Q H L h₁ tk F N X T hp hd hu
  try dsimp only
  k_fold
  have hL := hp
  repeat' (first | (k_unfold; (try dsimp only)) | walk1 | (dsimp only; walk1) | (dsimp only; k_unfold; (try dsimp only)) | (leave1; walk_say "STEP leave1"; try dsimp only) | fail "no step")
end
section
structure MulIs (a b z : Int) : Prop where
  e : a * b = z
  ok : IntMulOk a b
structure PowIs (a k z : Int) : Prop where
  n : 0 ≤ k
  e : a ^ k.toNat = z
  b : (Builtin.Int.intBits a : Int) * k ≤ 2 ^ 27
theorem mul_is {prog : Program} {w : World} {A : Around} {E : Value → Shared → Prop} {s : Shared} {a b z : Int} {t u : Tok} {Q : Value → Shared → Prop} (m : MulIs a b z)
    (h : Q (.int z s.toks) { s with toks := s.toks + 1 }) : wpAny (model prog w) A (binaryOp .Mult (.int a t) (.int b u)) Q E s :=
  PyProof.Rows.mul_int (by rw [m.e]; exact h) m.ok
theorem pow_is {prog : Program} {w : World} {A : Around} {E : Value → Shared → Prop} {s : Shared} {a b z : Int} {t u : Tok} {Q : Value → Shared → Prop} (m : PowIs a b z)
    (h : Q (.int z s.toks) { s with toks := s.toks + 1 }) : wpAny (model prog w) A (binaryOp .Pow (.int a t) (.int b u)) Q E s :=
  pow_int m.n m.b (by rw [m.e]; exact h)
end
local macro_rules | `(tactic| walk_at "binaryOp Mult int int") => `(tactic| (k_here; refine mul_is (by with_reducible assumption) ?_; (try dsimp only)))
local macro_rules | `(tactic| walk_at "binaryOp Pow int int") => `(tactic| (k_here; refine pow_is (by with_reducible assumption) ?_; (try dsimp only)))
local macro_rules | `(tactic| walk_at "exec For Name Call cons nil") => `(tactic| (k_here; k_dflt (k_extra "for")))
local macro_rules | `(tactic| walk_at "binaryOp FloorDiv int int") => `(tactic| (k_here; refine floordiv_int ?kb ?_ (Or.inr (room (by k_asm) (by k_asm) (by omega) rfl rfl)); (case kb => first | assumption | omega | decide | k_extra "ne"); (try dsimp only)))
local macro_rules | `(tactic| walk_at "exec Assign cons ListComp") => `(tactic| (k_here; refine wpAny_Assign_Name ?_))
section
theorem Pair.rd {h : Heap} {A : Addr} {a b : Int} (x : Pair h A a b) : ∃ as, Reads h (.ref A) (.tuple [.int a, .int b]) as := by
  obtain ⟨t, u, o, e1, e2, n, e3⟩ := x
  exact ⟨_, .tuple (vs := #[.int a t, .int b u]) e1 e2 e3 (.cons (.int _ _) (.cons (.int _ _) .nil))⟩
theorem shaped_pair {a b : Int} : PySem.SeqAt.shaped (.tuple [.int a, .int b]) = true := by rfl
theorem eqv_pair {a b c d : Int} : PyData.eqv (.tuple [.int a, .int b]) (.tuple [.int c, .int d]) = decide (a = c ∧ b = d) := by
  by_cases h1 : a = c <;> by_cases h2 : b = d <;> simp [PyData.eqv, PyData.eqvAll, h1, h2]
theorem eqv_pair_t {a b c d : Int} (h : a = c ∧ b = d) : PyData.eqv (.tuple [.int a, .int b]) (.tuple [.int c, .int d]) = true := by rw [eqv_pair]; simpa using h
set_option maxHeartbeats 4000000 in
theorem btw_pc {w mean mg mb} (A B C : Addr) (l0 l1 h0 h1 k p q A1 A2 A3 A4 T12 X0 X1 Y0 Y1 C1 C2 C3 C4 : Int) (tk : Tok)
    (m1 : MulIs h0 l1 A1) (m2 : MulIs l0 h1 A2) (mT : PowIs 10 12 T12) (m3 : MulIs (A1 - A2) T12 A4) (m4 : MulIs l1 h1 A3) (c0 : A4 ≤ A3) (k0 : 0 < k)
    (p0 : PowIs l0 k X0) (p1 : PowIs l1 k X1) (p2 : PowIs h1 k Y1) (p3 : PowIs h0 k Y0) (n1 : MulIs X0 q C1) (n2 : MulIs p X1 C2) (c1 : C1 ≤ C2) (n3 : MulIs p Y1 C3) (n4 : MulIs Y0 q C4) (c2 : C3 ≤ C4)
    (hk : ¬ 1 < k → (l0 = h0 ∧ l1 = h1)) :
    PC w mean mg mb 181 [.ref A, .ref B, .int k tk, .ref C] 120 (fun h => Pair h A l0 l1 ∧ Pair h B h0 h1 ∧ Pair h C p q) (fun _ _ v => v = .bool true) := by
  k_with_none
  k_with "eq" => (refine PyProof.Rows.eq_dataH (PyProof.Rows.Reads.keeps (Fr.keep (by k_asm)) hRA) (PyProof.Rows.Reads.keeps (Fr.keep (by k_asm)) hRB) shaped_pair shaped_pair (by (try dsimp only [arnd, Around.deeper]); omega) ?_; rw [eqv_pair_t (hk (by assumption))])
  k_with "pcend" => first | with_reducible rfl | exact congrArg Value.bool (decide_eq_true (by assumption))
  refine' pc_enter (binds := [(Str.ofString "low", .ref A), (Str.ofString "high", .ref B), (Str.ofString "many", .int k tk), (Str.ofString "ratio", .ref C)]) ?k1 ?k2 ?k3 ?k4 ?k5 ?_ ?c2 ?c3 ?c4 ?c5
  case k1 => k_dflt k_is
  case k2 => k_dflt k_is
  case k3 => decide
  case k4 => intro s; exact BindsTo.of_eq rfl
  case k5 => exact locs rfl
  case c2 => exact rfl
  case c3 => exact rfl
  case c4 => exact rfl
  case c5 => decide
  intro dp un fr gd s Q L h₁ tk F N X T hp hd hu
  try dsimp only
  k_fold
  obtain ⟨hA, hB, hC⟩ := hp
  obtain ⟨_, hRA⟩ := hA.rd
  obtain ⟨_, hRB⟩ := hB.rd
  obtain ⟨t0, t1, hpA⟩ := hA
  obtain ⟨u0, u1, hpB⟩ := hB
  obtain ⟨v0, v1, hpC⟩ := hC
  repeat' (first | (k_unfold; (try dsimp only)) | walk1 | (dsimp only; walk1) | (dsimp only; k_unfold; (try dsimp only)) | (leave1; walk_say "STEP leave1"; try dsimp only) | fail "no step")
end
section
theorem iter_rng {w : World} {A : Around} {E : Value → Shared → Prop} {s : Shared} {env : Env} {H : Heap} {x : Str} {body : List Stmt} {Q : Flow → Shared → Prop} {r : Addr} {a b c : Int} {t u v : Tok} {n : Nat} {m₀ : Str → Option Value} {news : List (Addr × Obj)}
    (J : Nat → (Str → Option Value) → Prop)
    (hh : A.handled = none) (hr : IsRange s.heap r a b c t u v) (hsmall : Builtin.Range.small a b c = true) (hn : Builtin.Range.rangeSize a b c = (n : Int)) (F : Fr H env.locals s.heap m₀) (N : News H env.locals s.heap news) (hj : J 0 m₀)
    (turn : ∀ i t m₁ h tk own, i < n → J i m₁ → Fr H env.locals h (fun y => if y = x then some (.int (a + i * c) t) else m₁ y) → News H env.locals h (own ++ news) →
      wpAny (model PySem.Challenge.rw_pq0187_01.row.prog w) A (execs body env) (InvPost H env.locals (J (i + 1)) (own ++ news) { s with heap := h, toks := tk } Q) E { s with heap := h, toks := tk })
    (done : ∀ m₁ h tk, J n m₁ → Fr H env.locals h m₁ → News H env.locals h news → Q .next { s with heap := h, toks := tk }) :
    wpAny (model PySem.Challenge.rw_pq0187_01.row.prog w) A (pyIter (.ref r)) (fun it s₂ => LoopAtV PySem.Challenge.rw_pq0187_01.row.prog w A H env x body Q E it s₂) E s := by
  have W := Walks.range (prog := PySem.Challenge.rw_pq0187_01.row.prog) (w := w) hh s.heap.objs.size a c n
  refine wpAny_pyIter_range hr hsmall ⟨_, _, _, n, _, _, m₀, news, fun i m₁ n₁ => n₁ = news ∧ J i m₁, rfl, W, ?_, ?_, ?_, (by show IsRangeIter _ _ _ _ _; rw [hn]; simpa using Heap.get?_push_size _ rfl), F.push _, (fun p hp => ⟨Heap.get?_push_of_some _ (N p hp).1, (N p hp).2⟩), ⟨rfl, hj⟩, ?_, ?_⟩
  · intro hm
    exact absurd F.ns.lt ((List.mem_singleton.mp hm) ▸ Nat.lt_irrefl _)
  · intro b hb
    rw [List.mem_singleton.mp hb]
    exact next_is_new F
  · intro p hp hI
    exact absurd (Heap.lt_size (N p hp).1) ((List.mem_singleton.mp hI) ▸ Nat.lt_irrefl _)
  · rintro i v m₁ n₁ s₁ own ⟨hh', tk', rfl⟩ hin ⟨t', rfl⟩ ⟨rfl, hJ⟩ hoff _ _ _ _ F₁ N₁
    refine wpAny_mono (turn i t' m₁ hh' tk' own hin hJ F₁ N₁) (fun f s₂ p => ?_) fun _ _ e => e
    have fin : InvEnd H env.locals (J (i + 1)) (own ++ n₁) { s with heap := hh', toks := tk' } s₂ → LoopStepU H env.locals [s.heap.objs.size] own (fun m₁ n₂ => n₂ = n₁ ∧ J (i + 1) m₁) { s with heap := hh', toks := tk' } .next s₂ := by
      rintro ⟨h', tk, m', news', e, F', N', hn, hm⟩
      exact ⟨rfl, h', tk, m', n₁, e, F', fun p hp => N' p (hn p hp), hoff, rfl, hm⟩
    cases f with
    | ret v => exact .ret p
    | brk => exact .brk p
    | next => exact .next (fin p)
    | cont => exact .cont (fin p)
  · rintro h' tk m' news' F' N' _ ⟨rfl, hJ⟩
    exact done m' h' tk hJ F' N'
/-- two names turn -/
theorem fr2 {H h : Heap} {L : Addr} {m₀ m : Str → Option Value} {v v1 v2 : Value} {x k1 k2 : Str} (h1 : m k1 = some v1) (h2 : m k2 = some v2) (h3 : ∀ z, z ≠ x → z ≠ k1 → z ≠ k2 → m z = m₀ z)
    (F : Fr H L h (fun y => if y = x then some v else m y)) : Fr H L h (fun y => if y = x then some v else if y = k1 then some v1 else if y = k2 then some v2 else m₀ y) := by
  have e : (fun y => if y = x then some v else m y) = (fun y => if y = x then some v else if y = k1 then some v1 else if y = k2 then some v2 else m₀ y) := by
    funext y
    by_cases a : y = x
    · simp [a]
    · simp only [if_neg a]
      by_cases b : y = k1
      · simp only [if_pos b]; rw [b]; exact h1
      · simp only [if_neg b]
        by_cases c : y = k2
        · simp only [if_pos c]; rw [c]; exact h2
        · simp only [if_neg c]; exact h3 y a b c
  rw [← e]; exact F
theorem fr2E {H h : Heap} {L : Addr} {m₀ m : Str → Option Value} {v1 v2 : Value} {x k1 k2 : Str} (h1 : m k1 = some v1) (h2 : m k2 = some v2) (h3 : ∀ z, z ≠ x → z ≠ k1 → z ≠ k2 → m z = m₀ z)
    (F : Fr H L h m) : Fr H L h (fun y => if y = k1 then some v1 else if y = k2 then some v2 else if y = x then m x else m₀ y) := by
  have e : m = (fun y => if y = k1 then some v1 else if y = k2 then some v2 else if y = x then m x else m₀ y) := by
    funext y
    by_cases b : y = k1
    · simp only [if_pos b]; rw [b]; exact h1
    · simp only [if_neg b]
      by_cases c : y = k2
      · simp only [if_pos c]; rw [c]; exact h2
      · simp only [if_neg c]
        by_cases a : y = x
        · simp only [if_pos a]; rw [a]
        · simp only [if_neg a]; exact h3 y a b c
  rw [← e]; exact F
/-- three names turn -/
theorem fr3 {H h : Heap} {L : Addr} {m₀ m : Str → Option Value} {v v1 v2 v3 : Value} {x k1 k2 k3 : Str} (h1 : m k1 = some v1) (h2 : m k2 = some v2) (h4 : m k3 = some v3) (h3 : ∀ z, z ≠ x → z ≠ k1 → z ≠ k2 → z ≠ k3 → m z = m₀ z)
    (F : Fr H L h (fun y => if y = x then some v else m y)) : Fr H L h (fun y => if y = x then some v else if y = k1 then some v1 else if y = k2 then some v2 else if y = k3 then some v3 else m₀ y) := by
  have e : (fun y => if y = x then some v else m y) = (fun y => if y = x then some v else if y = k1 then some v1 else if y = k2 then some v2 else if y = k3 then some v3 else m₀ y) := by
    funext y
    by_cases a : y = x
    · simp [a]
    · simp only [if_neg a]
      by_cases b : y = k1
      · simp only [if_pos b]; rw [b]; exact h1
      · simp only [if_neg b]
        by_cases c : y = k2
        · simp only [if_pos c]; rw [c]; exact h2
        · simp only [if_neg c]
          by_cases d : y = k3
          · simp only [if_pos d]; rw [d]; exact h4
          · simp only [if_neg d]; exact h3 y a b c d
  rw [← e]; exact F
theorem fr3E {H h : Heap} {L : Addr} {m₀ m : Str → Option Value} {v1 v2 v3 : Value} {x k1 k2 k3 : Str} (h1 : m k1 = some v1) (h2 : m k2 = some v2) (h4 : m k3 = some v3) (h3 : ∀ z, z ≠ x → z ≠ k1 → z ≠ k2 → z ≠ k3 → m z = m₀ z)
    (F : Fr H L h m) : Fr H L h (fun y => if y = k1 then some v1 else if y = k2 then some v2 else if y = k3 then some v3 else if y = x then m x else m₀ y) := by
  have e : m = (fun y => if y = k1 then some v1 else if y = k2 then some v2 else if y = k3 then some v3 else if y = x then m x else m₀ y) := by
    funext y
    by_cases b : y = k1
    · simp only [if_pos b]; rw [b]; exact h1
    · simp only [if_neg b]
      by_cases c : y = k2
      · simp only [if_pos c]; rw [c]; exact h2
      · simp only [if_neg c]
        by_cases d : y = k3
        · simp only [if_pos d]; rw [d]; exact h4
        · simp only [if_neg d]
          by_cases a : y = x
          · simp only [if_pos a]; rw [a]
          · simp only [if_neg a]; exact h3 y a b c d
  rw [← e]; exact F
end
section
noncomputable def expSt : Nat → Int × Int
  | 0 => (0, 1)
  | i + 1 => ((expSt i).1 + (expSt i).2, (expSt i).2 * (20 + (i : Int) * -1))
theorem expSt_sz : ∀ i < 20, Sz (expSt i).2 ∧ Sz (20 + (i : Int) * -1) := by unfold Sz; decide +kernel
def ExpJ (m₀ : Str → Option Value) (i : Nat) (m : Str → Option Value) : Prop :=
  ∃ t u, m (Str.ofString "top") = some (.int (expSt i).1 t) ∧ m (Str.ofString "share") = some (.int (expSt i).2 u) ∧ ∀ z, z ≠ Str.ofString "turn" → z ≠ Str.ofString "top" → z ≠ Str.ofString "share" → m z = m₀ z
abbrev eA : Int := 2718281828459
abbrev eB : Int := 1000000000000
abbrev eC : Int := 2718281828460
set_option maxHeartbeats 4000000 in
theorem btw_exp {w mean mg mb} (A B : Addr) (tk : Tok) :
    PC w mean mg mb 181 [.ref A, .ref B, .int 0 tk, .none] 120 (fun h => Pair h A eA eB ∧ Pair h B eC eB) (fun _ _ v => v = .bool true) := by
  obtain ⟨A1, A2, A3, A4, T12, m1, m2, mT, m3, m4, c0⟩ : ∃ A1 A2 A3 A4 T12, MulIs eC eB A1 ∧ MulIs eA eB A2 ∧ PowIs 10 12 T12 ∧ MulIs (A1 - A2) T12 A4 ∧ MulIs eB eB A3 ∧ A4 ≤ A3 :=
    ⟨_, _, _, _, _, ⟨rfl, Sz.mul (by unfold Sz; decide +kernel) (by unfold Sz; decide +kernel)⟩, ⟨rfl, Sz.mul (by unfold Sz; decide +kernel) (by unfold Sz; decide +kernel)⟩, ⟨by decide, rfl, by decide +kernel⟩, ⟨rfl, Sz.mul (by unfold Sz; decide +kernel) (by unfold Sz; decide +kernel)⟩, ⟨rfl, Sz.mul (by unfold Sz; decide +kernel) (by unfold Sz; decide +kernel)⟩, by decide +kernel⟩
  obtain ⟨S, T, Z1, Z2, Z3, Z4, hS, hT, q1, q2, q3, q4, c1, c2⟩ : ∃ S T Z1 Z2 Z3 Z4, S = (expSt 20).2 ∧ T = (expSt 20).1 ∧ MulIs eA S Z1 ∧ MulIs (T + S) eB Z2 ∧ MulIs (T + S + 1) eB Z3 ∧ MulIs eC S Z4 ∧ Z1 < Z2 ∧ Z3 < Z4 :=
    ⟨_, _, _, _, _, _, rfl, rfl, ⟨rfl, Sz.mul (by unfold Sz; decide +kernel) (by unfold Sz; decide +kernel)⟩, ⟨rfl, Sz.mul (by unfold Sz; decide +kernel) (by unfold Sz; decide +kernel)⟩, ⟨rfl, Sz.mul (by unfold Sz; decide +kernel) (by unfold Sz; decide +kernel)⟩, ⟨rfl, Sz.mul (by unfold Sz; decide +kernel) (by unfold Sz; decide +kernel)⟩, by decide +kernel, by decide +kernel⟩
  k_with_none
  k_with "for" => ((rename Fr _ _ _ _ => lF'); (with_unfolding_all refine' For_invVF lF' ?k1 ?k2 ?_; (case k1 => exact rfl); (case k2 => exact rfl)))
  k_with "pyiter" =>
    rename Fr _ _ _ _ => lF'
    rename News _ _ _ _ => lN'
    rename IsRange _ _ _ _ _ _ _ _ => rgX
    with_unfolding_all refine' iter_rng (n := 20) (ExpJ _) rfl rgX (by decide) rfl lF' lN' ⟨_, _, rfl, rfl, fun _ _ _ _ => rfl⟩ ?lturn ?ldone
    clear lF' lN'
    case' lturn =>
      rintro i t m₁ h tk own hi ⟨t1, t2, e1, e2, e3⟩ F N
      have zi := MulIs.mk (a := (expSt i).2) (b := 20 + (i : Int) * -1) rfl (Sz.mul (expSt_sz i hi).1 (expSt_sz i hi).2)
      replace F := fr2 e1 e2 e3 F
      dsimp only [envOf] at F N
    case' ldone =>
      rintro m₁ h tk ⟨t1, t2, e1, e2, e3⟩ F N
      replace F := fr2E e1 e2 e3 F
      rw [← hS, ← hT] at F
      dsimp only [envOf] at F N
  k_with "inv" => (with_unfolding_all refine InvEnd.intro (by k_asm) (by k_asm) (fun _ h => List.mem_cons_of_mem _ h) ⟨_, _, rfl, rfl, ?hc⟩; (case hc => (intro z h1 h2 h3; simp only [if_neg h1, if_neg h2, if_neg h3])))
  k_with "pcend" => first | with_reducible rfl | exact congrArg Value.bool (decide_eq_true (by assumption))
  refine' pc_enter (binds := [(Str.ofString "low", .ref A), (Str.ofString "high", .ref B), (Str.ofString "many", .int 0 tk), (Str.ofString "ratio", .none)]) ?k1 ?k2 ?k3 ?k4 ?k5 ?_ ?c2 ?c3 ?c4 ?c5
  case k1 => k_dflt k_is
  case k2 => k_dflt k_is
  case k3 => decide
  case k4 => intro s; exact BindsTo.of_eq rfl
  case k5 => exact locs rfl
  case c2 => exact rfl
  case c3 => exact rfl
  case c4 => exact rfl
  case c5 => decide
  intro dp un fr gd s Q L h₁ tk F N X T hp hd hu
  try dsimp only
  k_fold
  obtain ⟨hA, hB⟩ := hp
  obtain ⟨t0, t1, hpA⟩ := hA
  obtain ⟨u0, u1, hpB⟩ := hB
  repeat' (first | (k_unfold; (try dsimp only)) | walk1 | (dsimp only; walk1) | (dsimp only; k_unfold; (try dsimp only)) | (leave1; walk_say "STEP leave1"; try dsimp only) | fail "no step")
end
section
noncomputable def arcSt (T n : Int) : Nat → Int × Int × Int
  | 0 => (0, T.fdiv n, 1)
  | i + 1 => ((arcSt T n i).1 + (arcSt T n i).2.2 * ((arcSt T n i).2.1.fdiv (1 + (i : Int) * 2)), ((arcSt T n i).2.1.fdiv n).fdiv n, 0 - (arcSt T n i).2.2)
@[irreducible] noncomputable def arcF (n : Int) : Int := (arcSt 100000000000000000000 n 20).1
theorem arcF_def (n : Int) : arcF n = (arcSt 100000000000000000000 n 20).1 := by unfold arcF; rfl
def ArcJ (n : Int) (m₀ : Str → Option Value) (i : Nat) (m : Str → Option Value) : Prop :=
  ∃ t u v, m (Str.ofString "found") = some (.int (arcSt 100000000000000000000 n i).1 t) ∧ m (Str.ofString "share") = some (.int (arcSt 100000000000000000000 n i).2.1 u) ∧ m (Str.ofString "sign") = some (.int (arcSt 100000000000000000000 n i).2.2 v) ∧
    ∀ z, z ≠ Str.ofString "turn" → z ≠ Str.ofString "found" → z ≠ Str.ofString "share" → z ≠ Str.ofString "sign" → m z = m₀ z
def ArcOk (n : Int) : Prop := ∀ i < 20, Sz (arcSt 100000000000000000000 n i).2.2 ∧ Sz ((arcSt 100000000000000000000 n i).2.1.fdiv (1 + (i : Int) * 2))
theorem arc_ok5 : ArcOk 5 := by unfold ArcOk Sz; decide +kernel
theorem arc_ok239 : ArcOk 239 := by unfold ArcOk Sz; decide +kernel
set_option maxHeartbeats 4000000 in
theorem arc_pc {w mean mg mb} (n : Int) (tk : Tok) (hn : n ≠ 0) (ok : ArcOk n) :
    PC w mean mg mb 195 [.int n tk] 120 (fun _ => True) (fun _ _ v => ∃ t, v = .int (arcF n) t) := by
  have mT : PowIs 10 20 100000000000000000000 := ⟨by decide, by decide, by decide +kernel⟩
  k_with_none
  k_with "for" => ((rename Fr _ _ _ _ => lF'); (with_unfolding_all refine' For_invVF lF' ?k1 ?k2 ?_; (case k1 => exact rfl); (case k2 => exact rfl)))
  k_with "pyiter" =>
    rename Fr _ _ _ _ => lF'
    rename News _ _ _ _ => lN'
    rename IsRange _ _ _ _ _ _ _ _ => rgX
    with_unfolding_all refine' iter_rng (n := 20) (ArcJ n _) rfl rgX (by decide) rfl lF' lN' ⟨_, _, _, rfl, rfl, rfl, fun _ _ _ _ _ => rfl⟩ ?lturn ?ldone
    clear lF' lN'
    case' lturn =>
      rintro i t m₁ h tk own hi ⟨t1, t2, t3, e1, e2, e4, e3⟩ F N
      have zi := MulIs.mk rfl (Sz.mul (ok i hi).1 (ok i hi).2)
      replace F := fr3 e1 e2 e4 e3 F
      dsimp only [envOf] at F N
    case' ldone =>
      rintro m₁ h tk ⟨t1, t2, t3, e1, e2, e4, e3⟩ F N
      replace F := fr3E e1 e2 e4 e3 F
      rw [← arcF_def] at F
      dsimp only [envOf] at F N
  k_with "inv" => (with_unfolding_all refine InvEnd.intro (by k_asm) (by k_asm) (fun _ h => List.mem_cons_of_mem _ h) ⟨_, _, _, rfl, rfl, rfl, ?hc⟩; (case hc => (intro z h1 h2 h3 h4; simp only [if_neg h1, if_neg h2, if_neg h3, if_neg h4])))
  k_with "pcend" => exact ⟨_, rfl⟩
  refine' pc_enter (binds := [(Str.ofString "number", .int n tk)]) ?k1 ?k2 ?k3 ?k4 ?k5 ?_ ?c2 ?c3 ?c4 ?c5
  case k1 => k_dflt k_is
  case k2 => k_dflt k_is
  case k3 => decide
  case k4 => intro s; exact BindsTo.of_eq rfl
  case k5 => exact locs rfl
  case c2 => exact rfl
  case c3 => exact rfl
  case c4 => exact rfl
  case c5 => decide
  intro dp un fr gd s Q L h₁ tk F N X T hp hd hu
  try dsimp only
  k_fold
  repeat' (first | (k_unfold; (try dsimp only)) | walk1 | (dsimp only; walk1) | (dsimp only; k_unfold; (try dsimp only)) | (leave1; walk_say "STEP leave1"; try dsimp only) | fail "no step")
end
section
section
variable {prog : Program} {w : World} {A : Around} {E : Value → Shared → Prop} {s : Shared} {H : Heap} {L : Addr} {m : Str → Option Value} {env : Env} {news : List (Addr × Obj)}
def RngAt (H : Heap) (L : Addr) (m : Str → Option Value) (P : List (Addr × Obj)) (a b c : Int) (s : Shared) (xv : Value) (s₁ : Shared) : Prop :=
  ∃ h tk r t u v, s₁ = { s with heap := h, toks := tk } ∧ xv = .ref r ∧ IsRange h r a b c t u v ∧ Fr H L h m ∧ News H L h P
def TestEnd (s : Shared) (h : Heap) (Jn : Bool → List (Addr × Obj) → Prop) (ok : Bool) (s₂ : Shared) : Prop := ∃ h₂ tk₂ l₂, s₂ = { s with heap := h₂, toks := tk₂ } ∧ h.StaysIn h₂ ∧ NewL h h₂ l₂ ∧ Jn ok l₂
/-- [1 for x in range if test] -/
theorem comp1R {iter test : Expr} {x : Str} {px p1 : Pos} {k1 : Nat} {scope : Scope} {cl : List (Str × Addr)} {pos : Pos} {Q : Value → Shared → Prop} {a b c : Int} {n : Nat}
    (hh : A.handled = none) (hclos : closureFor scope env = pure cl) (hcell : ∀ y ∈ scope.names, y.2 ≠ .cell) (hkind : scope.kind = .function)
    (hnames : ∀ y ∈ scope.names, y.2 = .local → scope.names.lookup y.1 = some .local) (hx : scope.names.lookup x = some .local)
    (hs0 : ∀ v, foldedSetIterable iter env v = pure v) (hsmall : Builtin.Range.small a b c = true) (hn : Builtin.Range.rangeSize a b c = (n : Int)) (hsz : n ≤ sizeLine)
    (h0 : wpAny (model prog w) A (eval iter env) (RngAt H L m news a b c s) (fun _ _ => False) s)
    (J : Nat → List Value → List (Addr × Obj) → Prop) (hj : J 0 [] news)
    (turn : ∀ i t ys P₁ Is C D h tk mC, i < n → J i ys P₁ → (∀ p ∈ news, p ∈ P₁) → CInv H L m Is C D ys P₁ mC h → mC x = some (.int (a + i * c) t) →
      wpAny (model prog w) A (isTrue test (compEnvC scope cl C env) (eval test (compEnvC scope cl C env))) (TestEnd s h fun ok l₂ => if ok = true then ∀ u, J (i + 1) (ys ++ [.int 1 u]) (l₂ ++ P₁) else J (i + 1) ys (l₂ ++ P₁)) (fun _ _ => False) { s with heap := h, toks := tk })
    (fin : ∀ D ys P₁ h tk, J n ys P₁ → (∀ p ∈ news, p ∈ P₁) → Fr H L h m → News H L h ((D, lstO ys) :: P₁) → (∀ p ∈ P₁, p.1 ≠ D) → Q (.ref D) { s with heap := h, toks := tk }) :
    wpAny (model prog w) A (eval (.ListComp (.Constant (.int 1) k1 p1) [⟨.Name x px, iter, [test], 0⟩] scope pos) env) Q E s := by
  rw [eval_ListComp]
  refine wpAny_comprehension_free (use := none) rfl hs0 hclos hkind hnames (wpAny_mono h0 (fun xv s₁ h₁ => ?_) fun _ _ f => f.elim)
  obtain ⟨h', tk', r, t, u, v, rfl, rfl, hr, F, N⟩ := h₁
  have W := Walks.range (prog := prog) (w := w) hh h'.objs.size a c n
  refine wpAny_pyIter_range hr hsmall ?_
  dsimp only
  have up : h'.StaysIn (h'.push { cls := .type "range_iterator", data := .fields #[rawInt a, rawInt (Builtin.Range.rangeSize a b c), rawInt c] }) := fun b o e => Heap.get?_push_of_some _ e
  refine comp_core (s := { s with heap := h'.push { cls := .type "range_iterator", data := .fields #[rawInt a, rawInt (Builtin.Range.rangeSize a b c), rawInt c] }, toks := tk' }) W (fun _ _ hs b hb => ⟨_, (List.mem_singleton.mp hb) ▸ hs⟩) (by show IsRangeIter _ _ _ _ _; rw [hn]; simpa using Heap.get?_push_size _ rfl) (F.keeps up) (N.grown up) (Ne.symm (Nat.ne_of_lt F.ns.lt)) (next_is_new F) (fun p hp => Nat.ne_of_lt (Heap.lt_size (N p hp).1)) hcell hkind ?_
  intro C D h tk mC x₀ st hCf hDf
  refine run0 (s := s) W hsz (fun _ _ st => ⟨_, st⟩) hCf hDf hkind hx (fun i ys P₁ => J i ys P₁ ∧ ∀ p ∈ news, p ∈ P₁) ?_ ?_ n 0 [] news h tk mC (by omega) (by simp) ⟨hj, fun _ h => h⟩ x₀ st
  · rintro i v ys P₁ h' tk' mC' ⟨t, rfl⟩ hi hJ x' hxv
    refine wpAny_tests_one (wpAny_mono (turn i t ys P₁ _ C D h' tk' mC' hi hJ.1 hJ.2 x' hxv) (fun ok s₂ q => ?_) fun _ _ f => f)
    obtain ⟨h₂, tk₂, l₂, e, st₂, nw, hj₂⟩ := q
    refine ⟨h₂, tk₂, l₂, e, st₂, nw, ?_⟩
    cases ok with
    | true =>
      simp only [if_true] at hj₂ ⊢
      subst e
      exact wpAny_Constant_int ⟨h₂, _, [], rfl, fun _ _ e => e, NewL.nil, hj₂ _, fun p hp => List.mem_append_right _ (List.mem_append_right _ (hJ.2 p hp))⟩
    | false =>
      simp only [Bool.false_eq_true, if_false] at hj₂ ⊢
      exact ⟨hj₂, fun p hp => List.mem_append_right _ (hJ.2 p hp)⟩
  · intro ys P₁ h' tk' mC' hJ x'
    exact compEnd rfl x' fun h'' F' N' o' => fin D ys P₁ h'' tk' hJ.1 hJ.2 F' N' o'
end
end
section
theorem mc_enterC {w : World} {mean : ExcName → Option Value} {mg mb : Str → Option Value} {f : Addr} {vs : List Value} {k : Nat} {B : Addr} {o : Obj} {pre : Heap → Prop} {R : Heap → Heap → Value → Obj → Prop}
    {name qual : Str} {params : Arguments} {body : List Stmt} {scope : Scope} {dV kV doc pm cdv ct oc : Value} {an od : Option Addr} {osl : Array (Option Value)} {binds : List (Str × Value)}
    (ho : (hd.heap_39 w.params).lookup f = some ⟨oc, od, .func (fnOf name qual params body scope dV kV doc pm an cdv ct), osl⟩) (hcd : codeIn (hd.heap_39 w.params) cdv qual = true)
    (hk0 : 1 ≤ k)
    (hbind : ∀ s, BindsTo s (fnOf name qual params body scope dV kV doc pm an cdv ct) ⟨vs, []⟩ binds)
    (hkind : (binds.all fun y => scope.names.lookup y.1 == some .local || scope.names.lookup y.1 == some .cell) = true)
    (hnd : ((cellsFrom 0 scope.names []).map (·.1)).Nodup)
    (h : ∀ (dp un : Nat) (fr : List Env) (gd : Option (List Code)) (s : Shared) (Q : Value → Shared → Prop) (H : Heap) (L : Addr) (h₁ : Heap) (tk : Nat) (cells : List (Addr × Obj)),
      Fr H L h₁ (bindL (envOfC qual scope L f cdv).kindOf binds fun _ => none) → News H L h₁ (cells ++ [(B, o)]) →
      CellsAre (bindC (envOfC qual scope L f cdv).kindOf binds fun _ => none) (cellsFrom (L + 1) scope.names []) cells →
      (hd.heap_39 w.params).In H → TopH mean mg mb H → pre H → @LT.lt Nat _ B L → dp + k < recursionLimit → un + 8 * k < cLine →
      wpAny (model PySem.Challenge.rw_pq0187_01.row.prog w) ((arnd dp un fr gd).deeper (envOfC qual scope L f cdv)) (execs body (envOfC qual scope L f cdv))
        (fun fl s' => McEnd H B R Q s (match fl with | .ret v => v | _ => .none) s')
        (fun _ _ => False)
        { s with heap := h₁, toks := tk })
    (hco : scope.isCoroutine = false) (hgen : scope.isGenerator = false) (hk : scope.kind = .function) : MC w mean mg mb f vs k B o pre R := by
  intro dp un fr gd s Q E hB X T hd hu hp hret
  have back : ∀ b o, (s.heap.hide B).get? b = some o → s.heap.get? b = some o := fun b o e => Heap.of_hide e
  have T' : TopH mean mg mb s.heap := T.keeps back
  have X' := X.keeps back
  refine wpAny_call ?_
  refine codeAny_call_function (by show dp < recursionLimit; omega) (X' _ _ ho) rfl hco hgen rfl (codeRec_of X' hcd) (hbind s _ _ _ _ ?_)
  refine wpAny_newFunctionEnv_cells hk (kindsX hkind _) fun env' he s' x => ?_
  subst he
  refine ⟨T'.nolimit.keeps x.toInCall.keep, codeAny_func ?_⟩
  obtain ⟨h₁, tk, rfl, _⟩ := x.done
  have hk₁ := x.toInCall.keep
  obtain ⟨cells, NC, Y⟩ := Cl.news (h₀ := s.heap) (Nat.le_refl _) fun n c hm => ⟨x.cell n c (lookup_of_mem_nodup (cellsFrom_names scope.names 0 (s.heap.objs.size + 1) [] [] rfl ▸ hnd) hm), x.above n c hm⟩
  refine wpAny_mono (h dp un fr gd s Q (s.heap.hide B) s.heap.objs.size h₁ tk cells ⟨x.toInCall.ns, fun b o e => hk₁ b o (back b o e), Nat.le_of_eq (Heap.hide_size _ _)⟩ (fun p hp => ?_) Y X T hp (Heap.lt_size hB) hd hu) (fun fl s' hl => ?_) (fun _ _ x => x.elim)
  · rcases List.mem_append.mp hp with hp | hp
    · refine ⟨(NC p hp).1, (NC p hp).2.1, ?_⟩
      cases q : (s.heap.hide B).get? p.1 with
      | none => rfl
      | some o' => have := back _ _ q; rw [(NC p hp).2.2] at this; cases this
    · rw [List.mem_singleton.mp hp]
      exact ⟨hk₁ _ _ hB, Nat.ne_of_lt (Heap.lt_size hB), by
        cases q : (s.heap.hide B).get? B with
        | none => rfl
        | some o => rw [Heap.hide_self] at q; cases q⟩
  · exact hl hret
end
section
abbrev HALF : Int := 157079632679489661930
def szB (x : Int) : Bool := decide (Builtin.Int.intBits x ≤ 2 ^ 20)
theorem szB_sz {x : Int} (h : szB x = true) : Sz x := by unfold szB at h; unfold Sz; exact of_decide_eq_true h
def ntB (x b t0 t1 : Int) : Bool :=
  szB x && szB b && szB t0 && szB t1 && decide (b * t0 ≠ 0) && szB (ratP (x * t1) (b * t0)) && szB (ratQ (x * t1) (b * t0)) && decide (ratQ (x * t1) (b * t0) * 2 ≠ 0) && decide (ratQ (ratP (x * t1) (b * t0) * 2 + 1 * ratQ (x * t1) (b * t0)) (ratQ (x * t1) (b * t0) * 2) ≠ 0)
theorem ntB_ok {x b t0 t1 : Int} (h : ntB x b t0 t1 = true) : NtOk x b t0 t1 := by
  simp only [ntB, Bool.and_eq_true, decide_eq_true_eq] at h
  obtain ⟨⟨⟨⟨⟨⟨⟨⟨a1, a2⟩, a3⟩, a4⟩, a5⟩, a6⟩, a7⟩, a8⟩, a9⟩ := h
  exact ⟨szB_sz a1, szB_sz a2, szB_sz a3, szB_sz a4, a5, szB_sz a6, szB_sz a7, a8, a9⟩
def poleB (x b : Int) : Bool :=
  ntB x b pi0 piB && ntB x b pi1 piB && decide (ntF x b pi0 piB = ntF x b pi1 piB) && decide (-12 ≤ ntF x b pi0 piB) && decide (ntF x b pi0 piB ≤ 24) &&
  decide ((2 * (ntF x b pi0 piB - 1) + 1) * HALF * b < x * 100000000000000000000) && decide (x * 100000000000000000000 < (2 * ntF x b pi0 piB + 1) * HALF * b)
theorem pole_all : ∀ i : Nat, i < 99 → ∀ j : Nat, j < 7 → poleB ((i : Int) - 30) ((j : Int) + 1) = true := by decide +kernel
structure PoleP (x b : Int) : Prop where
  ok0 : NtOk x b pi0 piB
  ok1 : NtOk x b pi1 piB
  eq : ntF x b pi0 piB = ntF x b pi1 piB
  lo : -12 ≤ ntF x b pi0 piB
  hi : ntF x b pi0 piB ≤ 24
  below : (2 * (ntF x b pi0 piB - 1) + 1) * HALF * b < x * 100000000000000000000
  above : x * 100000000000000000000 < (2 * ntF x b pi0 piB + 1) * HALF * b
theorem pole_at {x b : Int} (hx : -30 ≤ x ∧ x ≤ 68) (hb : 1 ≤ b ∧ b ≤ 7) : PoleP x b := by
  have h := pole_all (x + 30).toNat (by omega) (b - 1).toNat (by omega)
  rw [show (((x + 30).toNat : Nat) : Int) - 30 = x by omega, show (((b - 1).toNat : Nat) : Int) + 1 = b by omega] at h
  simp only [poleB, Bool.and_eq_true, decide_eq_true_eq] at h
  obtain ⟨⟨⟨⟨⟨⟨a1, a2⟩, a3⟩, a4⟩, a5⟩, a6⟩, a7⟩ := h
  exact ⟨ntB_ok a1, ntB_ok a2, a3, a4, a5, a6, a7⟩
theorem half_eq : 8 * arcF 5 - 2 * arcF 239 = HALF := by decide +kernel
theorem pole_mono {k k' b : Int} (hb : 0 ≤ b) (h : k ≤ k') : (2 * k + 1) * HALF * b ≤ (2 * k' + 1) * HALF * b :=
  Int.mul_le_mul_of_nonneg_right (by unfold HALF; omega) hb
theorem pole_iff {x y b : Int} (hb : 1 ≤ b) (px : PoleP x b) (py : PoleP y b) :
    (∃ k, -12 ≤ k ∧ k < 24 ∧ x * 100000000000000000000 ≤ (2 * k + 1) * HALF * b ∧ (2 * k + 1) * HALF * b ≤ y * 100000000000000000000) ↔ ntF x b pi0 piB < ntF y b pi0 piB := by
  constructor
  · rintro ⟨k, k0, k1, a, c⟩
    by_cases h1 : k ≤ ntF x b pi0 piB - 1
    · have := pole_mono (b := b) (by omega) h1
      have := px.below
      omega
    · by_cases h2 : ntF y b pi0 piB ≤ k
      · have := pole_mono (b := b) (by omega) h2
        have := py.above
        omega
      · omega
  · intro h
    refine ⟨ntF x b pi0 piB, px.lo, by have := py.hi; omega, Int.le_of_lt px.above, ?_⟩
    have h1 : ntF x b pi0 piB ≤ ntF y b pi0 piB - 1 := by omega
    have := pole_mono (b := b) (by omega) h1
    have := py.below
    omega
theorem fold_nil {C : Int → Prop} {G : List Int → Int → List Int} (h1 : ∀ l k, C k → G l k = l ++ [1]) (h2 : ∀ l k, ¬ C k → G l k = l) : ∀ (ks l : List Int), List.foldl G l ks = [] ↔ l = [] ∧ ∀ k ∈ ks, ¬ C k
  | [], l => by simp
  | k :: ks, l => by
    rw [List.foldl_cons, fold_nil h1 h2 ks]
    by_cases h : C k
    · rw [h1 l k h]
      constructor
      · rintro ⟨e, _⟩
        simp at e
      · rintro ⟨_, e⟩
        exact absurd h (e k (.head _))
    · rw [h2 l k h]
      constructor
      · rintro ⟨e, h2⟩
        refine ⟨e, fun k' hk => ?_⟩
        rcases List.mem_cons.mp hk with rfl | hk
        · exact h
        · exact h2 k' hk
      · rintro ⟨e, h2⟩
        exact ⟨e, fun k' hk => h2 k' (.tail _ hk)⟩
theorem pole_end {x y b A1 A2 : Int} {G : List Int → Int → List Int} {inst : Decidable (List.foldl G [] (rangeKs (-12) (24 - -12).toNat) = [])} (hb : 1 ≤ b) (px : PoleP x b) (py : PoleP y b) (hA : A1 - A2 = HALF)
    (h1 : ∀ l k, (x * 10 ^ Int.toNat 20 ≤ (2 * k + 1) * (A1 - A2) * b ∧ (2 * k + 1) * (A1 - A2) * b ≤ y * 10 ^ Int.toNat 20) → G l k = l ++ [1])
    (h2 : ∀ l k, ¬ (x * 10 ^ Int.toNat 20 ≤ (2 * k + 1) * (A1 - A2) * b ∧ (2 * k + 1) * (A1 - A2) * b ≤ y * 10 ^ Int.toNat 20) → G l k = l) :
    Value.bool (decide (min (ntF x b pi0 piB) (ntF x b pi1 piB) < max (ntF y b pi0 piB) (ntF y b pi1 piB)) == !@decide (List.foldl G [] (rangeKs (-12) (24 - -12).toNat) = []) inst) = Value.bool true := by
  have e := fold_nil h1 h2 (rangeKs (-12) (24 - -12).toNat) []
  rw [hA, show (10 : Int) ^ Int.toNat 20 = 100000000000000000000 from by decide] at e
  have q := pole_iff hb px py
  have m : ∀ k, k ∈ rangeKs (-12) (24 - -12).toNat ↔ -12 ≤ k ∧ k < 24 := by
    intro k
    have n36 : (24 - -12 : Int).toNat = 36 := by decide
    rw [n36]
    refine ⟨fun h => by have := mem_rangeKs h; omega, fun h => List.mem_map.mpr ⟨(k + 12).toNat, List.mem_range.mpr (by omega), by omega⟩⟩
  have r : (¬ List.foldl G [] (rangeKs (-12) (24 - -12).toNat) = []) ↔ ntF x b pi0 piB < ntF y b pi0 piB := by
    rw [e, ← q]
    constructor
    · intro h
      have h' : ¬ ∀ k ∈ rangeKs (-12) (24 - -12).toNat, ¬ (x * 100000000000000000000 ≤ (2 * k + 1) * HALF * b ∧ (2 * k + 1) * HALF * b ≤ y * 100000000000000000000) := fun g => h ⟨rfl, g⟩
      simp only [Classical.not_forall, Classical.not_not] at h'
      obtain ⟨k, hk, h1, h2⟩ := h'
      exact ⟨k, ((m k).mp hk).1, ((m k).mp hk).2, h1, h2⟩
    · rintro ⟨k, k0, k1, h1, h2⟩ ⟨_, g⟩
      exact g k ((m k).mpr ⟨k0, k1⟩) ⟨h1, h2⟩
  rw [← px.eq, ← py.eq, show min (ntF x b pi0 piB) (ntF x b pi0 piB) = ntF x b pi0 piB by omega, show max (ntF y b pi0 piB) (ntF y b pi0 piB) = ntF y b pi0 piB by omega]
  congr 1
  by_cases hq : List.foldl G [] (rangeKs (-12) (24 - -12).toNat) = []
  · have hn : ¬ ntF x b pi0 piB < ntF y b pi0 piB := fun h => r.mpr h hq
    rw [decide_eq_true hq, decide_eq_false hn]; rfl
  · have hn : ntF x b pi0 piB < ntF y b pi0 piB := r.mp hq
    rw [decide_eq_false hq, decide_eq_true hn]; rfl
end
local macro_rules | `(tactic| k_ne) => `(tactic| (refine neN ?_; (try dsimp only); first | (simp only [*, ne_eq, not_false_eq_true]; done) | omega))
section
set_option maxHeartbeats 4000000 in
theorem poles_pc {w mean mg mb} (B l : Addr) (c : Int) (t : Tok) (n : Nat) (vs : List Value) (ns : List Int) (hi : IntsAre vs ns) (hlen : ns.length ≤ 16) (hc0 : 0 ≤ c) (hc1 : c ≤ 50) :
    MC w mean mg mb 200 [.ref B] 170 B (boxO l c t n) (fun h => h.IsList l vs.toArray) (fun _ _ v _ => v = .bool true) := by
  obtain ⟨A1, A2, m1, m2, hA⟩ : ∃ A1 A2, MulIs 8 (arcF 5) A1 ∧ MulIs 2 (arcF 239) A2 ∧ A1 - A2 = HALF := ⟨_, _, ⟨rfl, Sz.mul (by unfold Sz; decide +kernel) (by unfold Sz; decide +kernel)⟩, ⟨rfl, Sz.mul (by unfold Sz; decide +kernel) (by unfold Sz; decide +kernel)⟩, half_eq⟩
  k_with_none
  k_with "mcend" => exact pole_end (by omega) pL pH hA (fun l k h => if_pos h) (fun l k h => (if_neg h).trans (ite_self _))
  k_with "callpc" => first | ((rename News _ _ _ _ => pN'); refine' mc_useU (take_pc B l _ 60 _ _ _ vs ns ?xa ?xb ?xc hi hlen) ?pF pN' ?pX ?pT ?pU ?pd ?pu ?pp ?_; (case pF => k_asm); (case pX => k_asm); (case pT => k_asm); (case pU => k_updF); (case pd => ((try dsimp only [arnd, Around.deeper]); omega)); (case pu => ((try dsimp only [arnd, Around.deeper]); omega)); (case pp => exact fun h k _ => hL.at fun o => k _ o); (case xa => omega); (case xb => omega); (case xc => omega); clear pN'; intro v' h' tk' o' F' G' r'; obtain ⟨ra, ura, tra, nra, rfl, rfl, hra0, hra1⟩ := r'; have N' := G' [] NewL.nil; (try simp only [List.nil_append] at N'); clear G'; (try k_sweep))| ((rename News _ _ _ _ => pN'); refine' mc_useU (take_pc B l _ 7 _ _ _ vs ns ?xa ?xb ?xc hi hlen) ?pF pN' ?pX ?pT ?pU ?pd ?pu ?pp ?_; (case pF => k_asm); (case pX => k_asm); (case pT => k_asm); (case pU => k_updF); (case pd => ((try dsimp only [arnd, Around.deeper]); omega)); (case pu => ((try dsimp only [arnd, Around.deeper]); omega)); (case pp => exact fun h k _ => hL.at fun o => k _ o); (case xa => omega); (case xb => omega); (case xc => omega); clear pN'; intro v' h' tk' o' F' G' r'; obtain ⟨rb, urb, trb, nrb, rfl, rfl, hrb0, hrb1⟩ := r'; have N' := G' [] NewL.nil; (try simp only [List.nil_append] at N'); clear G'; (try k_sweep))| ((rename News _ _ _ _ => pN'); refine' mc_useU (take_pc B l _ 40 _ _ _ vs ns ?xa ?xb ?xc hi hlen) ?pF pN' ?pX ?pT ?pU ?pd ?pu ?pp ?_; (case pF => k_asm); (case pX => k_asm); (case pT => k_asm); (case pU => k_updF); (case pd => ((try dsimp only [arnd, Around.deeper]); omega)); (case pu => ((try dsimp only [arnd, Around.deeper]); omega)); (case pp => exact fun h k _ => hL.at fun o => k _ o); (case xa => omega); (case xb => omega); (case xc => omega); clear pN'; intro v' h' tk' o' F' G' r'; obtain ⟨rc, urc, trc, nrc, rfl, rfl, hrc0, hrc1⟩ := r'; have N' := G' [] NewL.nil; (try simp only [List.nil_append] at N'); clear G'; (try k_sweep))| ((rename News _ _ _ _ => pN'); refine' pc_use (arc_pc 5 _ (by decide) arc_ok5) ?pF pN' ?pX ?pT ?pd ?pu ?pp ?_; (case pF => k_asm); (case pX => k_asm); (case pT => k_asm); (case pd => ((try dsimp only [arnd, Around.deeper]); omega)); (case pu => ((try dsimp only [arnd, Around.deeper]); omega)); (case pp => trivial); clear pN'; intro v' h' tk' F' G' st' r'; (obtain ⟨tf, rfl⟩ := r'; have N' := G' [] NewL.nil; clear G'; (try simp only [List.nil_append] at N')); (try k_sweep))| ((rename News _ _ _ _ => pN'); refine' pc_use (arc_pc 239 _ (by decide) arc_ok239) ?pF pN' ?pX ?pT ?pd ?pu ?pp ?_; (case pF => k_asm); (case pX => k_asm); (case pT => k_asm); (case pd => ((try dsimp only [arnd, Around.deeper]); omega)); (case pu => ((try dsimp only [arnd, Around.deeper]); omega)); (case pp => trivial); clear pN'; intro v' h' tk' F' G' st' r'; (obtain ⟨tf, rfl⟩ := r'; have N' := G' [] NewL.nil; clear G'; (try simp only [List.nil_append] at N')); (try k_sweep))| (have pL := pole_at (x := ra - 30) (b := 1 + rb) ⟨by omega, by omega⟩ ⟨by omega, by omega⟩; have pH := pole_at (x := ra - 30 + rc) (b := 1 + rb) ⟨by omega, by omega⟩ ⟨by omega, by omega⟩; ((rename News _ _ _ _ => pN'); refine' pc_use (meet_pc _ _ (ra - 30) (1 + rb) (ra - 30 + rc) (1 + rb) pL.ok0 pL.ok1 pH.ok0 pH.ok1) ?pF pN' ?pX ?pT ?pd ?pu ?pp ?_; (case pF => k_asm); (case pX => k_asm); (case pT => k_asm); (case pd => ((try dsimp only [arnd, Around.deeper]); omega)); (case pu => ((try dsimp only [arnd, Around.deeper]); omega)); (case pp => exact ⟨Pair.ofNews pN' (by k_mem), Pair.ofNews pN' (by k_mem)⟩); clear pN'; intro v' h' tk' F' G' st' r'; (obtain rfl := r'); have N' := G' [] NewL.nil; clear G'; (try simp only [List.nil_append] at N')); (try k_sweep))
  refine' mc_enterC (binds := [(Str.ofString "box", .ref B)]) ?k1 ?k2 ?k3 ?k4 ?k5 ?kD ?_ ?c2 ?c3 ?c4
  case k1 => k_dflt k_is
  case k2 => k_dflt k_is
  case k3 => decide
  case k4 => intro s; exact BindsTo.of_eq rfl
  case k5 => exact rfl
  case kD => decide +kernel
  case c2 => exact rfl
  case c3 => exact rfl
  case c4 => exact rfl
  intro dp un fr gd s Q H L h₁ tk cells F N Y X T hp hBL hd hu
  k_cells Y
  (try simp only [List.cons_append, List.nil_append] at N)
  try dsimp only
  with_reducible show wpAny _ _ _ _ _ _
  k_fold
  have hL := hp
  repeat' (first | (k_unfold; (try dsimp only)) | walk1 | (dsimp only; walk1) | (dsimp only; k_unfold; (try dsimp only)) | (leave1; walk_say "STEP leave1"; try dsimp only) | fail "no step")
end
section
abbrev jmenu : List V2 := [(3, 1), (-2, 1), (-1, 4), (5, 2)]
/-- g/g' is a/a' and top/bot summed -/
structure SumEq (g0 g1 a0 a1 top bot : Int) : Prop where
  s0 : Sz g0
  s1 : Sz g1
  t0 : Sz a0
  t1 : Sz a1
  ok : ∃ m1 m2 m3 m4, MulIs g0 a1 m1 ∧ MulIs m1 bot m2 ∧ MulIs a0 bot m3 ∧ MulIs top a1 m4 ∧ MulIs (m3 + m4) g1 m2
structure ProdEq (g0 g1 a0 a1 top bot : Int) : Prop where
  ok : ∃ m1 m2 m3, MulIs g0 a1 m1 ∧ MulIs m1 bot m2 ∧ MulIs a0 top m3 ∧ MulIs m3 g1 m2
structure LeEq (p0 p1 p2 p3 : Int) : Prop where
  ok : ∃ m1 m2, MulIs p0 p3 m1 ∧ MulIs p2 p1 m2 ∧ m1 ≤ m2
def JR (w : World) (mean : ExcName → Option Value) (mg mb : Str → Option Value) (as : List PyData) (a0 a1 a2 a3 top bot : Int) : Prop :=
  ∃ g0 g1 g2 g3 p0 p1 p2 p3, (∀ A, PC w mean mg mb 141 [.ref A] 210 (fun h => Rd h A (dSum (.tuple as) (dNum top bot))) (fun H h' v => PairOf H h' v g0 g1 g2 g3)) ∧
    (∀ A, PC w mean mg mb 141 [.ref A] 210 (fun h => Rd h A (dProd (dNum top bot) (.tuple as))) (fun H h' v => PairOf H h' v p0 p1 p2 p3)) ∧
    SumEq g0 g1 a0 a1 top bot ∧ SumEq g2 g3 a2 a3 top bot ∧ LeEq p0 p1 p2 p3 ∧
    ((0 < top ∧ ProdEq p0 p1 a0 a1 top bot ∧ ProdEq p2 p3 a2 a3 top bot) ∨ (top < 0 ∧ ProdEq p2 p3 a0 a1 top bot ∧ ProdEq p0 p1 a2 a3 top bot))
theorem rd_num {H h : Heap} {L T : Addr} {news : List (Addr × Obj)} {t a b : Tok} {p q : Int} (N : News H L h news) (hm : (T, ({ cls := .type "tuple", data := .seq #[.str (Str.ofString "num") t, .int p a, .int q b] } : Obj)) ∈ news) : Rd h T (dNum p q) :=
  termIn_num (List.mem_singleton.mpr rfl) _ _ _ _ N (fun p hp => (List.mem_singleton.mp hp) ▸ hm)
theorem rd_two {H h : Heap} {L T S A B : Addr} {news : List (Addr × Obj)} {c : Str} {t : Tok} {d1 d2 : PyData} (N : News H L h news) (hm : (T, ({ cls := .type "tuple", data := .seq #[.str c t, .ref S] } : Obj)) ∈ news) (hs : (S, ({ cls := .type "tuple", data := .seq #[.ref A, .ref B] } : Obj)) ∈ news) (h1 : Rd h A d1) (h2 : Rd h B d2) : Rd h T (.tuple [.str c, .tuple [d1, d2]]) := by
  obtain ⟨as, r1⟩ := h1
  obtain ⟨bs, r2⟩ := h2
  obtain ⟨cs, r3⟩ := rd_tuple (vs := [.ref A, .ref B]) (N _ hs).1 (.cons r1 (.cons r2 .nil))
  exact rd_tuple (vs := [.str c t, .ref S]) (N _ hm).1 (.cons (.str _ _) (.cons r3 .nil))
end
section
section
open Sem (wp)
variable {prog : Program} {w : World} {A : Around} {E : Value → Shared → Prop} {s : Shared}
/-- next of a tuple's iterator, as zip draws it -/
theorem nextOf_tup_item {it t : Addr} {i : Nat} {items : Array Value} {x : Value} {Q : Value → Shared → Prop} (hit : s.heap.IsTupleIter it t i) (ht : s.heap.IsTuple t items) (hx : items[i]? = some x)
    (hQ : ∀ h', h'.IsTupleIter it t (i + 1) → Heap.SameBut it s.heap h' → Q x { s with heap := h' }) : wpAny (model prog w) A (Builtin.SmallTypes.nextOf (.ref it)) Q E s := by
  obtain ⟨oi, eo, ec, ed⟩ := id hit
  obtain ⟨ot, et, _, nt, dt⟩ := ht
  unfold Builtin.SmallTypes.nextOf
  refine wpAny_bind (wpAny_callSpecial?_slot (name := Str.ofString "__next__") hit.typeIs F.slot_tuple_iterator_next (wpAny_call_entry F.slot_tuple_iterator_next hit.typeIs F.entry_tuple_iterator_next ?_ (F.args_tuple_iterator_next_1 _)))
  show wpAny _ _ (field (.ref it) 0 >>= _) _ _ s
  refine wpAny_bind (wpAny_field eo ed (x := .ref t) rfl ?_)
  show wpAny _ _ (if (Value.ref t == Value.none) = true then _ else _) _ _ s
  rw [if_neg (show ¬ ((Value.ref t == Value.none) = true) from Bool.false_ne_true)]
  show wpAny _ _ (field (.ref it) 1 >>= _) _ _ s
  refine wpAny_bind (wpAny_field eo ed (x := .int i 0) rfl ?_)
  show wpAny _ _ (seqItems? (.ref t) >>= _) _ _ s
  refine wpAny_bind (wpAny_seqItems et dt ?_)
  simp only [Int.toNat_natCast, hx]
  refine wpAny_bind (wpAny_setField eo ed (by simp) (wpAny_pure ⟨x, rfl, wpAny_pure (hQ _ ?_ (Heap.SameBut.update ..))⟩))
  exact ⟨_, Heap.get?_update_self _ eo (Obj.isFreed_of_fields (Obj.data_mapFields ed _)), (Obj.cls_mapFields ..).trans ec, by rw [Obj.data_mapFields ed]; simp [rawInt]⟩
theorem nextOf_tup_end {it t : Addr} {i : Nat} {items : Array Value} {Q : Value → Shared → Prop} (hh : A.handled = none) (hit : s.heap.IsTupleIter it t i) (ht : s.heap.IsTuple t items) (hx : items[i]? = none)
    (hE : ∀ h' e, Heap.ExtBut it s.heap h' → (∃ o, h'.get? e = some o ∧ o.cls = .type "StopIteration") → E (.ref e) { s with heap := h' }) : wpAny (model prog w) A (Builtin.SmallTypes.nextOf (.ref it)) Q E s := by
  obtain ⟨oi, eo, ec, ed⟩ := id hit
  obtain ⟨ot, et, _, nt, dt⟩ := ht
  unfold Builtin.SmallTypes.nextOf
  refine wpAny_bind (wpAny_callSpecial?_slot (name := Str.ofString "__next__") hit.typeIs F.slot_tuple_iterator_next (wpAny_call_entry F.slot_tuple_iterator_next hit.typeIs F.entry_tuple_iterator_next ?_ (F.args_tuple_iterator_next_1 _)))
  show wpAny _ _ (field (.ref it) 0 >>= _) _ _ s
  refine wpAny_bind (wpAny_field eo ed (x := .ref t) rfl ?_)
  show wpAny _ _ (if (Value.ref t == Value.none) = true then _ else _) _ _ s
  rw [if_neg (show ¬ ((Value.ref t == Value.none) = true) from Bool.false_ne_true)]
  show wpAny _ _ (field (.ref it) 1 >>= _) _ _ s
  refine wpAny_bind (wpAny_field eo ed (x := .int i 0) rfl ?_)
  show wpAny _ _ (seqItems? (.ref t) >>= _) _ _ s
  refine wpAny_bind (wpAny_seqItems et dt ?_)
  simp only [Int.toNat_natCast, hx]
  refine wpAny_bind (wpAny_rule (wpAny_bind (wpAny_setField eo ed (by simp) ?_)))
  show wpAny _ _ (newExc (.type "StopIteration") [] >>= _) _ _ _
  refine wpAny_bind ?_
  simp only [newExc, newTuple]
  refine wpAny_bind (wpAny_newObj_type ?_ (by size_fits))
  refine wpAny_bind (m := firstArgMember _ _) (wpAny_of_eq (a := Value.none) (by first | rfl | (simp only [firstArgMember]; rfl)) ?_)
  refine wpAny_newObj_type ?_ (by size_fits)
  simp only [raiseNew]
  refine wpAny_bind (wpAny_handled ?_)
  first | rw [show A.in1.handled = none from hh] | rw [hh]
  refine wpAny_bind (wpAny_pure (wpAny_throw ?_))
  exact hE _ _ (((Heap.SameBut.update ..).extBut.push _).push _) ⟨_, Heap.get?_push_size _ rfl, rfl⟩
end
end
section
section
open Sem (wp)
variable {prog : Program} {w : World} {A : Around} {E : Value → Shared → Prop} {s : Shared}
/-- zip of two tuples, k items drawn -/
structure ZT (h : Heap) (z TI TO i1 i2 l1 l2 : Addr) (xs ys : Array Value) (k : Nat) (f0 : Value) : Prop where
  hz : IsZip h z TI TO f0
  hI : IsPair h TI (.ref i1) (.ref i2)
  hO : ∃ a b, IsPair h TO a b
  h1 : h.IsTupleIter i1 l1 k
  h2 : h.IsTupleIter i2 l2 k
  t1 : h.IsTuple l1 xs
  t2 : h.IsTuple l2 ys
theorem zt_next {z TI TO i1 i2 l1 l2 : Addr} {k : Nat} {xs ys : Array Value} {x y : Value} {Q : Value → Shared → Prop} (D : ZipApart z TI TO i1 i2 l1 l2) (Z : ZT s.heap z TI TO i1 i2 l1 l2 xs ys k .none)
    (hx : xs[k]? = some x) (hy : ys[k]? = some y)
    (hQ : ∀ h', ZT h' z TI TO i1 i2 l1 l2 xs ys (k + 1) (rawInt s.heap.objs.size) → IsPair h' s.heap.objs.size x y →
      (∀ c o, c ≠ z → c ≠ TO → c ≠ i1 → c ≠ i2 → s.heap.get? c = some o → h'.get? c = some o) → Q (.ref s.heap.objs.size) { s with heap := h' }) :
    wpAny (model prog w) A (Builtin.«zip.__next__» ⟨[.ref z], []⟩) (fun fin s' => ∃ v, fin = .done (.ret v) ∧ Q v s') E s := by
  obtain ⟨hz, hI, ⟨a, b, hO⟩, h1, h2, t1, t2⟩ := Z
  show wpAny _ _ (field (.ref z) 2 >>= _) _ _ _
  refine wpAny_bind (wpAny_field hz rfl (x := .bool false) rfl ?_)
  show wpAny _ _ (field (.ref z) 3 >>= _) _ _ _
  refine wpAny_bind (wpAny_field hz rfl (x := .ref TI) rfl (wpAny_bind (wpAny_seqItems hI rfl ?_)))
  show wpAny _ _ (Builtin.SmallTypes.ownedTupleIsFree (.ref z) >>= _) _ _ _
  refine wpAny_bind ?_
  unfold Builtin.SmallTypes.ownedTupleIsFree
  refine wpAny_bind (wpAny_field hz rfl (x := .none) rfl (wpAny_pure ?_))
  simp only [if_true]
  refine wpAny_bind (wpAny_rule (wpAny_bind (wpAny_field hz rfl (x := .ref TO) rfl (wpAny_bind (wpAny_setField_rec hz (by simp) fun g1 z1 s1 => ?_)))))
  replace z1 : IsZip g1 z TI TO .ellipsis := z1
  have k1 : ∀ c o, c ≠ z → s.heap.get? c = some o → g1.get? c = some o := fun c o n e => s1.extBut c o n e
  refine wpAny_bind ?_
  simp only [List.zipIdx_cons, List.zipIdx_nil, List.forIn_cons, List.forIn_nil]
  refine wpAny_bind (wpAny_bind (wpAny_onRaise ?_))
  show wpAny _ _ (Builtin.SmallTypes.nextOf (.ref i1) >>= _) _ _ _
  refine wpAny_bind (nextOf_tup_item (h1.at fun o => k1 _ o D.i1z) (Heap.IsTuple.extBut t1 s1.extBut D.l1z) hx fun g2 n1 s2 => wpAny_pure ?_)
  have k2 : ∀ c o, c ≠ z → c ≠ i1 → s.heap.get? c = some o → g2.get? c = some o := fun c o n m e => s2.extBut c o m (k1 c o n e)
  refine wpAny_bind (wpAny_seqItems (k2 _ _ D.TOz D.TOi1 hO) rfl (wpAny_bind (wpAny_updateSeq_pair (k2 _ _ D.TOz D.TOi1 hO) fun g3 o3 s3 => ?_)))
  replace o3 : IsPair g3 TO x b := o3
  have k3 : ∀ c o, c ≠ z → c ≠ i1 → c ≠ TO → s.heap.get? c = some o → g3.get? c = some o := fun c o n m l e => s3.extBut c o l (k2 c o n m e)
  refine wpAny_bind (wpAny_letGo (wpAny_pure ?_))
  refine wpAny_bind (wpAny_bind (wpAny_onRaise ?_))
  show wpAny _ _ (Builtin.SmallTypes.nextOf (.ref i2) >>= _) _ _ _
  refine wpAny_bind (nextOf_tup_item (h2.at fun o => k3 _ o D.i2z D.i12.symm D.TOi2.symm) (by obtain ⟨o, e, r⟩ := t2; exact ⟨o, k3 _ o D.l2z D.l2i1 D.l2TO e, r⟩) hy fun g4 n2 s4 => wpAny_pure ?_)
  have o4 : IsPair g4 TO x b := s4.extBut _ _ D.TOi2 o3
  refine wpAny_bind (wpAny_seqItems o4 rfl (wpAny_bind (wpAny_updateSeq_pair o4 fun g5 o5 s5 => ?_)))
  replace o5 : IsPair g5 TO x y := o5
  refine wpAny_bind (wpAny_letGo (wpAny_pure (wpAny_pure ?_)))
  refine wpAny_bind (wpAny_seqItems o5 rfl (wpAny_bind (wpAny_newTuple ?_)))
  have sz : g5.objs.size = s.heap.objs.size := by rw [s5.1, s4.1, s3.1, s2.1, s1.1]
  have z5 : IsZip g5 z TI TO .ellipsis := s5.extBut _ _ D.TOz.symm (s4.extBut _ _ D.i2z.symm (s3.extBut _ _ D.TOz.symm (s2.extBut _ _ D.i1z.symm z1)))
  have k5 : ∀ c o, c ≠ z → c ≠ TO → c ≠ i1 → c ≠ i2 → s.heap.get? c = some o → g5.get? c = some o := fun c o a1 a2 a3 a4 e => s5.extBut _ _ a2 (s4.extBut _ _ a4 (k3 c o a1 a3 a2 e))
  have m1 : g5.IsTupleIter i1 l1 (k + 1) := n1.at fun o e => s5.extBut _ o D.TOi1.symm (s4.extBut _ o D.i12 (s3.extBut _ o D.TOi1.symm e))
  have m2 : g5.IsTupleIter i2 l2 (k + 1) := n2.at fun o e => s5.extBut _ o D.TOi2.symm e
  show wpAny _ _ (Builtin.SmallTypes.ownedTupleHandOut (.ref z) (.ref g5.objs.size) >>= _) _ _ _
  refine wpAny_bind ?_
  unfold Builtin.SmallTypes.ownedTupleHandOut
  have z6 : IsZip (g5.push { cls := .type "tuple", data := .seq #[x, y] }) z TI TO .ellipsis := Heap.get?_push_of_some _ z5
  refine wpAny_bind (wpAny_setField_rec z6 (by simp) fun g7 z7 s7 => ?_)
  replace z7 : IsZip g7 z TI TO (rawInt g5.objs.size) := z7
  refine wpAny_setField_rec z7 (by simp) fun g8 z8 s8 => ?_
  replace z8 : IsZip g8 z TI TO (rawInt g5.objs.size) := z8
  have up : ∀ c o, c ≠ z → g5.get? c = some o → g8.get? c = some o := fun c o n e => s8.extBut _ _ n (s7.extBut _ _ n (Heap.get?_push_of_some _ e))
  have T8 : IsPair g8 g5.objs.size x y := s8.extBut _ _ (Nat.ne_of_gt (Heap.lt_size z5)) (s7.extBut _ _ (Nat.ne_of_gt (Heap.lt_size z5)) (Heap.get?_push_size _ rfl))
  rw [sz] at z8 T8
  refine wpAny_pure ⟨_, rfl, ?_⟩
  show Q (.ref g5.objs.size) _
  rw [sz]
  have all : ∀ c o, c ≠ z → c ≠ TO → c ≠ i1 → c ≠ i2 → s.heap.get? c = some o → g8.get? c = some o := fun c o a1 a2 a3 a4 e => up c o a1 (k5 c o a1 a2 a3 a4 e)
  exact hQ g8 ⟨z8, all _ _ D.TIz D.TITO D.TIi1 D.TIi2 hI, ⟨_, _, up _ _ D.TOz o5⟩, m1.at fun o => up _ o D.i1z, m2.at fun o => up _ o D.i2z,
    (by obtain ⟨o, e, r⟩ := t1; exact ⟨o, all _ _ D.l1z D.l1TO D.l1i1 D.l1i2 e, r⟩), (by obtain ⟨o, e, r⟩ := t2; exact ⟨o, all _ _ D.l2z D.l2TO D.l2i1 D.l2i2 e, r⟩)⟩ T8 all
theorem zt_end {z TI TO i1 i2 l1 l2 : Addr} {k : Nat} {xs ys : Array Value} {Q : Fin → Shared → Prop} (hh : A.handled = none) (D : ZipApart z TI TO i1 i2 l1 l2) (Z : ZT s.heap z TI TO i1 i2 l1 l2 xs ys k .none)
    (hx : xs[k]? = none)
    (hE : ∀ h' e, (∀ c o, c ≠ z → c ≠ TO → c ≠ i1 → c ≠ i2 → s.heap.get? c = some o → h'.get? c = some o) → (∃ o, h'.get? e = some o ∧ o.cls = .type "StopIteration") → E (.ref e) { s with heap := h' }) :
    wpAny (model prog w) A (Builtin.«zip.__next__» ⟨[.ref z], []⟩) Q E s := by
  obtain ⟨hz, hI, ⟨a, b, hO⟩, h1, h2, t1, t2⟩ := Z
  show wpAny _ _ (field (.ref z) 2 >>= _) _ _ _
  refine wpAny_bind (wpAny_field hz rfl (x := .bool false) rfl ?_)
  show wpAny _ _ (field (.ref z) 3 >>= _) _ _ _
  refine wpAny_bind (wpAny_field hz rfl (x := .ref TI) rfl (wpAny_bind (wpAny_seqItems hI rfl ?_)))
  show wpAny _ _ (Builtin.SmallTypes.ownedTupleIsFree (.ref z) >>= _) _ _ _
  refine wpAny_bind ?_
  unfold Builtin.SmallTypes.ownedTupleIsFree
  refine wpAny_bind (wpAny_field hz rfl (x := .none) rfl (wpAny_pure ?_))
  simp only [if_true]
  refine wpAny_bind (wpAny_rule (wpAny_bind (wpAny_field hz rfl (x := .ref TO) rfl (wpAny_bind (wpAny_setField_rec hz (by simp) fun g1 z1 s1 => ?_)))))
  replace z1 : IsZip g1 z TI TO .ellipsis := z1
  refine wpAny_bind ?_
  simp only [List.zipIdx_cons, List.zipIdx_nil, List.forIn_cons, List.forIn_nil]
  refine wpAny_bind (wpAny_bind (wpAny_onRaise ?_))
  show wpAny _ _ (Builtin.SmallTypes.nextOf (.ref i1) >>= _) _ _ _
  refine wpAny_bind (nextOf_tup_end hh (h1.at fun o => s1.extBut _ o D.i1z) (Heap.IsTuple.extBut t1 s1.extBut D.l1z) hx fun g2 e s2 he => ?_)
  obtain ⟨oe, eo, ec⟩ := he
  have z2 : IsZip g2 z TI TO .ellipsis := s2 _ _ D.i1z.symm z1
  have ne : e ≠ z := fun q => by subst q; rw [z2] at eo; cases eo; simp at ec
  refine wpAny_setField_rec z2 (by simp) fun g3 _ s3 => hE g3 e (fun c o a1 _ a3 _ q => s3.extBut _ _ a1 (s2 _ _ a3 (s1.extBut _ _ a1 q))) ⟨oe, s3.extBut _ _ ne eo, ec⟩
end
end
section
section
open Sem (wp)
variable {prog : Program} {w : World} {A : Around} {E : Value → Shared → Prop} {s : Shared}
theorem ZT.at {h h' : Heap} {z TI TO i1 i2 l1 l2 : Addr} {xs ys : Array Value} {k : Nat} {f0 : Value} (Z : ZT h z TI TO i1 i2 l1 l2 xs ys k f0) (hk : ∀ b ∈ [z, TI, TO, i1, i2, l1, l2], ∀ o, h.get? b = some o → h'.get? b = some o) : ZT h' z TI TO i1 i2 l1 l2 xs ys k f0 := by
  obtain ⟨hz, hI, ⟨a, b, hO⟩, h1, h2, t1, t2⟩ := Z
  refine ⟨hk z (by simp) _ hz, hk TI (by simp) _ hI, ⟨a, b, hk TO (by simp) _ hO⟩, h1.at fun o => hk i1 (by simp) o, h2.at fun o => hk i2 (by simp) o, ?_, ?_⟩
  · obtain ⟨o, e, r⟩ := t1
    exact ⟨o, hk l1 (by simp) _ e, r⟩
  · obtain ⟨o, e, r⟩ := t2
    exact ⟨o, hk l2 (by simp) _ e, r⟩
theorem zt_walks (hh : A.handled = none) {z TI TO i1 i2 l1 l2 : Addr} (D : ZipApart z TI TO i1 i2 l1 l2) (xs ys : Array Value) (hsz : xs.size = ys.size) :
    WalksT prog w A z [z, TI, TO, i1, i2, l1, l2] [z, TO, i1, i2] xs.size (fun i vals => ∃ x y, xs[i]? = some x ∧ ys[i]? = some y ∧ vals = #[x, y])
      (fun i h => ZT h z TI TO i1 i2 l1 l2 xs ys i .none) (fun i T h => ZT h z TI TO i1 i2 l1 l2 xs ys (i + 1) (rawInt T) ∧ T ∉ [z, TO, i1, i2]) where
  sub := fun c hc => by
    simp only [List.mem_cons, List.not_mem_nil, or_false] at hc ⊢
    rcases hc with rfl | rfl | rfl | rfl <;> simp
  frame := fun i h h' Z hk => Z.at hk
  item := fun i s Q E hi Z hQ => by
    have hT : s.TypeIs (.ref z) "zip" := ⟨_, Z.hz, rfl⟩
    have ex : xs[i]? = some xs[i] := Array.getElem?_eq_getElem hi
    have ey : ys[i]? = some (ys[i]'(hsz ▸ hi)) := Array.getElem?_eq_getElem (hsz ▸ hi)
    have lt : ∀ {c o}, s.heap.get? c = some o → s.heap.objs.size ≠ c := fun e => Nat.ne_of_gt (Heap.lt_size e)
    unfold pyNext
    refine wpAny_bind (wpAny_attempt (wpAny_callSpecial?_slot (name := Str.ofString "__next__") hT F.slot_zip_next (wpAny_call_entry F.slot_zip_next hT F.entry_zip_next
      (zt_next D Z ex ey fun h' Z' p hk => wpAny_pure ?_) (F.args_zip_next_1 _))))
    refine hQ s.heap.objs.size #[xs[i], ys[i]'(hsz ▸ hi)] h' s.toks ⟨_, _, ex, ey, rfl⟩ (Nat.le_refl _) ⟨_, p, rfl, _, rfl⟩ ⟨Z', ?_⟩ fun c o hc e => ?_
    · intro hm
      simp only [List.mem_cons, List.not_mem_nil, or_false] at hm
      obtain ⟨a, b, hO⟩ := Z.hO
      obtain ⟨o1, e1, _⟩ := Z.h1
      obtain ⟨o2, e2, _⟩ := Z.h2
      rcases hm with q | q | q | q
      · exact lt Z.hz q
      · exact lt hO q
      · exact lt e1 q
      · exact lt e2 q
    · simp only [List.mem_cons, List.not_mem_nil, or_false, not_or] at hc
      exact hk c o hc.1 hc.2.1 hc.2.2.1 hc.2.2.2 e
  go := fun elts k pos i T s Q E hm hQ => by
    obtain ⟨⟨hz, hI, ⟨a, b, hO⟩, h1, h2, t1, t2⟩, hT⟩ := hm
    refine wpAny_letOwnedTupleGo_zip hz fun h' hz' hs' => hQ h' ⟨hz', hs'.extBut _ _ D.TIz hI, ⟨a, b, hs'.extBut _ _ D.TOz hO⟩, h1.at fun o => hs'.extBut _ o D.i1z, h2.at fun o => hs'.extBut _ o D.i2z,
      Heap.IsTuple.extBut t1 hs'.extBut D.l1z, Heap.IsTuple.extBut t2 hs'.extBut D.l2z⟩ fun c o hc e => hs'.extBut _ _ (fun q => hc (by simp [q])) e
  apart := fun i T h hm => hm.2
  done := fun s Q E Z hQ => by
    have hT : s.TypeIs (.ref z) "zip" := ⟨_, Z.hz, rfl⟩
    unfold pyNext
    refine wpAny_bind (wpAny_attempt (wpAny_callSpecial?_slot (name := Str.ofString "__next__") hT F.slot_zip_next (wpAny_call_entry F.slot_zip_next hT F.entry_zip_next
      (zt_end hh D Z (Array.getElem?_eq_none (Nat.le_refl _)) fun h' e hk he => ?_) (F.args_zip_next_1 _))))
    obtain ⟨o, eo, ec⟩ := he
    refine wpAny_bind (wpAny_isInstance (T := "StopIteration") (b := true) ⟨o, eo, ec⟩ isSubtype_stop (wpAny_pure (hQ _ s.toks fun c o hc e => ?_)))
    simp only [List.mem_cons, List.not_mem_nil, or_false, not_or] at hc
    exact hk c o hc.1 hc.2.1 hc.2.2.1 hc.2.2.2 e
  self := fun i s Q E Z hQ => wpAny_pyIter_zip Z.hz hQ
abbrev ztO (l : Addr) : Obj := { cls := .type "tuple_iterator", data := .fields #[.ref l, .int 0 0] }
abbrev ztH (h : Heap) (l1 l2 : Addr) : Heap :=
  let h2 := (h.push (ztO l1)).push (ztO l2)
  let h3 := h2.push { cls := .type "tuple", data := .seq #[.ref h.objs.size, .ref (h.push (ztO l1)).objs.size] }
  let h4 := h3.push { cls := .type "tuple", data := .seq #[.none, .none] }
  h4.push { cls := .type "zip", data := .fields #[.none, .bool false, .bool false, .ref h2.objs.size, .ref h3.objs.size] }
theorem meets_zt_new (l1 l2 : Addr) (xs ys : Array Value) :
    Meets (Builtin.«zip.__new__» ⟨[.type "zip", .ref l1, .ref l2], []⟩) (fun _ R s => s.heap.IsTuple l1 xs ∧ s.heap.IsTuple l2 ys ∧
      R (.ok (.ret (.ref (s.heap.objs.size + 4)))) { s with heap := ztH s.heap l1 l2 }) :=
  .of_wp fun prog w A R s h => by
    obtain ⟨hp, g, d, tk, os⟩ := s; obtain ⟨hl1, hl2, h⟩ := h
    have hsub := sub_zip
    have hL1 : Heap.IsTuple (Shared.heap ⟨hp, g, d, tk, os⟩) l1 xs := hl1
    have hL2 : Heap.IsTuple (Shared.heap ⟨hp.push { cls := .type "tuple_iterator", data := .fields #[.ref l1, .int 0 0] }, g, d, tk, os⟩) l2 ys := Heap.IsTuple.push hl2 _
    wp_walk using wpAny_pyIter_tuple hL1, wpAny_pyIter_tuple hL2
    simp only [ztH, Heap.size_push] at h
    simp only [Heap.size_push]
    exact ⟨_, rfl, h⟩
end
end
section
section
variable {prog : Program} {w : World} {A : Around} {E : Value → Shared → Prop} {s : Shared}
theorem call_zt {l1 l2 : Addr} {xs ys : Array Value} {Q : Value → Shared → Prop} (t1 : s.heap.IsTuple l1 xs) (t2 : s.heap.IsTuple l2 ys)
    (h : ∀ h', ZT h' (s.heap.objs.size + 4) (s.heap.objs.size + 2) (s.heap.objs.size + 3) s.heap.objs.size (s.heap.objs.size + 1) l1 l2 xs ys 0 .none → s.heap.StaysIn h' → Q (.ref (s.heap.objs.size + 4)) { s with heap := h' }) :
    wpAny (model prog w) A (call (.type "zip") [.ref l1, .ref l2]) Q E s := by
  refine callType_new F.called_zip (by decide) (F.typeCall_zip_2 _ _) (F.newCall_zip_2 _ _) (fun obj => F.args_object_init_3 obj _ _) F.entry_zip_new (meets_zt_new l1 l2 xs ys) ⟨t1, t2, ?_⟩
  have up : s.heap.StaysIn (ztH s.heap l1 l2) := fun c o e => Heap.get?_push_of_some _ (Heap.get?_push_of_some _ (Heap.get?_push_of_some _ (Heap.get?_push_of_some _ (Heap.get?_push_of_some _ e))))
  have g5 : (ztH s.heap l1 l2).get? _ = some _ := Heap.get?_push_size _ rfl
  have g4 : (ztH s.heap l1 l2).get? _ = some _ := Heap.get?_push_of_some _ (Heap.get?_push_size _ rfl)
  have g3 : (ztH s.heap l1 l2).get? _ = some _ := Heap.get?_push_of_some _ (Heap.get?_push_of_some _ (Heap.get?_push_size _ rfl))
  have g2 : (ztH s.heap l1 l2).get? _ = some _ := Heap.get?_push_of_some _ (Heap.get?_push_of_some _ (Heap.get?_push_of_some _ (Heap.get?_push_size _ rfl)))
  have g1 : (ztH s.heap l1 l2).get? _ = some _ := Heap.get?_push_of_some _ (Heap.get?_push_of_some _ (Heap.get?_push_of_some _ (Heap.get?_push_of_some _ (Heap.get?_push_size _ rfl))))
  simp only [Heap.size_push] at g1 g2 g3 g4 g5
  have g5' : IsZip (ztH s.heap l1 l2) (s.heap.objs.size + 4) (s.heap.objs.size + 2) (s.heap.objs.size + 3) .none := by simpa only [ztH, Heap.size_push] using g5
  have g3' : IsPair (ztH s.heap l1 l2) (s.heap.objs.size + 2) (.ref s.heap.objs.size) (.ref (s.heap.objs.size + 1)) := by simpa only [ztH, Heap.size_push] using g3
  exact ⟨⟨_, g5', rfl⟩, h _ ⟨g5', g3', ⟨_, _, g4⟩, ⟨_, g1, rfl, rfl⟩, ⟨_, g2, rfl, rfl⟩, by obtain ⟨o, e, r⟩ := t1; exact ⟨o, up _ _ e, r⟩, by obtain ⟨o, e, r⟩ := t2; exact ⟨o, up _ _ e, r⟩⟩ up⟩
variable {env : Env} {h₀ : Heap} {body : List Stmt} {Q : Flow → Shared → Prop}
theorem turns_zt {elts : List Expr} {k : Nat} {pos : Pos} {l1 l2 : Addr} {lo1 lo2 : Obj} {xs ys : List Value} {n1 n2 : Nat} {m₀ : Str → Option Value} {news : List (Addr × Obj)}
    (hh : A.handled = none) (F : Fr h₀ env.locals s.heap m₀) (N : News h₀ env.locals s.heap news) (hm1 : (l1, lo1) ∈ news) (hc1 : lo1.cls = .type "tuple") (hd1 : lo1.data = .seq xs.toArray n1) (hm2 : (l2, lo2) ∈ news) (hc2 : lo2.cls = .type "tuple") (hd2 : lo2.data = .seq ys.toArray n2)
    (hlen : xs.length = ys.length)
    (rest₀ : ∀ I : Addr, (∀ p ∈ news, p.1 < I) → ItemsRest prog w A E h₀ env (.Tuple elts k pos) body Q s [(I + 4, "zip"), (I + 2, "tuple"), (I + 3, "tuple"), (I, "tuple_iterator"), (I + 1, "tuple_iterator")] [(l1, lo1), (l2, lo2)] (zipItems xs ys) m₀ news) :
    wpAny (model prog w) A (call (.type "zip") [.ref l1, .ref l2]) (fun xv s₁ => wpAny (model prog w) A (pyIter xv) (fun it s₂ => TurnsAt prog w A h₀ env (.Tuple elts k pos) body Q E it s₂) E s₁) E s := by
  have a1 := N _ hm1
  have a2 := N _ hm2
  have t1 : s.heap.IsTuple l1 xs.toArray := ⟨lo1, a1.1, hc1, n1, hd1⟩
  have t2 : s.heap.IsTuple l2 ys.toArray := ⟨lo2, a2.1, hc2, n2, hd2⟩
  have b1 : l1 < s.heap.objs.size := Heap.lt_size a1.1
  have b2 : l2 < s.heap.objs.size := Heap.lt_size a2.1
  have bL : env.locals < s.heap.objs.size := F.ns.lt
  have D : ZipApart (s.heap.objs.size + 4) (s.heap.objs.size + 2) (s.heap.objs.size + 3) s.heap.objs.size (s.heap.objs.size + 1) l1 l2 := ktu_apart _ _ _ b1 b2
  refine call_zt t1 t2 fun h' Z up => ?_
  refine wpAny_pyIter_zip Z.hz ?_
  refine ktu_core (tk0 := s.toks) (keep := [(l1, lo1), (l2, lo2)]) (KTurns.ofWalksU (zt_walks hh D xs.toArray ys.toArray (by simpa using hlen)).toU) (by simp [zipItems_length, hlen]) ?_ ?_ ?_ ?_ ?_ ?_ ?_ Z (F.keeps up) (N.grown up) (And.intro hm1 (And.intro hm2 trivial)) (rest₀ _ fun p hp => Heap.lt_size (N p hp).1)
  · rintro i v h ⟨T, vals, rfl, ⟨x, y, hx, hy, rfl⟩, hT⟩
    exact ⟨_, zipItems_get xs ys i (x := x) (y := y) (by simpa using hx) (by simpa using hy), T, 0, rfl, hT⟩
  · rintro i h ⟨hz, hI, ⟨a, b, hO⟩, ⟨o1, e1, c1, _⟩, ⟨o2, e2, c2, _⟩, _, _⟩
    obtain ⟨q1, g1, k1⟩ : ∃ o : Obj, h.get? (s.heap.objs.size + 4) = some o ∧ o.cls = .type "zip" := ⟨_, hz, rfl⟩
    obtain ⟨q2, g2, k2⟩ : ∃ o : Obj, h.get? (s.heap.objs.size + 2) = some o ∧ o.cls = .type "tuple" := ⟨_, hI, rfl⟩
    obtain ⟨q3, g3, k3⟩ : ∃ o : Obj, h.get? (s.heap.objs.size + 3) = some o ∧ o.cls = .type "tuple" := ⟨_, hO, rfl⟩
    refine ⟨[(s.heap.objs.size + 4, q1), (s.heap.objs.size + 2, q2), (s.heap.objs.size + 3, q3), (s.heap.objs.size, o1), (s.heap.objs.size + 1, o2)], ⟨⟨rfl, k1⟩, ⟨rfl, k2⟩, ⟨rfl, k3⟩, ⟨rfl, c1⟩, ⟨rfl, c2⟩, trivial⟩, fun p hp => ?_⟩
    simp only [List.mem_cons, List.not_mem_nil, or_false] at hp
    rcases hp with rfl | rfl | rfl | rfl | rfl
    · exact g1
    · exact g2
    · exact g3
    · exact e1
    · exact e2
  · intro b hb
    have hb' : b = s.heap.objs.size + 4 ∨ b = s.heap.objs.size + 2 ∨ b = s.heap.objs.size + 3 ∨ b = s.heap.objs.size ∨ b = s.heap.objs.size + 1 := by simpa using hb
    refine ⟨by simpa using Or.imp_right (Or.imp_right (Or.imp_right (Or.imp_right Or.inl))) hb', ktu_new F ?_⟩
    rcases hb' with rfl | rfl | rfl | rfl | rfl
    all_goals first | exact Nat.le_refl _ | exact Nat.le_add_right _ _
  · intro b hb
    have hb' : b = s.heap.objs.size + 4 ∨ b = s.heap.objs.size + 3 ∨ b = s.heap.objs.size ∨ b = s.heap.objs.size + 1 := by simpa using hb
    rcases hb' with rfl | rfl | rfl | rfl <;> simp
  · intro b hb
    have hb' : b = s.heap.objs.size + 4 ∨ b = s.heap.objs.size + 2 ∨ b = s.heap.objs.size + 3 ∨ b = s.heap.objs.size ∨ b = s.heap.objs.size + 1 ∨ b = l1 ∨ b = l2 := by simpa using hb
    rcases hb' with q | q | q | q | q | q | q
    · exact .inl (by simp [q])
    · exact .inl (by simp [q])
    · exact .inl (by simp [q])
    · exact .inl (by simp [q])
    · exact .inl (by simp [q])
    · exact .inr ⟨lo1, by simp [q]⟩
    · exact .inr ⟨lo2, by simp [q]⟩
  · intro hI'
    have hb' : env.locals = s.heap.objs.size + 4 ∨ env.locals = s.heap.objs.size + 2 ∨ env.locals = s.heap.objs.size + 3 ∨ env.locals = s.heap.objs.size ∨ env.locals = s.heap.objs.size + 1 ∨ env.locals = l1 ∨ env.locals = l2 := by simpa using hI'
    rcases hb' with e | e | e | e | e | e | e
    · exact ktu_ne 4 bL e
    · exact ktu_ne 2 bL e
    · exact ktu_ne 3 bL e
    · exact Nat.ne_of_lt bL e
    · exact ktu_ne 1 bL e
    · exact a1.2.1 e.symm
    · exact a2.2.1 e.symm
  · intro p hp hI'
    have hb' : p.1 = s.heap.objs.size + 4 ∨ p.1 = s.heap.objs.size + 3 ∨ p.1 = s.heap.objs.size ∨ p.1 = s.heap.objs.size + 1 := by simpa using hI'
    have bp := Heap.lt_size (N p hp).1
    rcases hb' with e | e | e | e
    · exact ktu_ne 4 bp e
    · exact ktu_ne 3 bp e
    · exact Nat.ne_of_lt bp e
    · exact ktu_ne 1 bp e
end
end
section
section
variable {prog : Program} {w : World} {A : Around} {E : Value → Shared → Prop} {s : Shared}
theorem sliceApplied_back2 {sl : Addr} {u : Tok} {Q : Int × Int × Nat → Shared → Prop} (hs : s.heap.IsSliceOf sl .none .none (.int (-1) u)) (h : Q (1, -1, 2) s) :
    wpAny (model prog w) A (Builtin.Slice.sliceApplied (.ref sl) (pure 2)) Q E s := by
  obtain ⟨os, e1, _, e3⟩ := id hs
  unfold Builtin.Slice.sliceApplied Builtin.Slice.sliceFields
  refine wpAny_bind (wpAny_bind (wpAny_field e1 e3 (x := .none) rfl (wpAny_bind (wpAny_field e1 e3 (x := .none) rfl (wpAny_bind (wpAny_field e1 e3 (x := .int (-1) u) rfl (wpAny_pure ?_)))))))
  refine wpAny_bind (slicePart_int ?_)
  show wpAny _ _ (if ((-1 : Int) == 0) = true then _ else _) _ _ s
  rw [if_neg (by decide)]
  refine wpAny_bind (slicePart_none (wpAny_bind (slicePart_none (wpAny_bind (wpAny_pure ?_)))))
  exact wpAny_pure h
theorem getItem_back2 {t sl : Addr} {x y : Value} {u : Tok} {Q : Value → Shared → Prop} (ht : IsTup s.heap t #[x, y]) (hs : s.heap.IsSliceOf sl .none .none (.int (-1) u))
    (h : Q (.ref s.heap.objs.size) { s with heap := s.heap.push { cls := .type "tuple", data := .seq #[y, x] } }) : wpAny (model prog w) A (getItem (.ref t) (.ref sl)) Q E s := by
  have hsz : sizeOk (.seq #[y, x]) := by
    show 2 ≤ sizeLine
    rw [sizeLine_eq]; omega
  obtain ⟨os, e1, e2, e3⟩ := id hs
  have hTs : s.TypeIs (.ref sl) "slice" := ⟨os, e1, e2⟩
  unfold getItem
  try with_reducible refine wpAny_holding ?_
  first | refine wpAny_bind (wpAny_pure ?_) | skip
  refine wpAny_bind (wpAny_sequenceKey ht.typeIs (by decide) ?_)
  refine wpAny_bind (wpAny_callSpecial?_slot (name := Str.ofString "__getitem__") ht.typeIs slot_tuple_getitem (wpAny_call_entry slot_tuple_getitem ht.typeIs entry_tuple_getitem ?_ (args_tuple_getitem _ _)))
  show wpAny _ _ (Builtin.Tuple.tupleItemsOf (.ref t) >>= _) _ _ s
  refine wpAny_bind (tupleItemsOf_ ht (wpAny_bind (wpAny_typeOf hTs ?_)))
  rw [if_pos (by decide)]
  refine wpAny_bind (sliceApplied_back2 hs ?_)
  show wpAny _ _ (if ((1 : Int) == 0 && (-1 : Int) == 1 && 2 == (#[x, y] : Array Value).size) = true then _ else _) _ _ s
  rw [if_neg (by simp)]
  have e : ((List.range 2).filterMap fun (k : Nat) => (#[x, y] : Array Value)[((1 : Int) + (k : Int) * -1).toNat]?).toArray = #[y, x] := by rfl
  rw [e]
  first
    | exact wpAny_bind (m := Builtin.Tuple.tupleExact _) (wpAny_newObj_type (wpAny_pure ⟨_, rfl, wpAny_pure h⟩) hsz)
    | exact wpAny_bind (m := Builtin.Tuple.tupleExact _) (wpAny_newObj_type (wpAny_bind (wpAny_pure (wpAny_pure ⟨_, rfl, wpAny_pure h⟩))) hsz)
    | exact wpAny_bind (wpAny_bind (m := Builtin.Tuple.tupleExact _) (wpAny_newObj_type (wpAny_pure (wpAny_pure ⟨_, rfl, wpAny_pure h⟩)) hsz))
    | exact wpAny_bind (wpAny_bind (m := Builtin.Tuple.tupleExact _) (wpAny_newObj_type (wpAny_pure ⟨_, rfl, wpAny_pure h⟩) hsz))
theorem slice_back2 {h₀ h : Heap} {g : Array GenState} {d : Drawn} {tk : Nat} {os : OsState} {L : Addr} {m : Str → Option Value} {news : List (Addr × Obj)} {value slice : Expr} {t : Addr} {x y : Value} {u : Tok} {Q : Value → Shared → Prop}
    (F : Fr h₀ L h m) (N : News h₀ L h news) (ht : IsTup h t #[x, y])
    (hq : ∀ D h', Fr h₀ L h' m → News h₀ L h' ((D, { cls := .type "tuple", data := .seq #[y, x] }) :: news) → (∀ p ∈ news, p.1 < D) → Q (.ref D) ⟨h', g, d, tk, os⟩)
    (hs : subscripted slice false (.ref t) (.ref h.objs.size) = operate [.ref t, .ref h.objs.size] (getItem (.ref t) (.ref h.objs.size)) := by with_unfolding_all rfl)
    (hg : ∀ r, letTemporaryGo value (.ref t) r = pure () := by intro _; with_unfolding_all rfl) :
    wpAny (model prog w) A (subscriptTail value slice (.ref t) (.ref h.objs.size)) Q E ⟨h.push { cls := .type "slice", data := .fields #[.none, .none, .int (-1) u] }, g, d, tk, os⟩ := by
  have ht' : IsTup (h.push { cls := .type "slice", data := .fields #[.none, .none, .int (-1) u] }) t #[x, y] := ht.keeps fun _ _ e => Heap.get?_push_of_some _ e
  refine subscriptTail_ops (s := ⟨h.push { cls := .type "slice", data := .fields #[.none, .none, .int (-1) u] }, g, d, tk, os⟩) ht'.typeIs slot_tuple_getitem.lookup (getItem_back2 ht' (Heap.IsSliceOf.new ..) ?_) hs hg
  have N1 := News.push (F.push { cls := .type "slice", data := .fields #[.none, .none, .int (-1) u] }) (N.grown fun _ _ e => Heap.get?_push_of_some _ e) { cls := .type "tuple", data := .seq #[y, x] }
  exact hq _ _ ((F.push _).push _) N1 fun p hp => Nat.lt_of_lt_of_le (Heap.lt_size (N p hp).1) (by rw [Heap.size_push]; exact Nat.le_succ _)
end
end
local macro_rules | `(tactic| walk_at "exec For Tuple Call cons nil") => `(tactic| (k_here; (rename Fr _ _ _ _ => lF'); (with_unfolding_all refine' For_turns lF' ?_; k_whole)))
local macro_rules | `(tactic| walk_at "call type:zip") => `(tactic| (k_here; (rename Fr _ _ _ _ => lF'); (rename News _ _ _ _ => lN'); (with_unfolding_all refine' turns_zt rfl lF' lN' ?m1 ?c1 ?d1 ?m2 ?c2 ?d2 ?ln ?_); (case m1 => k_mem); (case c1 => rfl); (case d1 => rfl); (case m2 => k_mem); (case c2 => rfl); (case d2 => rfl); (case ln => rfl); clear lF'; intro i' l1; (try k_lt l1); (try k_extra "zipin")))
local macro_rules | `(tactic| walk_at "ite") => `(tactic| (k_here; k_openite; refine ite_neg (by simp only [bne_self_eq_false, Bool.false_eq_true, not_false_eq_true]; done) ?_))
local macro_rules | `(tactic| walk_at "subscriptTail Name Slice ref ref") => `(tactic| (k_here; k_dflt (k_extra "slice")))
section
set_option maxHeartbeats 2000000 in
theorem jr_pc {w mean mg mb} (B l TT LO HI : Addr) (c : Int) (t : Tok) (n : Nat) (vs : List Value) (ns : List Int) (as : List PyData) (a0 a1 a2 a3 : Int) (hi : IntsAre vs ns) (hlen : ns.length ≤ 16) (hc0 : 0 ≤ c) (hc1 : c ≤ 50)
    (hJ : ∀ x ∈ jmenu, JR w mean mg mb as a0 a1 a2 a3 x.1 x.2) :
    MC w mean mg mb 188 [.ref B, .ref TT, .ref LO, .ref HI] 230 B (boxO l c t n) (fun h => h.IsList l vs.toArray ∧ Rd h TT (.tuple as) ∧ Pair h LO a0 a1 ∧ Pair h HI a2 a3) (fun _ _ v o' => v = .bool true ∧ ∃ t' n', o' = boxO l (c + 1) t' n') := by
  k_with_none
  k_with "callpc" => first | ((rename News _ _ _ _ => pN'); refine' mc_useU (take_pc B l _ 4 _ _ _ vs ns ?xa ?xb ?xc hi hlen) ?pF pN' ?pX ?pT ?pU ?pd ?pu ?pp ?_; (case pF => k_asm); (case pX => k_asm); (case pT => k_asm); (case pU => k_updF); (case pd => ((try dsimp only [arnd, Around.deeper]); omega)); (case pu => ((try dsimp only [arnd, Around.deeper]); omega)); (case pp => exact fun h k _ => hL.at fun o => k _ o); (case xa => omega); (case xb => omega); (case xc => omega); clear pN'; intro v' h' tk' o' F' G' r'; obtain ⟨ra, ura, tra, nra, rfl, rfl, hra0, hra1⟩ := r'; have N' := G' [] NewL.nil; (try simp only [List.nil_append] at N'); clear G'; (try k_sweep))| ((rename News _ _ _ _ => pN'); refine' pc_use (cs _) ?pF pN' ?pX ?pT ?pd ?pu ?pp ?_; (case pF => k_asm); (case pX => k_asm); (case pT => k_asm); (case pd => ((try dsimp only [arnd, Around.deeper]); omega)); (case pu => ((try dsimp only [arnd, Around.deeper]); omega)); (case pp => exact rd_two pN' (by k_mem) (by k_mem) (hT.keeps (Fr.keep (by k_asm))) (rd_num pN' (by k_mem))); clear pN'; intro v' h' tk' F' G' st' r'; (obtain ⟨D, D1, D2, t1, t2, u1, u2, rfl, nw'⟩ := r'; have N' := G' _ nw'; (try simp only [List.cons_append, List.nil_append] at N'); clear G' nw'); (try k_sweep))| ((rename News _ _ _ _ => pN'); refine' pc_use (cp _) ?pF pN' ?pX ?pT ?pd ?pu ?pp ?_; (case pF => k_asm); (case pX => k_asm); (case pT => k_asm); (case pd => ((try dsimp only [arnd, Around.deeper]); omega)); (case pu => ((try dsimp only [arnd, Around.deeper]); omega)); (case pp => exact rd_two pN' (by k_mem) (by k_mem) (rd_num pN' (by k_mem)) (hT.keeps (Fr.keep (by k_asm)))); clear pN'; intro v' h' tk' F' G' st' r'; (obtain ⟨D, D1, D2, t1, t2, u1, u2, rfl, nw'⟩ := r'; have N' := G' _ nw'; (try simp only [List.cons_append, List.nil_append] at N'); clear G' nw'); (try k_sweep))
  k_with "sub" => ((rename News _ _ _ _ => mN'); (refine menu_item (B := B) jmenu mN' (by k_mem) (by k_mem) rfl ?ya ?yb ?yc (by decide) ?yd); (case ya => (rintro (_ | _ | _ | _ | i) hi; all_goals first | exact ⟨_, _, _, _, _, rfl, rfl, by k_mem, by omega⟩ | (exfalso; simp at hi; omega))); (case yb => omega); (case yc => (show _ < (4 : Int); omega)); intro R tR uR top bot hr hBR NR; obtain ⟨g0, g1, g2, g3, p0, p1, p2, p3, cs, cp, sE1, sE2, lE, pE⟩ := hJ _ hr; obtain ⟨y1, y2, y3, y4, mm1, mm2, mm3, mm4, mm5⟩ := sE1.ok; obtain ⟨z1, z2, z3, z4, nn1, nn2, nn3, nn4, nn5⟩ := sE2.ok; obtain ⟨e1, e2, ee1, ee2, ee3⟩ := lE.ok; clear mN' sE1 sE2 lE; dsimp only at *)
  k_with "slice" => ((try dsimp only); (rename Fr _ _ _ _ => lF'); (rename News _ _ _ _ => lN'); (with_unfolding_all refine' slice_back2 lF' lN' (News.isTup lN' ?tm) ?_ ?hs ?hg); (case tm => k_mem); (case hs => with_unfolding_all rfl); (case hg => (intro _; with_unfolding_all rfl)); clear lF'; intro D' h' F' N' l1; (try k_lt l1))
  k_with "zipin" => first | (rcases pE with ⟨ht', pe1, pe2⟩ | ⟨ht', pe1, pe2⟩; (case inr => (exfalso; omega)); obtain ⟨v1, v2, v3, qq1, qq2, qq3, qq4⟩ := pe1.ok; obtain ⟨w1, w2, w3, rr1, rr2, rr3, rr4⟩ := pe2.ok) | (rcases pE with ⟨ht', pe1, pe2⟩ | ⟨ht', pe1, pe2⟩; (case inl => (exfalso; omega)); obtain ⟨v1, v2, v3, qq1, qq2, qq3, qq4⟩ := pe1.ok; obtain ⟨w1, w2, w3, rr1, rr2, rr3, rr4⟩ := pe2.ok)
  k_with "mcend" => exact ⟨by first | with_reducible rfl | exact congrArg Value.bool (decide_eq_true (by assumption)), _, _, rfl⟩
  refine' mc_enter (binds := [(Str.ofString "box", .ref B), (Str.ofString "term", .ref TT), (Str.ofString "low", .ref LO), (Str.ofString "high", .ref HI)]) ?k1 ?k2 ?k3 ?k4 ?k5 ?_ ?c2 ?c3 ?c4 ?c5
  case k1 => k_dflt k_is
  case k2 => k_dflt k_is
  case k3 => decide
  case k4 => intro s; exact BindsTo.of_eq rfl
  case k5 => exact locs rfl
  case c2 => exact rfl
  case c3 => exact rfl
  case c4 => exact rfl
  case c5 => decide
  intro dp un fr gd s Q H L h₁ tk F N X T hp hd hu
  try dsimp only
  k_fold
  obtain ⟨hL, hT, hLO, hHI⟩ := hp
  obtain ⟨tl0, tl1, hpLO⟩ := hLO
  obtain ⟨th0, th1, hpHI⟩ := hHI
  repeat' (first | (k_unfold; (try dsimp only)) | walk1 | (dsimp only; walk1) | (dsimp only; k_unfold; (try dsimp only)) | (leave1; walk_say "STEP leave1"; try dsimp only) | fail "no step")
end
section
set_option maxHeartbeats 4000000 in
theorem bends_n {w mean mg mb} (A B : Addr) (as bs : List PyData) (a0 a1 a2 a3 : Int)
    (ca : ∀ A, PC w mean mg mb 141 [.ref A] 210 (fun h => Rd h A (.tuple as)) (fun H h' v => BRes H h' v a0 a1 a2 a3))
    (cb : ∀ A, PC w mean mg mb 141 [.ref A] 210 (fun h => Rd h A (.tuple bs)) (fun _ _ v => v = .none)) :
    PC w mean mg mb 148 [.ref A, .ref B] 220 (fun h => Rd h A (.tuple as) ∧ Rd h B (.tuple bs)) (fun _ _ v => v = .none) := by
  k_with_none
  k_with "callpc" => first | ((rename News _ _ _ _ => pN'); refine' pc_use (ca A) ?pF pN' ?pX ?pT ?pd ?pu ?pp ?_; (case pF => k_asm); (case pX => k_asm); (case pT => k_asm); (case pd => ((try dsimp only [arnd, Around.deeper]); omega)); (case pu => ((try dsimp only [arnd, Around.deeper]); omega)); (case pp => exact hA.keeps (Fr.keep (by k_asm))); clear pN'; intro v' h' tk' F' G' st' r'; rcases r' with r' | r'; (case' inl => (obtain ⟨D, D1, D2, t1, t2, u1, u2, rfl, nw'⟩ := r'; have N' := G' _ nw'; (try simp only [List.cons_append, List.nil_append] at N'); clear G' nw'; (try k_sweep))); (case' inr => (obtain ⟨rfl, hEa⟩ := r'; have N' := G' [] NewL.nil; (try simp only [List.nil_append] at N'); clear G'; (try k_sweep))))| ((rename News _ _ _ _ => pN'); refine' pc_use (cb B) ?pF pN' ?pX ?pT ?pd ?pu ?pp ?_; (case pF => k_asm); (case pX => k_asm); (case pT => k_asm); (case pd => ((try dsimp only [arnd, Around.deeper]); omega)); (case pu => ((try dsimp only [arnd, Around.deeper]); omega)); (case pp => exact hB.keeps (Fr.keep (by k_asm))); clear pN'; intro v' h' tk' F' G' st' r'; (subst r'; have N' := G' [] NewL.nil; clear G'; (try simp only [List.nil_append] at N')); (try k_sweep))
  k_with "pcend" => rfl
  refine' pc_enter (binds := [(Str.ofString "low", .ref A), (Str.ofString "high", .ref B)]) ?k1 ?k2 ?k3 ?k4 ?k5 ?_ ?c2 ?c3 ?c4 ?c5
  case k1 => k_dflt k_is
  case k2 => k_dflt k_is
  case k3 => decide
  case k4 => intro s; exact BindsTo.of_eq rfl
  case k5 => exact locs rfl
  case c2 => exact rfl
  case c3 => exact rfl
  case c4 => exact rfl
  case c5 => decide
  intro dp un fr gd s Q L h₁ tk F N X T hp hd hu
  try dsimp only
  k_fold
  obtain ⟨hA, hB⟩ := hp
  repeat' (first | (k_unfold; (try dsimp only)) | walk1 | (dsimp only; walk1) | (dsimp only; k_unfold; (try dsimp only)) | (leave1; walk_say "STEP leave1"; try dsimp only) | fail "no step")
end
section
theorem PC.up {w : World} {mean : ExcName → Option Value} {mg mb : Str → Option Value} {f : Addr} {vs : List Value} {k k' : Nat} {pre : Heap → Prop} {R : Heap → Heap → Value → Prop} (C : PC w mean mg mb f vs k pre R) (h : k ≤ k') : PC w mean mg mb f vs k' pre R :=
  fun dp un fr gd s Q E X T hd hu hp hret => C dp un fr gd s Q E X T (by omega) (by omega) hp hret
theorem PC.post {w : World} {mean : ExcName → Option Value} {mg mb : Str → Option Value} {f : Addr} {vs : List Value} {k : Nat} {pre : Heap → Prop} {R R' : Heap → Heap → Value → Prop} (C : PC w mean mg mb f vs k pre R) (h : ∀ H h' v, R H h' v → R' H h' v) : PC w mean mg mb f vs k pre R' :=
  fun dp un fr gd s Q E X T hd hu hp hret => C dp un fr gd s Q E X T hd hu hp fun v h' tk st r => hret v h' tk st (h _ _ _ r)
/-- what bounds_of handed back, in one shape: three entries of the ledger tell where it lies -/
theorem bres_uni {w : World} {H h h' : Heap} {L y : Addr} {p : Obj} {news : List (Addr × Obj)} {v : Value} {a0 a1 a2 a3 : Int} (r : BRes h h' v a0 a1 a2 a3) (G : ∀ l, NewL h h' l → News H L h' (l ++ news)) (hy : (y, p) ∈ news) (hp : p.cls = .type "tuple") (X : (hd.heap_39 w.params).In H) :
    ∃ O E1 E2 y1 y2 y3 p1 p2 p3, v = .ref O ∧ News H L h' ((y1, p1) :: (y2, p2) :: (y3, p3) :: news) ∧ (p1.cls = .type "tuple" ∧ p2.cls = .type "tuple" ∧ p3.cls = .type "tuple") ∧
      ∀ h₁, (∀ b o, H.get? b = some o → h₁.get? b = some o) → News H L h₁ [(y1, p1), (y2, p2), (y3, p3)] → IsTup h₁ O #[.ref E1, .ref E2] ∧ Pair h₁ E1 a0 a1 ∧ Pair h₁ E2 a2 a3 := by
  rcases r with ⟨D, D1, D2, t1, t2, u1, u2, rfl, nw⟩ | ⟨rfl, rfl, rfl, rfl, rfl⟩
  · exact ⟨D, D1, D2, D, D1, D2, _, _, _, rfl, G _ nw, ⟨rfl, rfl, rfl⟩, fun h₁ _ N => ⟨News.isTup N (.head _), Pair.ofNews N (.tail _ (.head _)), Pair.ofNews N (.tail _ (.tail _ (.head _)))⟩⟩
  · refine ⟨112, 110, 111, y, y, y, p, p, p, rfl, fun q hq => ?_, ⟨hp, hp, hp⟩, fun h₁ k _ => ⟨IsTup.keeps (e_tup X) k, (e_pair0 X).keeps k, (e_pair1 X).keeps k⟩⟩
    have N := G [] NewL.nil
    rcases List.mem_cons.mp hq with rfl | hq
    · exact N _ hy
    rcases List.mem_cons.mp hq with rfl | hq
    · exact N _ hy
    rcases List.mem_cons.mp hq with rfl | hq
    · exact N _ hy
    · exact N _ hq
theorem loc_uni {w : World} {H : Heap} {l : List (Addr × Obj)} {E y : Addr} {p : Obj} {a b : Int} (x : Loc l E a b) (hy : (y, p) ∈ l) (hp : p.cls = .type "tuple") (X : (hd.heap_39 w.params).In H) :
    ∃ z q, (z, q) ∈ l ∧ q.cls = .type "tuple" ∧ ∀ h₁ L, (∀ b o, H.get? b = some o → h₁.get? b = some o) → News H L h₁ [(z, q)] → Pair h₁ E a b := by
  rcases x with ⟨t, u, e⟩ | x
  · exact ⟨E, _, e, rfl, fun h₁ L _ N => Pair.ofNews N (.head _)⟩
  · exact ⟨y, p, hy, hp, fun h₁ L k _ => (x w H X).keeps k⟩
theorem br2_uni {w : World} {H h h' : Heap} {L : Addr} {news : List (Addr × Obj)} {v : Value} {a0 a1 a2 a3 : Int} (r : BR2 h h' v a0 a1 a2 a3) (G : ∀ l, NewL h h' l → News H L h' (l ++ news)) (X : (hd.heap_39 w.params).In H) :
    ∃ D E1 E2 z1 z2 q1 q2, v = .ref D ∧ News H L h' ((D, ({ cls := .type "tuple", data := .seq #[.ref E1, .ref E2] } : Obj)) :: (z1, q1) :: (z2, q2) :: news) ∧ (q1.cls = .type "tuple" ∧ q2.cls = .type "tuple") ∧
      ∀ h₁, (∀ b o, H.get? b = some o → h₁.get? b = some o) → News H L h₁ [(z1, q1), (z2, q2)] → Pair h₁ E1 a0 a1 ∧ Pair h₁ E2 a2 a3 := by
  obtain ⟨D, E1, E2, l, rfl, nw, x1, x2⟩ := r
  have hD : (D, ({ cls := .type "tuple", data := .seq #[.ref E1, .ref E2] } : Obj)) ∈ (D, ({ cls := .type "tuple", data := .seq #[.ref E1, .ref E2] } : Obj)) :: l := .head _
  obtain ⟨z1, q1, m1, c1, f1⟩ := loc_uni (x1.mono fun p hp => List.mem_cons_of_mem (D, ({ cls := .type "tuple", data := .seq #[.ref E1, .ref E2] } : Obj)) hp) hD rfl X
  obtain ⟨z2, q2, m2, c2, f2⟩ := loc_uni (x2.mono fun p hp => List.mem_cons_of_mem (D, ({ cls := .type "tuple", data := .seq #[.ref E1, .ref E2] } : Obj)) hp) hD rfl X
  have N := G _ nw
  refine ⟨D, E1, E2, z1, z2, q1, q2, rfl, fun q hq => ?_, ⟨c1, c2⟩, fun h₁ k N' => ⟨f1 h₁ L k fun p hp => N' p (by rw [List.mem_singleton.mp hp]; exact .head _), f2 h₁ L k fun p hp => N' p (by rw [List.mem_singleton.mp hp]; exact .tail _ (.head _))⟩⟩
  rcases List.mem_cons.mp hq with rfl | hq
  · exact N _ (.head _)
  rcases List.mem_cons.mp hq with rfl | hq
  · exact N _ (List.mem_append_left _ m1)
  rcases List.mem_cons.mp hq with rfl | hq
  · exact N _ (List.mem_append_left _ m2)
  · exact N _ (List.mem_append_right _ hq)
theorem news_ne {H h : Heap} {L a b : Addr} {o p : Obj} {news : List (Addr × Obj)} (N : News H L h news) (ha : (a, o) ∈ news) (hb : (b, p) ∈ news) (hne : o.cls ≠ p.cls) : a ≠ b := fun e => by
  subst e
  have h1 := (N _ ha).1
  rw [(N _ hb).1] at h1
  exact hne (by cases h1; rfl)
section
variable {prog : Program} {w : World} {A : Around} {E : Value → Shared → Prop} {s : Shared} {H : Heap} {L : Addr} {m : Str → Option Value} {env : Env} {news : List (Addr × Obj)}
/-- [elt for x in list if test], no item passing -/
theorem compNone {elt iter test : Expr} {x : Str} {px : Pos} {scope : Scope} {cl : List (Str × Addr)} {pos : Pos} {Q : Value → Shared → Prop} {l : Addr} {vs : List Value} {n : Nat}
    (F : Fr H L s.heap m) (N : News H L s.heap news) (hm : (l, listOf vs.toArray n) ∈ news) (hh : A.handled = none) (hclos : closureFor scope env = pure cl) (hcell : ∀ y ∈ scope.names, y.2 ≠ .cell) (hkind : scope.kind = .function)
    (hnames : ∀ y ∈ scope.names, y.2 = .local → scope.names.lookup y.1 = some .local) (hx : scope.names.lookup x = some .local)
    (hs0 : ∀ v, foldedSetIterable iter env v = pure v) (hsz : vs.length ≤ sizeLine)
    (h0 : wpAny (model prog w) A (eval iter env) (fun xv s₁ => xv = .ref l ∧ s₁ = s) (fun _ _ => False) s)
    (turn : ∀ (i : Nat) (v : Value) P₁ Is C D h tk mC, vs[i]? = some v → (∀ p ∈ news, p ∈ P₁) → CInv H L m Is C D [] P₁ mC h → mC x = some v →
      wpAny (model prog w) A (isTrue test (compEnvC scope cl C env) (eval test (compEnvC scope cl C env))) (TestEnd s h fun ok _ => ok = false) (fun _ _ => False) { s with heap := h, toks := tk })
    (fin : ∀ D h tk, Fr H L h m → News H L h ((D, lstO []) :: news) → Q (.ref D) { s with heap := h, toks := tk }) :
    wpAny (model prog w) A (eval (.ListComp elt [⟨.Name x px, iter, [test], 0⟩] scope pos) env) Q E s := by
  rw [eval_ListComp]
  refine wpAny_comprehension_free (use := none) rfl hs0 hclos hkind hnames (wpAny_mono h0 (fun xv s₁ h₁ => ?_) fun _ _ f => f.elim)
  obtain ⟨rfl, rfl⟩ := h₁
  have hl : s₁.heap.IsList l vs.toArray := ⟨_, (N _ hm).1, rfl, n, rfl⟩
  have hlt : l < s₁.heap.objs.size := Heap.lt_size (N _ hm).1
  refine wpAny_pyIter_list hl ?_
  have up : s₁.heap.StaysIn (s₁.heap.push { cls := .type "list_iterator", data := .fields #[.ref l, .int 0 0] }) := fun b o e => Heap.get?_push_of_some _ e
  have hnew : (s₁.heap.push { cls := .type "list_iterator", data := .fields #[.ref l, .int 0 0] }).get? s₁.heap.objs.size = some { cls := .type "list_iterator", data := .fields #[.ref l, .int 0 0] } := Heap.get?_push_size _ rfl
  have W := Walks.list (prog := prog) (w := w) hh s₁.heap.objs.size l (Nat.ne_of_lt hlt) vs.toArray
  have hl' := hl.at (h' := s₁.heap.push { cls := .type "list_iterator", data := .fields #[.ref l, .int 0 0] }) fun o e => up _ o e
  refine comp_core (s := { s₁ with heap := _ }) W list_live ⟨⟨_, hnew, rfl, rfl⟩, hl'⟩ (F.keeps up) (N.grown up) (Ne.symm (Nat.ne_of_lt F.ns.lt)) (next_is_new F) (fun p hp => Nat.ne_of_lt (Heap.lt_size (N p hp).1)) hcell hkind ?_
  intro C D h tk mC x₀ st hCf hDf
  refine run0 (s := s₁) W (by rw [List.size_toArray]; exact hsz) (fun _ _ st => by obtain ⟨o, e, _⟩ := st.1; exact ⟨o, e⟩) hCf hDf hkind hx (fun i ys P₁ => ys = [] ∧ ∀ p ∈ news, p ∈ P₁) ?_ ?_ vs.toArray.size 0 [] news h tk mC (by omega) (by simp) ⟨rfl, fun _ h => h⟩ x₀ st
  · rintro i v ys P₁ h' tk' mC' hv _ ⟨rfl, hs⟩ x' hxv
    refine wpAny_tests_one (wpAny_mono (turn i v P₁ _ C D h' tk' mC' (by simpa using hv) hs x' hxv) (fun ok s₂ q => ?_) fun _ _ f => f)
    obtain ⟨h₂, tk₂, l₂, e, st₂, nw, rfl⟩ := q
    exact ⟨h₂, tk₂, l₂, e, st₂, nw, rfl, fun p hp => List.mem_append_right _ (hs p hp)⟩
  · rintro ys P₁ h' tk' mC' ⟨rfl, hs⟩ x'
    exact compEnd rfl x' fun h'' F' N' o' => fin D h'' tk' F' (news_sub N' hs)
end
end
section
structure TOk (w : World) (mean : ExcName → Option Value) (mg mb : Str → Option Value) (as : List PyData) (a0 a1 a2 a3 : Int) (many : Int) (X : Value) (XP : Heap → Prop) : Prop where
  ca : ∀ A, PC w mean mg mb 141 [.ref A] 200 (fun h => Rd h A (.tuple as)) (fun H h' v => BRes H h' v a0 a1 a2 a3)
  bt : ∀ A B tk, PC w mean mg mb 181 [.ref A, .ref B, .int many tk, X] 120 (fun h => Pair h A a0 a1 ∧ Pair h B a2 a3 ∧ XP h) (fun _ _ v => v = .bool true)
  jr : ∀ x ∈ jmenu, JR w mean mg mb as a0 a1 a2 a3 x.1 x.2
  e1 : ∀ A B, PC w mean mg mb 148 [.ref A, .ref B] 220 (fun h => Rd h A (dNum (-4) 1) ∧ Rd h B (.tuple as)) (fun H h' v => BR2 H h' v (-4) 1 a2 a3)
  e2 : ∀ A B, PC w mean mg mb 148 [.ref A, .ref B] 220 (fun h => Rd h A (.tuple as) ∧ Rd h B (dNum 40 1)) (fun H h' v => BR2 H h' v a0 a1 40 1)
  e3 : ∀ A B, PC w mean mg mb 148 [.ref A, .ref B] 220 (fun h => Rd h A (.tuple as) ∧ Rd h B (dSym (Str.ofString "x"))) (fun _ _ v => v = .none)
  n2 : ∀ A, PC w mean mg mb 141 [.ref A] 210 (fun h => Rd h A (dSin (.tuple as))) (fun _ _ v => v = .none)
  n4 : ∀ A, PC w mean mg mb 141 [.ref A] 210 (fun h => Rd h A (dSum (.tuple as) (dSym (Str.ofString "y")))) (fun _ _ v => v = .none)
  n7 : ∀ A, PC w mean mg mb 141 [.ref A] 210 (fun h => Rd h A (dPow (.tuple as) (dNum (-1) 2))) (fun _ _ v => v = .none)
theorem n1_pc {w mean mg mb} (A : Addr) : PC w mean mg mb 141 [.ref A] 210 (fun h => Rd h A (dSym (Str.ofString "x"))) (fun _ _ v => v = .none) := (b_sym A _ (by decide +kernel)).up (by decide)
theorem n3_pc {w mean mg mb} (A : Addr) : PC w mean mg mb 141 [.ref A] 210 (fun h => Rd h A (dPow (dNum (-2) 1) (dNum 1 2))) (fun _ _ v => v = .none) :=
  (b_pown A _ _ (by decide +kernel) fun B E => (rootb_none_b B E (-2) 1 1 2 (by decide)).pre fun _ h => ⟨h.1.num, h.2.num⟩).up (by decide)
theorem n5_pc {w mean mg mb} (A : Addr) : PC w mean mg mb 141 [.ref A] 210 (fun h => Rd h A (dPow (dNum 2 1) (dNum 1 65))) (fun _ _ v => v = .none) :=
  (b_pown A _ _ (by decide +kernel) fun B E => (rootb_none_e B E 2 1 1 65 (by decide) (by decide) (by decide)).pre fun _ h => ⟨h.1.num, h.2.num⟩).up (by decide)
theorem n6_pc {w mean mg mb} (A : Addr) : PC w mean mg mb 141 [.ref A] 210 (fun h => Rd h A (dPow (dNum 2 1) (dSym (Str.ofString "n")))) (fun _ _ v => v = .none) :=
  (b_pown A _ _ (by decide +kernel) fun B E => (rootb_none_c B E 2 1 (Str.ofString "sym") (by decide)).pre fun _ h => ⟨h.1.num, h.2.head⟩).up (by decide)
theorem sub3 {news : List (Addr × Obj)} {a b c : Addr × Obj} (h1 : a ∈ news) (h2 : b ∈ news) (h3 : c ∈ news) : ∀ p ∈ [a, b, c], p ∈ news := by
  intro p hp
  simp only [List.mem_cons, List.not_mem_nil, or_false] at hp
  rcases hp with rfl | rfl | rfl <;> assumption
theorem sub4 {news : List (Addr × Obj)} {a b c d : Addr × Obj} (h1 : a ∈ news) (h2 : b ∈ news) (h3 : c ∈ news) (h4 : d ∈ news) : ∀ p ∈ [a, b, c, d], p ∈ news := by
  intro p hp
  simp only [List.mem_cons, List.not_mem_nil, or_false] at hp
  rcases hp with rfl | rfl | rfl | rfl <;> assumption
theorem sub2 {news : List (Addr × Obj)} {a b : Addr × Obj} (h1 : a ∈ news) (h2 : b ∈ news) : ∀ p ∈ [a, b], p ∈ news := by
  intro p hp
  simp only [List.mem_cons, List.not_mem_nil, or_false] at hp
  rcases hp with rfl | rfl <;> assumption
theorem News.sub {H h : Heap} {L : Addr} {news l : List (Addr × Obj)} (N : News H L h news) (hs : ∀ p ∈ l, p ∈ news) : News H L h l := fun p hp => N p (hs p hp)
theorem News.off {H h0 h : Heap} {L B : Addr} {news l : List (Addr × Obj)} (N : News H L h0 news) (hm : ∀ p ∈ news, p.1 ≠ B → h.get? p.1 = some p.2) (hs : ∀ p ∈ l, p ∈ news) (hn : ∀ p ∈ l, p.1 ≠ B) : News H L h l := fun p hp => ⟨hm p (hs p hp) (hn p hp), (N p (hs p hp)).2⟩
theorem ne3 {B : Addr} {a b c : Addr × Obj} (h1 : @Ne Nat a.1 B) (h2 : @Ne Nat b.1 B) (h3 : @Ne Nat c.1 B) : ∀ p ∈ [a, b, c], p.1 ≠ B := by
  intro p hp
  simp only [List.mem_cons, List.not_mem_nil, or_false] at hp
  rcases hp with rfl | rfl | rfl <;> assumption
theorem ne4 {B : Addr} {a b c d : Addr × Obj} (h1 : @Ne Nat a.1 B) (h2 : @Ne Nat b.1 B) (h3 : @Ne Nat c.1 B) (h4 : @Ne Nat d.1 B) : ∀ p ∈ [a, b, c, d], p.1 ≠ B := by
  intro p hp
  simp only [List.mem_cons, List.not_mem_nil, or_false] at hp
  rcases hp with rfl | rfl | rfl | rfl <;> assumption
theorem rd_pp {H h : Heap} {L D E1 E2 : Addr} {news : List (Addr × Obj)} {a b c d : Int} (N : News H L h news) (hm : (D, ({ cls := .type "tuple", data := .seq #[.ref E1, .ref E2] } : Obj)) ∈ news) (h1 : Pair h E1 a b) (h2 : Pair h E2 c d) :
    ∃ as, Reads h (.ref D) (.tuple [.tuple [.int a, .int b], .tuple [.int c, .int d]]) as := by
  obtain ⟨as, r1⟩ := h1.rd
  obtain ⟨bs, r2⟩ := h2.rd
  exact rd_tuple (vs := [.ref E1, .ref E2]) (N _ hm).1 (.cons r1 (.cons r2 .nil))
theorem shaped_pp {a b c d : Int} : PySem.SeqAt.shaped (.tuple [.tuple [.int a, .int b], .tuple [.int c, .int d]]) = true := by rfl
theorem eqv_pp {a b c d : Int} : PyData.eqv (.tuple [.tuple [.int a, .int b], .tuple [.int c, .int d]]) (.tuple [.tuple [.int a, .int b], .tuple [.int c, .int d]]) = true := by simp [PyData.eqv, PyData.eqvAll]
theorem ne_pp {prog : Program} {w : World} {A : Around} {E : Value → Shared → Prop} {s : Shared} {H : Heap} {L D D' E1 E2 E1' E2' : Addr} {news : List (Addr × Obj)} {a b c d : Int} {Q : Value → Shared → Prop} (N : News H L s.heap news)
    (hm : (D, ({ cls := .type "tuple", data := .seq #[.ref E1, .ref E2] } : Obj)) ∈ news) (hm' : (D', ({ cls := .type "tuple", data := .seq #[.ref E1', .ref E2'] } : Obj)) ∈ news)
    (h1 : Pair s.heap E1 a b) (h2 : Pair s.heap E2 c d) (h3 : Pair s.heap E1' a b) (h4 : Pair s.heap E2' c d) (hu : A.units + 64 < cLine) (h : Q (.bool false) s) : wpAny (model prog w) A (compareOp .NotEq (.ref D) (.ref D')) Q E s := by
  obtain ⟨_, r1⟩ := rd_pp N hm h1 h2
  obtain ⟨_, r2⟩ := rd_pp N hm' h3 h4
  refine PyProof.Rows.ne_dataH r1 r2 shaped_pp shaped_pp hu ?_
  rw [eqv_pp]; exact h
theorem ne_nil {prog : Program} {w : World} {A : Around} {E : Value → Shared → Prop} {s : Shared} {H : Heap} {L D D' : Addr} {n : Nat} {news : List (Addr × Obj)} {Q : Value → Shared → Prop} (N : News H L s.heap news)
    (hm : (D, lstO []) ∈ news) (hm' : (D', listOf #[] n) ∈ news) (hu : A.units + 64 < cLine) (h : Q (.bool false) s) : wpAny (model prog w) A (compareOp .NotEq (.ref D) (.ref D')) Q E s := by
  have r1 : Reads s.heap (.ref D) (.list []) _ := .list (N _ hm).1 rfl rfl .nil
  have r2 : Reads s.heap (.ref D') (.list []) _ := .list (N _ hm').1 rfl rfl .nil
  exact PyProof.Rows.ne_dataH r1 r2 rfl rfl hu h
theorem ne_box {H h : Heap} {L a B l : Addr} {o : Obj} {c : Int} {t : Tok} {n : Nat} {news : List (Addr × Obj)} (N : News H L h news) (hb : (B, boxO l c t n) ∈ news) (ha : (a, o) ∈ news) (hc : o.cls = .type "tuple") : @Ne Nat a B :=
  news_ne N ha hb (by rw [hc]; intro e; simp at e)
theorem rd_sym {H h : Heap} {L T : Addr} {news : List (Addr × Obj)} {t u : Tok} {x : Str} (N : News H L h news) (hm : (T, ({ cls := .type "tuple", data := .seq #[.str (Str.ofString "sym") t, .str x u] } : Obj)) ∈ news) : Rd h T (dSym x) :=
  rd_tuple (vs := [.str (Str.ofString "sym") t, .str x u]) (N _ hm).1 (.cons (.str _ _) (.cons (.str _ _) .nil))
theorem rd_sin {H h : Heap} {L T S A : Addr} {news : List (Addr × Obj)} {t u : Tok} {d : PyData} (N : News H L h news) (hm : (T, ({ cls := .type "tuple", data := .seq #[.str (Str.ofString "call") t, .str (Str.ofString "sin") u, .ref S] } : Obj)) ∈ news) (hs : (S, ({ cls := .type "tuple", data := .seq #[.ref A] } : Obj)) ∈ news) (h1 : Rd h A d) : Rd h T (dSin d) := by
  obtain ⟨as, r1⟩ := h1
  obtain ⟨cs, r3⟩ := rd_tuple (vs := [.ref A]) (N _ hs).1 (.cons r1 .nil)
  exact rd_tuple (vs := [.str (Str.ofString "call") t, .str (Str.ofString "sin") u, .ref S]) (N _ hm).1 (.cons (.str _ _) (.cons (.str _ _) (.cons r3 .nil)))
theorem rd_pow {H h : Heap} {L T A B : Addr} {news : List (Addr × Obj)} {t : Tok} {d1 d2 : PyData} (N : News H L h news) (hm : (T, ({ cls := .type "tuple", data := .seq #[.str (Str.ofString "pow") t, .ref A, .ref B] } : Obj)) ∈ news) (h1 : Rd h A d1) (h2 : Rd h B d2) : Rd h T (dPow d1 d2) := by
  obtain ⟨as, r1⟩ := h1
  obtain ⟨bs, r2⟩ := h2
  exact rd_tuple (vs := [.str (Str.ofString "pow") t, .ref A, .ref B]) (N _ hm).1 (.cons (.str _ _) (.cons r1 (.cons r2 .nil)))
theorem room_d {dp k R : Nat} (h : dp + 300 < R) (hk : k + 1 ≤ 300) : dp + 1 + k < R := by omega
theorem room_u {un k R : Nat} (h : un + 8 * 300 < R) (hk : k + 1 ≤ 300) : un + 3 + 8 * k < R := by omega
theorem sub6 {news : List (Addr × Obj)} {a b c d e f : Addr × Obj} (h1 : a ∈ news) (h2 : b ∈ news) (h3 : c ∈ news) (h4 : d ∈ news) (h5 : e ∈ news) (h6 : f ∈ news) : ∀ p ∈ [a, b, c, d, e, f], p ∈ news := by
  intro p hp
  simp only [List.mem_cons, List.not_mem_nil, or_false] at hp
  rcases hp with rfl | rfl | rfl | rfl | rfl | rfl <;> assumption
end
section
def sz4B (a b c d : Int) : Bool := szB a && szB b && szB c && szB d
theorem sz4B_ok {a b c d : Int} (h : sz4B a b c d = true) : Sz4 a b c d := by
  simp only [sz4B, Bool.and_eq_true] at h
  exact ⟨szB_sz h.1.1.1, szB_sz h.1.1.2, szB_sz h.1.2, szB_sz h.2⟩
def mulB (a b : Int) : Bool := szB a && szB b
theorem mulB_ok {a b : Int} (h : mulB a b = true) : MulIs a b (a * b) := by
  simp only [mulB, Bool.and_eq_true] at h
  exact ⟨rfl, Sz.mul (szB_sz h.1) (szB_sz h.2)⟩
def powB (a k : Int) : Bool := decide (0 ≤ k) && decide ((Builtin.Int.intBits a : Int) * k ≤ 2 ^ 27)
theorem powB_ok {a k : Int} (h : powB a k = true) : PowIs a k (a ^ k.toNat) := by
  simp only [powB, Bool.and_eq_true, decide_eq_true_eq] at h
  exact ⟨h.1, rfl, h.2⟩
def btB (l0 l1 h0 h1 k p q : Int) : Bool :=
  mulB h0 l1 && mulB l0 h1 && powB 10 12 && mulB (h0 * l1 - l0 * h1) (10 ^ Int.toNat 12) && mulB l1 h1 && decide ((h0 * l1 - l0 * h1) * 10 ^ Int.toNat 12 ≤ l1 * h1) && decide (0 < k) &&
  powB l0 k && powB l1 k && powB h1 k && powB h0 k && mulB (l0 ^ k.toNat) q && mulB p (l1 ^ k.toNat) && decide (l0 ^ k.toNat * q ≤ p * l1 ^ k.toNat) && mulB p (h1 ^ k.toNat) && mulB (h0 ^ k.toNat) q && decide (p * h1 ^ k.toNat ≤ h0 ^ k.toNat * q) &&
  (decide (1 < k) || (decide (l0 = h0) && decide (l1 = h1)))
theorem bt_of {w mean mg mb} {l0 l1 h0 h1 k p q : Int} (h : btB l0 l1 h0 h1 k p q = true) (A B C : Addr) (tk : Tok) :
    PC w mean mg mb 181 [.ref A, .ref B, .int k tk, .ref C] 120 (fun h => Pair h A l0 l1 ∧ Pair h B h0 h1 ∧ Pair h C p q) (fun _ _ v => v = .bool true) := by
  simp only [btB, Bool.and_eq_true, Bool.or_eq_true, decide_eq_true_eq] at h
  obtain ⟨⟨⟨⟨⟨⟨⟨⟨⟨⟨⟨⟨⟨⟨⟨⟨⟨a1, a2⟩, a3⟩, a4⟩, a5⟩, a6⟩, a7⟩, a8⟩, a9⟩, a10⟩, a11⟩, a12⟩, a13⟩, a14⟩, a15⟩, a16⟩, a17⟩, a18⟩ := h
  exact btw_pc A B C l0 l1 h0 h1 k p q _ _ _ _ _ _ _ _ _ _ _ _ _ tk (mulB_ok a1) (mulB_ok a2) (powB_ok a3) (mulB_ok a4) (mulB_ok a5) a6 a7 (powB_ok a8) (powB_ok a9) (powB_ok a10) (powB_ok a11) (mulB_ok a12) (mulB_ok a13) a14 (mulB_ok a15) (mulB_ok a16) a17 (fun hk => a18.resolve_left hk)
def sumEqB (g0 g1 a0 a1 top bot : Int) : Bool :=
  szB g0 && szB g1 && szB a0 && szB a1 && mulB g0 a1 && mulB (g0 * a1) bot && mulB a0 bot && mulB top a1 && mulB (a0 * bot + top * a1) g1 && decide ((a0 * bot + top * a1) * g1 = g0 * a1 * bot)
theorem sumEqB_ok {g0 g1 a0 a1 top bot : Int} (h : sumEqB g0 g1 a0 a1 top bot = true) : SumEq g0 g1 a0 a1 top bot := by
  simp only [sumEqB, Bool.and_eq_true, decide_eq_true_eq] at h
  obtain ⟨⟨⟨⟨⟨⟨⟨⟨⟨b1, b2⟩, b3⟩, b4⟩, b5⟩, b6⟩, b7⟩, b8⟩, b9⟩, b10⟩ := h
  exact ⟨szB_sz b1, szB_sz b2, szB_sz b3, szB_sz b4, _, _, _, _, mulB_ok b5, mulB_ok b6, mulB_ok b7, mulB_ok b8, ⟨b10, (mulB_ok b9).ok⟩⟩
def prodEqB (g0 g1 a0 a1 top bot : Int) : Bool := mulB g0 a1 && mulB (g0 * a1) bot && mulB a0 top && mulB (a0 * top) g1 && decide (a0 * top * g1 = g0 * a1 * bot)
theorem prodEqB_ok {g0 g1 a0 a1 top bot : Int} (h : prodEqB g0 g1 a0 a1 top bot = true) : ProdEq g0 g1 a0 a1 top bot := by
  simp only [prodEqB, Bool.and_eq_true, decide_eq_true_eq] at h
  obtain ⟨⟨⟨⟨b1, b2⟩, b3⟩, b4⟩, b5⟩ := h
  exact ⟨_, _, _, mulB_ok b1, mulB_ok b2, mulB_ok b3, ⟨b5, (mulB_ok b4).ok⟩⟩
def leEqB (p0 p1 p2 p3 : Int) : Bool := mulB p0 p3 && mulB p2 p1 && decide (p0 * p3 ≤ p2 * p1)
theorem leEqB_ok {p0 p1 p2 p3 : Int} (h : leEqB p0 p1 p2 p3 = true) : LeEq p0 p1 p2 p3 := by
  simp only [leEqB, Bool.and_eq_true, decide_eq_true_eq] at h
  exact ⟨_, _, mulB_ok h.1.1, mulB_ok h.1.2, h.2⟩
def joinB (a0 a1 a2 a3 b0 b1 b2 b3 : Int) : Bool := sz4B a0 a1 a2 a3 && sz4B b0 b1 b2 b3 && decide (a1 * b1 ≠ 0) && decide (a3 * b3 ≠ 0)
theorem joinB_ok {w mean mg mb} {a0 a1 a2 a3 b0 b1 b2 b3 : Int} (h : joinB a0 a1 a2 a3 b0 b1 b2 b3 = true) (t : Tok) (O P : Addr) :
    PC w mean mg mb 134 [.str (Str.ofString "sum") t, .ref O, .ref P] 160 (fun h => BoundsAt h O a0 a1 a2 a3 ∧ BoundsAt h P b0 b1 b2 b3) (fun H h' v => PairOf H h' v (addP a0 a1 b0 b1) (addQ a0 a1 b0 b1) (addP a2 a3 b2 b3) (addQ a2 a3 b2 b3)) := by
  simp only [joinB, Bool.and_eq_true, decide_eq_true_eq] at h
  exact join_sum t O P a0 a1 a2 a3 b0 b1 b2 b3 (sz4B_ok h.1.1.1) (sz4B_ok h.1.1.2) h.1.2 h.2
def joinPB (a0 a1 a2 a3 b0 b1 b2 b3 : Int) : Bool :=
  sz4B a0 a1 a2 a3 && sz4B b0 b1 b2 b3 && decide (a1 * b1 ≠ 0) && decide (a1 * b3 ≠ 0) && decide (a3 * b1 ≠ 0) && decide (a3 * b3 ≠ 0) && (prodsTo (a0, a1) (a2, a3) (b0, b1) (b2, b3) 2 0).all fun x => szB x.1 && szB x.2
theorem joinPB_ok {w mean mg mb} {a0 a1 a2 a3 b0 b1 b2 b3 : Int} (h : joinPB a0 a1 a2 a3 b0 b1 b2 b3 = true) (t : Tok) (O P : Addr) :
    PC w mean mg mb 134 [.str (Str.ofString "prod") t, .ref O, .ref P] 160 (fun h => BoundsAt h O a0 a1 a2 a3 ∧ BoundsAt h P b0 b1 b2 b3)
      (fun H h' v => PairOf H h' v (joinP (a0, a1) (a2, a3) (b0, b1) (b2, b3)).1.1 (joinP (a0, a1) (a2, a3) (b0, b1) (b2, b3)).1.2 (joinP (a0, a1) (a2, a3) (b0, b1) (b2, b3)).2.1 (joinP (a0, a1) (a2, a3) (b0, b1) (b2, b3)).2.2) := by
  simp only [joinPB, Bool.and_eq_true, decide_eq_true_eq, List.all_eq_true] at h
  obtain ⟨⟨⟨⟨⟨⟨h1, h2⟩, h3⟩, h4⟩, h5⟩, h6⟩, h7⟩ := h
  exact join_prod t O P a0 a1 a2 a3 b0 b1 b2 b3 (sz4B_ok h1) (sz4B_ok h2) h3 h4 h5 h6 fun x hx => ⟨szB_sz (h7 x hx).1, szB_sz (h7 x hx).2⟩
abbrev q4 (V : V2 × V2) (f : Int → Int → Int → Int → Bool) : Bool := f V.1.1 V.1.2 V.2.1 V.2.2
abbrev fS (a0 a1 a2 a3 : Int) : V2 × V2 := ((addP 0 1 a0 a1, addQ 0 1 a0 a1), (addP 0 1 a2 a3, addQ 0 1 a2 a3))
abbrev gS (a0 a1 a2 a3 top bot : Int) : V2 × V2 := ((addP (fS a0 a1 a2 a3).1.1 (fS a0 a1 a2 a3).1.2 top bot, addQ (fS a0 a1 a2 a3).1.1 (fS a0 a1 a2 a3).1.2 top bot), (addP (fS a0 a1 a2 a3).2.1 (fS a0 a1 a2 a3).2.2 top bot, addQ (fS a0 a1 a2 a3).2.1 (fS a0 a1 a2 a3).2.2 top bot))
abbrev fP (top bot : Int) : V2 × V2 := joinP (1, 1) (1, 1) (top, bot) (top, bot)
abbrev gP (a0 a1 a2 a3 top bot : Int) : V2 × V2 := joinP ((fP top bot).1.1, (fP top bot).1.2) ((fP top bot).2.1, (fP top bot).2.2) (a0, a1) (a2, a3)
def jrB (d : PyData) (a0 a1 a2 a3 top bot : Int) : Bool :=
  PySem.SeqAt.shaped (dSum d (dNum top bot)) && PySem.SeqAt.shaped (dProd (dNum top bot) d) && joinB 0 1 0 1 a0 a1 a2 a3 && joinB (fS a0 a1 a2 a3).1.1 (fS a0 a1 a2 a3).1.2 (fS a0 a1 a2 a3).2.1 (fS a0 a1 a2 a3).2.2 top bot top bot &&
  joinPB 1 1 1 1 top bot top bot && joinPB (fP top bot).1.1 (fP top bot).1.2 (fP top bot).2.1 (fP top bot).2.2 a0 a1 a2 a3 &&
  sumEqB (gS a0 a1 a2 a3 top bot).1.1 (gS a0 a1 a2 a3 top bot).1.2 a0 a1 top bot && sumEqB (gS a0 a1 a2 a3 top bot).2.1 (gS a0 a1 a2 a3 top bot).2.2 a2 a3 top bot &&
  leEqB (gP a0 a1 a2 a3 top bot).1.1 (gP a0 a1 a2 a3 top bot).1.2 (gP a0 a1 a2 a3 top bot).2.1 (gP a0 a1 a2 a3 top bot).2.2 &&
  ((decide (0 < top) && prodEqB (gP a0 a1 a2 a3 top bot).1.1 (gP a0 a1 a2 a3 top bot).1.2 a0 a1 top bot && prodEqB (gP a0 a1 a2 a3 top bot).2.1 (gP a0 a1 a2 a3 top bot).2.2 a2 a3 top bot) ||
   (decide (top < 0) && prodEqB (gP a0 a1 a2 a3 top bot).2.1 (gP a0 a1 a2 a3 top bot).2.2 a0 a1 top bot && prodEqB (gP a0 a1 a2 a3 top bot).1.1 (gP a0 a1 a2 a3 top bot).1.2 a2 a3 top bot))
theorem num_b {w mean mg mb} (p q : Int) (A : Addr) : PC w mean mg mb 141 [.ref A] 200 (fun h => Rd h A (dNum p q)) (fun H h' v => BRes H h' v p q p q) := (b_num A p q).post fun _ _ _ r => .inl r
theorem jr_of {w mean mg mb} {as : List PyData} {a0 a1 a2 a3 top bot : Int} (ca : ∀ A, PC w mean mg mb 141 [.ref A] 200 (fun h => Rd h A (.tuple as)) (fun H h' v => BRes H h' v a0 a1 a2 a3)) (h : jrB (.tuple as) a0 a1 a2 a3 top bot = true) :
    JR w mean mg mb as a0 a1 a2 a3 top bot := by
  simp only [jrB, Bool.and_eq_true, Bool.or_eq_true, decide_eq_true_eq] at h
  obtain ⟨⟨⟨⟨⟨⟨⟨⟨⟨h1, h2⟩, h3⟩, h4⟩, h5⟩, h6⟩, h7⟩, h8⟩, h9⟩, h10⟩ := h
  refine ⟨_, _, _, _, _, _, _, _, fun A => b_sum A as _ a0 a1 a2 a3 top bot top bot _ _ _ _ _ _ _ _ h1 ca (num_b top bot) (fun t O P => joinB_ok h3 t O P) (fun t O P => joinB_ok h4 t O P),
    fun A => b_prod A _ as top bot top bot a0 a1 a2 a3 _ _ _ _ _ _ _ _ h2 (num_b top bot) ca (fun t O P => joinPB_ok h5 t O P) (fun t O P => joinPB_ok h6 t O P), sumEqB_ok h7, sumEqB_ok h8, leEqB_ok h9, ?_⟩
  rcases h10 with ⟨⟨x, y⟩, z⟩ | ⟨⟨x, y⟩, z⟩
  · exact .inl ⟨x, prodEqB_ok y, prodEqB_ok z⟩
  · exact .inr ⟨x, prodEqB_ok y, prodEqB_ok z⟩
def tokB (d : PyData) (a0 a1 a2 a3 : Int) : Bool :=
  (jmenu.all fun x => jrB d a0 a1 a2 a3 x.1 x.2) && sz4B a0 a1 a2 a3 && decide (endsP (-4, 1) (-4, 1) (a0, a1) (a2, a3) = ((-4, 1), (a2, a3))) && decide (endsP (a0, a1) (a2, a3) (40, 1) (40, 1) = ((a0, a1), (40, 1))) &&
  PySem.SeqAt.shaped (dSin d) && PySem.SeqAt.shaped (dSum d (dSym (Str.ofString "y"))) && PySem.SeqAt.shaped (dPow d (dNum (-1) 2)) && joinB 0 1 0 1 a0 a1 a2 a3
theorem tok_of {w mean mg mb} {as : List PyData} {a0 a1 a2 a3 many : Int} {V : Value} {XP : Heap → Prop}
    (ca : ∀ A, PC w mean mg mb 141 [.ref A] 200 (fun h => Rd h A (.tuple as)) (fun H h' v => BRes H h' v a0 a1 a2 a3))
    (bt : ∀ A B tk, PC w mean mg mb 181 [.ref A, .ref B, .int many tk, V] 120 (fun h => Pair h A a0 a1 ∧ Pair h B a2 a3 ∧ XP h) (fun _ _ v => v = .bool true))
    (nr : ∀ B E, PC w mean mg mb 129 [.ref B, .ref E] 20 (fun h => Rd h B (.tuple as) ∧ Rd h E (dNum (-1) 2)) (fun _ _ v => v = .none))
    (h : tokB (.tuple as) a0 a1 a2 a3 = true) : TOk w mean mg mb as a0 a1 a2 a3 many V XP := by
  simp only [tokB, Bool.and_eq_true, decide_eq_true_eq, List.all_eq_true] at h
  obtain ⟨⟨⟨⟨⟨⟨⟨h1, h2⟩, h3⟩, h4⟩, h5⟩, h6⟩, h7⟩, h8⟩ := h
  have ca' := fun A => (ca A).up (k' := 210) (by decide)
  refine ⟨ca, bt, fun x hx => jr_of ca (h1 x hx), fun A B => ?_, fun A B => ?_, fun A B => bends_n A B as _ a0 a1 a2 a3 ca' (fun A => (b_sym A _ (by decide +kernel)).up (by decide)), fun A => (b_sin A _ h5).up (by decide),
    fun A => b_sum_n A as _ a0 a1 a2 a3 _ _ _ _ h6 ca (fun A => b_sym A _ (by decide +kernel)) (fun t O P => joinB_ok h8 t O P), fun A => (b_pown A as _ h7 nr).up (by decide)⟩
  · have e := bends (w := w) (mean := mean) (mg := mg) (mb := mb) A B _ as (-4) 1 (-4) 1 a0 a1 a2 a3 (by unfold Sz4 Sz; decide) (sz4B_ok h2) (fun A => (num_b (-4) 1 A).up (by decide)) ca'
    rw [h3] at e
    exact e
  · have e := bends (w := w) (mean := mean) (mg := mg) (mb := mb) A B as _ a0 a1 a2 a3 40 1 40 1 (sz4B_ok h2) (by unfold Sz4 Sz; decide) ca' (fun A => (num_b 40 1 A).up (by decide))
    rw [h4] at e
    exact e
end
section
/-- the floor of the k-th root -/
def rootC (n k : Int) : Int := (List.range 50).foldl (fun r i => if (r + 2 ^ (49 - i)) ^ k.toNat ≤ n then r + 2 ^ (49 - i) else r) 0
theorem pow_up {a b : Int} (h0 : 0 ≤ a) (h : a ≤ b) : ∀ n : Nat, a ^ n ≤ b ^ n
  | 0 => by simp
  | n + 1 => by
    rw [Int.pow_succ, Int.pow_succ]
    exact Int.mul_le_mul (pow_up h0 h n) h h0 (Int.pow_nonneg (Int.le_trans h0 h))
theorem root_one {n k r s : Int} (h1 : IsRoot n k r) (h2 : IsRoot n k s) : r = s := by
  obtain ⟨a1, b1, c1⟩ := h1
  obtain ⟨a2, b2, c2⟩ := h2
  rcases Int.lt_trichotomy r s with h | h | h
  · have := pow_up (show 0 ≤ r + 1 by omega) (show r + 1 ≤ s by omega) k.toNat
    omega
  · exact h
  · have := pow_up (show 0 ≤ s + 1 by omega) (show s + 1 ≤ r by omega) k.toNat
    omega
abbrev S12 : Int := 1000000000000
def powOkB (p q a k r : Int) : Bool :=
  decide (0 < p) && decide (0 < a) && decide (1 ≤ k) && decide (k ≤ 64) && decide (q ^ a.toNat ≠ 0) && decide ((Builtin.Int.intBits p : Int) * a ≤ 2 ^ 27) && decide ((Builtin.Int.intBits q : Int) * a ≤ 2 ^ 27) && mulB (p ^ a.toNat) (S12 ^ k.toNat) &&
  decide (0 ≤ rootN p q a k) && szB (rootN p q a k) && decide (0 ≤ r) && decide (r ^ k.toNat ≤ rootN p q a k) && decide (rootN p q a k < (r + 1) ^ k.toNat)
theorem pow_ca {w mean mg mb} {p q a k r : Int} (h : powOkB p q a k r = true) (A : Addr) : PC w mean mg mb 141 [.ref A] 200 (fun h => Rd h A (dPow (dNum p q) (dNum a k))) (fun H h' v => BRes H h' v (ratP r S12) (ratQ r S12) (ratP (r + 1) S12) (ratQ (r + 1) S12)) := by
  simp only [powOkB, Bool.and_eq_true, decide_eq_true_eq] at h
  obtain ⟨⟨⟨⟨⟨⟨⟨⟨⟨⟨⟨⟨h1, h2⟩, h3⟩, h4⟩, h5⟩, h6⟩, h7⟩, h8⟩, h9⟩, h10⟩, h11⟩, h12⟩, h13⟩ := h
  refine (b_pow A p q a k h1 h2 h3 h4 h5 h6 h7 (mulB_ok h8).ok h9 (szB_sz h10)).post ?_
  rintro H h' v ⟨s, hs, x⟩
  rw [root_one hs ⟨h11, h12, h13⟩] at x
  exact .inl x
def numAll : Bool := ratios.all fun x => tokB (dNum x.1 x.2) x.1 x.2 x.1 x.2 && btB x.1 x.2 x.1 x.2 1 x.1 x.2 && decide (0 < x.1)
theorem num_all : numAll = true := by decide +kernel
def powOne (p q a k r : Int) : Bool := powOkB p q a k r && tokB (dPow (dNum p q) (dNum a k)) (ratP r S12) (ratQ r S12) (ratP (r + 1) S12) (ratQ (r + 1) S12) && btB (ratP r S12) (ratQ r S12) (ratP (r + 1) S12) (ratQ (r + 1) S12) k (p ^ a.toNat) (q ^ a.toNat)
def powAll : Bool := ratios.all fun x => exps.all fun y => powOne x.1 x.2 y.1 y.2 (rootC (rootN x.1 x.2 y.1 y.2) y.2)
theorem pow_all : powAll = true := by decide +kernel
theorem exp_all : tokB dExp eA eB eC eB = true := by decide +kernel
theorem shape_ok {w : World} {mean : ExcName → Option Value} {mg mb : Str → Option Value} {l : List (Addr × Obj)} {d : PyData} {many : Int} {V : Value} (sh : Shape l d many V) :
    ∃ as a0 a1 a2 a3 XP, d = .tuple as ∧ TOk w mean mg mb as a0 a1 a2 a3 many V XP ∧ ∀ H h L news, News H L h news → (∀ p ∈ l, p ∈ news) → XP h := by
  cases sh with
  | num p q R t u hr hm =>
    have h := List.all_eq_true.mp num_all (p, q) hr
    simp only [Bool.and_eq_true, decide_eq_true_eq] at h
    exact ⟨_, p, q, p, q, fun h => Pair h R p q, rfl, tok_of (num_b p q) (fun A B tk => bt_of h.1.2 A B R tk) (fun B E => (rootb_none_d B E p q (-1) 2 h.2 (by decide)).pre fun _ x => ⟨x.1.num, x.2.num⟩) h.1.1, fun _ _ _ _ N hs => Pair.ofNews N (hs _ hm)⟩
  | pow p q a k R t u hr hk hm =>
    have h := List.all_eq_true.mp (List.all_eq_true.mp pow_all (p, q) hr) (a, many) hk
    simp only [powOne, Bool.and_eq_true] at h
    exact ⟨_, _, _, _, _, fun h => Pair h R (p ^ a.toNat) (q ^ a.toNat), rfl, tok_of (pow_ca h.1.1) (fun A B tk => bt_of h.2 A B R tk) (fun B E => (rootb_none_a B (.ref E) (Str.ofString "pow") (by decide)).pre fun _ x => x.1.head) h.1.2, fun _ _ _ _ N hs => Pair.ofNews N (hs _ hm)⟩
  | exp =>
    exact ⟨_, eA, eB, eC, eB, fun _ => True, rfl, tok_of (fun A => (b_exp A).post fun _ _ _ r => .inr ⟨r, rfl, rfl, rfl, rfl⟩) (fun A B tk => (btw_exp A B tk).pre fun _ x => ⟨x.1, x.2.1⟩) (fun B E => (rootb_none_a B (.ref E) (Str.ofString "call") (by decide)).pre fun _ x => x.1.head) exp_all, fun _ _ _ _ _ _ => trivial⟩
theorem shape_okX {w : World} {mean : ExcName → Option Value} {mg mb : Str → Option Value} {H : Heap} {l : List (Addr × Obj)} {d : PyData} {many : Int} {V : Value} (_X : (hd.heap_39 w.params).In H) (_T : TopH mean mg mb H) (sh : Shape l d many V) :
    ∃ as a0 a1 a2 a3 XP, d = .tuple as ∧ TOk w mean mg mb as a0 a1 a2 a3 many V XP ∧ ∀ H h L news, News H L h news → (∀ p ∈ l, p ∈ news) → XP h := shape_ok sh
end
section
theorem law_good {cl : Str → Option Addr} {mean : ExcName → Option Value} {args : List WData} {s₁ s' : Shared} {L : Addr} {m : Str → Option Value} (F : Fr s₁.heap L s'.heap m) (hg : s'.gens = #[]) (hos : s'.os = s₁.os) :
    GoodW PySem.Challenge.rw_pq0187_01.row.claim cl mean args s₁ (.ok (.ret (.bool true))) s' :=
  goodW_bool F hg (fun cls => rfl) (by wrow_post) hos
def LawEnd (s₁ : Shared) (L : Addr) (fl : Flow) (s' : Shared) : Prop := ∃ h' tk m, fl = .ret (.bool true) ∧ s' = { s₁ with heap := h', toks := tk } ∧ Fr s₁.heap L h' m
theorem law_enter {M : Model} {A : Around} {t : Sem Flow} {Q : Flow → Shared → Prop} {E : Value → Shared → Prop} {s₁ : Shared} {h₁ : Heap} {tk : Nat} {L : Addr} {m : Str → Option Value} (_F : Fr s₁.heap L h₁ m)
    (hQ : ∀ h' tk' m', Fr s₁.heap L h' m' → Q (.ret (.bool true)) { s₁ with heap := h', toks := tk' }) (h : wpAny M A t (LawEnd s₁ L) (fun _ _ => False) { s₁ with heap := h₁, toks := tk }) : wpAny M A t Q E { s₁ with heap := h₁, toks := tk } :=
  wpAny_mono h (fun fl s' q => by obtain ⟨h', tk', m', rfl, rfl, F'⟩ := q; exact hQ h' tk' m' F') fun _ _ f => f.elim
end
local macro_rules | `(tactic| walk_at "compareOp NotEq ref ref") => `(tactic| (k_here; k_dflt (k_extra "neq")))
local macro_rules | `(tactic| walk_at "TestEnd") => `(tactic| (k_dflt (k_extra "testend")))
local macro_rules | `(tactic| walk_at "ite") => `(tactic| (k_here; first | refine ite_neg (by decide) ?_ | refine ite_pos (by decide) ?_))
section
set_option maxHeartbeats 8000000 in
theorem law_holds : PySem.Challenge.rw_pq0187_01.Holds := hd (by rfl) (by rfl) (by rfl) (by
  k_with_none
  k_go0
  rename Top _ _ _ _ _ _ => T
  rename Frag.In _ _ => X
  rename IntsAre _ _ => hI
  rename Heap.IsList _ _ _ => hL
  rename Fr _ _ _ _ => F
  rename News _ _ _ _ => N
  obtain ⟨dp, un, fr, gd, eA, hd, hu⟩ : ∃ dp un fr gd, callerA = arnd dp un fr gd ∧ dp + 300 < recursionLimit ∧ un + 8 * 300 < cLine := ⟨_, _, _, _, rfl, by decide, by decide⟩
  rw [eA]
  refine law_enter F (fun h' tk' m' F' => law_good F' (by assumption) rfl) ?_
  clear eA
  try k_fold
  k_with "nm" => (refine wpAny_Name (wpAny_loadName_local rfl rfl x.hC hxv ?_) (by decide))
  k_with "neq" => first | ((with_reducible show wpAny _ _ (compareOp _ (Value.ref D2) _) _ _ _); (rename News _ _ _ _ => pN'); refine ne_pp pN' (D := D2) (by k_mem) (by k_mem) (hV _ (Fr.keep (by k_asm)) (News.sub pN' (sub2 (by k_mem) (by k_mem)))).1 (hV _ (Fr.keep (by k_asm)) (News.sub pN' (sub2 (by k_mem) (by k_mem)))).2 (Pair.ofNews pN' (by k_mem)) (hU _ (Fr.keep (by k_asm)) (News.sub pN' (sub3 (by k_mem) (by k_mem) (by k_mem)))).2.2 (by (try dsimp only [arnd, Around.deeper]); omega) ?_) | ((with_reducible show wpAny _ _ (compareOp _ (Value.ref D3) _) _ _ _); (rename News _ _ _ _ => pN'); refine ne_pp pN' (D := D3) (by k_mem) (by k_mem) (hW _ (Fr.keep (by k_asm)) (News.sub pN' (sub2 (by k_mem) (by k_mem)))).1 (hW _ (Fr.keep (by k_asm)) (News.sub pN' (sub2 (by k_mem) (by k_mem)))).2 (hU _ (Fr.keep (by k_asm)) (News.sub pN' (sub3 (by k_mem) (by k_mem) (by k_mem)))).2.1 (Pair.ofNews pN' (by k_mem)) (by (try dsimp only [arnd, Around.deeper]); omega) ?_; have sN' := News.sub (l := [(TT, oT), (x1, o1), (x2, o2), (x3, o3), (BX, boxO LB (c + 1) tc nc), (LB, W.listOf ws.toArray cB)]) pN' (sub6 (by k_mem) (by k_mem) (by k_mem) (by k_mem) (by k_mem) (by k_mem)); clear pN' hU hV hW) | ((with_reducible show wpAny _ _ (compareOp _ (Value.ref DL) _) _ _ _); (rename News _ _ _ _ => pN'); refine ne_nil pN' (by k_mem) (by k_mem) (by (try dsimp only [arnd, Around.deeper]); omega) ?_)
  k_with "testend" => exact ⟨_, _, [], rfl, st', NewL.nil, rfl⟩
  k_with "comp" =>
    rename Fr _ _ _ _ => lF'
    rename News _ _ _ _ => lN'
    with_unfolding_all refine compNone lF' lN' (by k_mem) rfl rfl (by decide) rfl (by decide) rfl (fun _ => rfl) ?hz ?h0 ?turn ?fin
    case hz => (show 7 ≤ sizeLine; rw [sizeLine_eq]; omega)
    case h0 => (walk1; exact ⟨rfl, rfl⟩)
    case' turn =>
      rintro (_ | _ | _ | _ | _ | _ | _ | i) v P₁ Is C DL h tk mC hv hsub x hxv
      all_goals first | (exfalso; simp at hv; done) | skip
      all_goals (obtain rfl := Option.some.inj hv; clear hv; have F := x.F; have N := News.sub x.N hsub; clear lF' lN' hsub; (try k_unmd); (try k_fold))
    case' fin =>
      intro DL h tk F N
      clear lF' lN'
  k_with "callpc" => first | ((with_reducible show wpAny _ _ (call (Value.ref 174) _) _ _ _); ((rename IntsAre _ (List.take _ _) => hi2); (rename_i LS ws hS hC1 hL1 lS LB cB hA lA BX hB lB hC FF NN); ((rename News _ _ _ _ => pN'); refine' mc_useU (number_pc BX LB _ _ ws _ hi2 (by rw [List.length_take]; omega)) ?pF pN' ?pX ?pT ?pU ?pd ?pu ?pp ?_; (case pF => k_asm); (case pX => k_asm); (case pT => k_asm); (case pU => k_updF); (case pd => ((try dsimp only [arnd, Around.deeper]); omega)); (case pu => ((try dsimp only [arnd, Around.deeper]); omega)); (case pp => exact fun h k hm => ⟨_, hm (LB, W.listOf (List.toArray ws) cB) (by k_mem) (by (refine neN ?_; (try dsimp only); omega)), rfl, _, rfl⟩); clear pN'; intro v' h' tk' o' F' G' r'; obtain ⟨c, tc, nc, D, TT, dX, d, many, tm, x1, x2, x3, oT, o1, o2, o3, rfl, hc0, hc1, rfl, nw', ⟨cT, cx1, cx2, cx3⟩, hTI, hSh⟩ := r'; have N' := G' _ nw'; (try simp only [List.cons_append, List.nil_append] at N'); clear G' nw'; obtain ⟨as, a0, a1, a2, a3, XP, rfl, K, hXP⟩ := shape_okX X T hSh; clear hSh; have nbLB : @Ne Nat LB BX := Nat.ne_of_lt lB.1; have nbD : @Ne Nat D BX := ne_box (l := LB) (c := c) (t := tc) (n := nc) N' (by k_mem) (by k_mem) (by rfl); have nbTT : @Ne Nat TT BX := ne_box (l := LB) (c := c) (t := tc) (n := nc) N' (by k_mem) (by k_mem) cT; have nbx1 : @Ne Nat x1 BX := ne_box (l := LB) (c := c) (t := tc) (n := nc) N' (by k_mem) (by k_mem) cx1; have nbx2 : @Ne Nat x2 BX := ne_box (l := LB) (c := c) (t := tc) (n := nc) N' (by k_mem) (by k_mem) cx2; have nbx3 : @Ne Nat x3 BX := ne_box (l := LB) (c := c) (t := tc) (n := nc) N' (by k_mem) (by k_mem) cx3)); (try k_sweep))| ((with_reducible show wpAny _ _ (call (Value.ref 141) _) _ _ _); ((rename News _ _ _ _ => pN'); refine' pc_use (K.ca TT) ?pF pN' ?pX ?pT ?pd ?pu ?pp ?_; (case pF => k_asm); (case pX => k_asm); (case pT => k_asm); (case pd => ((try dsimp only [arnd, Around.deeper]); omega)); (case pu => ((try dsimp only [arnd, Around.deeper]); omega)); (case pp => exact (hTI _ _ _ _ pN' (sub4 (by k_mem) (by k_mem) (by k_mem) (by k_mem)))); clear pN'; intro v' h' tk' F' G' st' r'; (obtain ⟨O, E1, E2, y1, y2, y3, p1, p2, p3, rfl, N', ⟨cy1, cy2, cy3⟩, hU⟩ := bres_uni r' G' (y := D) (by k_mem) (by rfl) X; have hTup := (hU _ (Fr.keep F') (News.sub N' (sub3 (by k_mem) (by k_mem) (by k_mem)))).1; clear G'; have nby1 : @Ne Nat y1 BX := ne_box (l := LB) (c := c) (t := tc) (n := nc) N' (by k_mem) (by k_mem) cy1; have nby2 : @Ne Nat y2 BX := ne_box (l := LB) (c := c) (t := tc) (n := nc) N' (by k_mem) (by k_mem) cy2; have nby3 : @Ne Nat y3 BX := ne_box (l := LB) (c := c) (t := tc) (n := nc) N' (by k_mem) (by k_mem) cy3)); (try k_sweep))| ((with_reducible show wpAny _ _ (call (Value.ref 181) _) _ _ _); ((rename News _ _ _ _ => pN'); refine' pc_use (K.bt E1 E2 _) ?pF pN' ?pX ?pT ?pd ?pu ?pp ?_; (case pF => k_asm); (case pX => k_asm); (case pT => k_asm); (case pd => ((try dsimp only [arnd, Around.deeper]); omega)); (case pu => ((try dsimp only [arnd, Around.deeper]); omega)); (case pp => exact ⟨(hU _ (Fr.keep (by k_asm)) (News.sub pN' (sub3 (by k_mem) (by k_mem) (by k_mem)))).2.1, (hU _ (Fr.keep (by k_asm)) (News.sub pN' (sub3 (by k_mem) (by k_mem) (by k_mem)))).2.2, hXP _ _ _ _ pN' (sub4 (by k_mem) (by k_mem) (by k_mem) (by k_mem))⟩); clear pN'; intro v' h' tk' F' G' st' r'; (subst r'); have N' := G' [] NewL.nil; clear G'; (try simp only [List.nil_append] at N')); (try k_sweep))| ((with_reducible show wpAny _ _ (call (Value.ref 188) _) _ _ _); ((rename News _ _ _ _ => pN'); refine' mc_useU (jr_pc BX LB TT E1 E2 c tc nc ws _ as a0 a1 a2 a3 hi2 (by rw [List.length_take]; omega) hc0 (by omega) K.jr) ?pF pN' ?pX ?pT ?pU ?pd ?pu ?pp ?_; (case pF => k_asm); (case pX => k_asm); (case pT => k_asm); (case pU => k_updF); (case pd => ((try dsimp only [arnd, Around.deeper]); omega)); (case pu => ((try dsimp only [arnd, Around.deeper]); omega)); (case pp => exact fun h k hm => ⟨⟨_, hm (LB, W.listOf (List.toArray ws) cB) (by k_mem) (by (refine neN ?_; (try dsimp only); omega)), rfl, _, rfl⟩, hTI _ _ _ _ (News.off pN' hm (sub4 (by k_mem) (by k_mem) (by k_mem) (by k_mem)) (ne4 nbTT nbx1 nbx2 nbx3)) (fun _ h => h), (hU _ k (News.off pN' hm (sub3 (by k_mem) (by k_mem) (by k_mem)) (ne3 nby1 nby2 nby3))).2⟩); clear pN'; intro v' h' tk' o' F' G' r'; obtain ⟨rfl, tc, nc, rfl⟩ := r'; have N' := G' [] NewL.nil; (try simp only [List.nil_append] at N'); clear G'); (try k_sweep))| ((with_reducible show wpAny _ _ (call (Value.ref 148) _) _ _ _); ((rename News _ _ _ _ => pN'); refine' pc_use (K.e1 _ TT) ?pF pN' ?pX ?pT ?pd ?pu ?pp ?_; (case pF => k_asm); (case pX => k_asm); (case pT => k_asm); (case pd => ((try dsimp only [arnd, Around.deeper]); omega)); (case pu => ((try dsimp only [arnd, Around.deeper]); omega)); (case pp => exact ⟨rd_num pN' (by k_mem), (hTI _ _ _ _ pN' (sub4 (by k_mem) (by k_mem) (by k_mem) (by k_mem)))⟩); clear pN'; intro v' h' tk' F' G' st' r'; (obtain ⟨D2, F1, F2, z1, z2, q1, q2, rfl, N', ⟨cz1, cz2⟩, hV⟩ := br2_uni r' G' X; clear G'; have nbD2 : @Ne Nat D2 BX := ne_box (l := LB) (c := c + 1) (t := tc) (n := nc) N' (by k_mem) (by k_mem) (by rfl); have nbz1 : @Ne Nat z1 BX := ne_box (l := LB) (c := c + 1) (t := tc) (n := nc) N' (by k_mem) (by k_mem) cz1; have nbz2 : @Ne Nat z2 BX := ne_box (l := LB) (c := c + 1) (t := tc) (n := nc) N' (by k_mem) (by k_mem) cz2)); (try k_sweep))| ((with_reducible show wpAny _ _ (call (Value.ref 148) _) _ _ _); ((rename News _ _ _ _ => pN'); refine' pc_use (K.e2 TT _) ?pF pN' ?pX ?pT ?pd ?pu ?pp ?_; (case pF => k_asm); (case pX => k_asm); (case pT => k_asm); (case pd => ((try dsimp only [arnd, Around.deeper]); omega)); (case pu => ((try dsimp only [arnd, Around.deeper]); omega)); (case pp => exact ⟨(hTI _ _ _ _ pN' (sub4 (by k_mem) (by k_mem) (by k_mem) (by k_mem))), rd_num pN' (by k_mem)⟩); clear pN'; intro v' h' tk' F' G' st' r'; (obtain ⟨D3, F3, F4, z3, z4, q3, q4, rfl, N', ⟨cz3, cz4⟩, hW⟩ := br2_uni r' G' X; clear G'; have nbD3 : @Ne Nat D3 BX := ne_box (l := LB) (c := c + 1) (t := tc) (n := nc) N' (by k_mem) (by k_mem) (by rfl); have nbz3 : @Ne Nat z3 BX := ne_box (l := LB) (c := c + 1) (t := tc) (n := nc) N' (by k_mem) (by k_mem) cz3; have nbz4 : @Ne Nat z4 BX := ne_box (l := LB) (c := c + 1) (t := tc) (n := nc) N' (by k_mem) (by k_mem) cz4)); (try k_sweep))| ((with_reducible show wpAny _ _ (call (Value.ref 148) _) _ _ _); ((rename News _ _ _ _ => pN'); refine' pc_use (K.e3 TT _) ?pF pN' ?pX ?pT ?pd ?pu ?pp ?_; (case pF => k_asm); (case pX => k_asm); (case pT => k_asm); (case pd => ((try dsimp only [arnd, Around.deeper]); omega)); (case pu => ((try dsimp only [arnd, Around.deeper]); omega)); (case pp => exact ⟨(hTI _ _ _ _ pN' (sub4 (by k_mem) (by k_mem) (by k_mem) (by k_mem))), rd_sym pN' (by k_mem)⟩); clear pN'; intro v' h' tk' F' G' st' r'; (subst r'); have N' := G' [] NewL.nil; clear G'; (try simp only [List.nil_append] at N')); (try k_sweep))| ((with_reducible show wpAny _ _ (call (Value.ref 141) _) _ _ _); ((rename News _ _ _ _ => pN'); refine' pc_use (n1_pc _) ?pF pN' ?pX ?pT ?pd ?pu ?pp ?_; (case pF => k_asm); (case pX => k_asm); (case pT => k_asm); (case pd => ((try dsimp only [arnd, Around.deeper]); omega)); (case pu => ((try dsimp only [arnd, Around.deeper]); omega)); (case pp => exact rd_sym pN' (by k_mem)); clear pN'; intro v' h' tk' F' G' st' r'; (subst r'); have N' := G' [] NewL.nil; clear G'; (try simp only [List.nil_append] at N')); (try k_sweep))| ((with_reducible show wpAny _ _ (call (Value.ref 141) _) _ _ _); ((rename News _ _ _ _ => pN'); refine' pc_use (K.n2 _) ?pF pN' ?pX ?pT ?pd ?pu ?pp ?_; (case pF => k_asm); (case pX => k_asm); (case pT => k_asm); (case pd => ((try dsimp only [arnd, Around.deeper]); omega)); (case pu => ((try dsimp only [arnd, Around.deeper]); omega)); (case pp => exact rd_sin pN' (by k_mem) (by k_mem) (hTI _ _ _ _ pN' (sub4 (by k_mem) (by k_mem) (by k_mem) (by k_mem)))); clear pN'; intro v' h' tk' F' G' st' r'; (subst r'); have N' := G' [] NewL.nil; clear G'; (try simp only [List.nil_append] at N')); (try k_sweep))| ((with_reducible show wpAny _ _ (call (Value.ref 141) _) _ _ _); ((rename News _ _ _ _ => pN'); refine' pc_use (n3_pc _) ?pF pN' ?pX ?pT ?pd ?pu ?pp ?_; (case pF => k_asm); (case pX => k_asm); (case pT => k_asm); (case pd => ((try dsimp only [arnd, Around.deeper]); omega)); (case pu => ((try dsimp only [arnd, Around.deeper]); omega)); (case pp => exact rd_pow pN' (by k_mem) (rd_num pN' (by k_mem)) (rd_num pN' (by k_mem))); clear pN'; intro v' h' tk' F' G' st' r'; (subst r'); have N' := G' [] NewL.nil; clear G'; (try simp only [List.nil_append] at N')); (try k_sweep))| ((with_reducible show wpAny _ _ (call (Value.ref 141) _) _ _ _); ((rename News _ _ _ _ => pN'); refine' pc_use (K.n4 _) ?pF pN' ?pX ?pT ?pd ?pu ?pp ?_; (case pF => k_asm); (case pX => k_asm); (case pT => k_asm); (case pd => ((try dsimp only [arnd, Around.deeper]); omega)); (case pu => ((try dsimp only [arnd, Around.deeper]); omega)); (case pp => exact rd_two pN' (by k_mem) (by k_mem) (hTI _ _ _ _ pN' (sub4 (by k_mem) (by k_mem) (by k_mem) (by k_mem))) (rd_sym pN' (by k_mem))); clear pN'; intro v' h' tk' F' G' st' r'; (subst r'); have N' := G' [] NewL.nil; clear G'; (try simp only [List.nil_append] at N')); (try k_sweep))| ((with_reducible show wpAny _ _ (call (Value.ref 141) _) _ _ _); ((rename News _ _ _ _ => pN'); refine' pc_use (n5_pc _) ?pF pN' ?pX ?pT ?pd ?pu ?pp ?_; (case pF => k_asm); (case pX => k_asm); (case pT => k_asm); (case pd => ((try dsimp only [arnd, Around.deeper]); omega)); (case pu => ((try dsimp only [arnd, Around.deeper]); omega)); (case pp => exact rd_pow pN' (by k_mem) (rd_num pN' (by k_mem)) (rd_num pN' (by k_mem))); clear pN'; intro v' h' tk' F' G' st' r'; (subst r'); have N' := G' [] NewL.nil; clear G'; (try simp only [List.nil_append] at N')); (try k_sweep))| ((with_reducible show wpAny _ _ (call (Value.ref 141) _) _ _ _); ((rename News _ _ _ _ => pN'); refine' pc_use (n6_pc _) ?pF pN' ?pX ?pT ?pd ?pu ?pp ?_; (case pF => k_asm); (case pX => k_asm); (case pT => k_asm); (case pd => ((try dsimp only [arnd, Around.deeper]); omega)); (case pu => ((try dsimp only [arnd, Around.deeper]); omega)); (case pp => exact rd_pow pN' (by k_mem) (rd_num pN' (by k_mem)) (rd_sym pN' (by k_mem))); clear pN'; intro v' h' tk' F' G' st' r'; (subst r'); have N' := G' [] NewL.nil; clear G'; (try simp only [List.nil_append] at N')); (try k_sweep))| ((with_reducible show wpAny _ _ (call (Value.ref 141) _) _ _ _); ((rename News _ _ _ _ => pN'); refine' pc_use (K.n7 _) ?pF pN' ?pX ?pT ?pd ?pu ?pp ?_; (case pF => k_asm); (case pX => k_asm); (case pT => k_asm); (case pd => ((try dsimp only [arnd, Around.deeper]); omega)); (case pu => ((try dsimp only [arnd, Around.deeper]); omega)); (case pp => exact rd_pow pN' (by k_mem) (hTI _ _ _ _ pN' (sub4 (by k_mem) (by k_mem) (by k_mem) (by k_mem))) (rd_num pN' (by k_mem))); clear pN'; intro v' h' tk' F' G' st' r'; (subst r'); have N' := G' [] NewL.nil; clear G'; (try simp only [List.nil_append] at N')); (try k_sweep))| ((with_reducible show wpAny _ _ (call (Value.ref 200) _) _ _ _); ((rename News _ _ _ _ => qN'); have pN' := News.sub (l := [(BX, boxO LB (c + 1) tc nc), (LB, W.listOf ws.toArray cB)]) qN' (sub2 (by k_mem) (by k_mem)); clear qN'; refine' mc_useU (poles_pc BX LB (c + 1) tc nc ws _ hi2 (by rw [List.length_take]; exact Nat.min_le_left _ _) (Int.le_add_one hc0) (Int.le_trans (Int.add_le_add_right hc1 1) (by decide))) ?pF pN' ?pX ?pT (UpdF.head fun p hp => by rw [List.mem_singleton.mp hp]; exact nbLB) ?pd ?pu ?pp ?_; (case pF => k_asm); (case pX => k_asm); (case pT => k_asm); (case pd => exact room_d hd (by decide)); (case pu => exact room_u hu (by decide)); (case pp => exact fun h k hm => ⟨_, hm (LB, W.listOf (List.toArray ws) cB) (.tail _ (.head _)) nbLB, rfl, _, rfl⟩); clear pN'; intro v' h' tk' o' F' G' r'; subst r'; have N' := G' [] NewL.nil; (try simp only [List.nil_append] at N'); clear G'))
  repeat' (first | (k_unfold; (try dsimp only)) | walk1 | (dsimp only; walk1) | (dsimp only; k_unfold; (try dsimp only)) | (leave1; walk_say "STEP leave1"; try dsimp only) | fail "no step")
  exact ⟨_, _, _, rfl, rfl, F'⟩)
end
end Mine
theorem PySem.Challenge.cw_pq0187_01_holds : PySem.Challenge.rw_pq0187_01.Holds := by
  exact Mine.law_holds
