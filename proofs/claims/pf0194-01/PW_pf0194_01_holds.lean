import PyProof.Rows.All
import Wide.All
import OpenK.AllK
import Wide.FinOn
import PySem.Challenge.RW_pf0194_01
open PySem PySem.W PyProof.Rows PySem.Calls
set_option Elab.async false
set_option autoImplicit false
set_option maxRecDepth 100000
set_option maxHeartbeats 8000000
set_option compiler.extract_closed false
namespace Mine
abbrev PW : Program := PySem.Challenge.pw_pf0194_01
noncomputable def stN : Nat → List Stmt → Stmt
  | _, [] => .Pass default
  | 0, s :: _ => s
  | k + 1, _ :: r => stN k r
noncomputable def clB : Stmt → List Stmt
  | .ClassDef _ _ _ b .. => b
  | _ => []
noncomputable def fnO (s : Stmt) (q : Str) (dv pm : Value) (code : Addr) : Obj := match s with
  | .FunctionDef name args body _ _ _ scope _ _ _ => ⟨.type "function", none, .func ⟨name, q, args, .stmts body, scope, 3, [], dv, .none, .none, pm, none, .ref code, .none, 0⟩, #[]⟩
  | _ => ⟨.none, none, .plain, #[]⟩
noncomputable def hd.heap_39 : Params → Frag := fun P =>
  (nat_lit 3, { cls := Value.type "dict", data := Data.dict #[{ hash := PyData.keyHash P (Str.ofString "__name__"), key := Value.str (Str.ofString "__name__") 165, val := Value.str (Str.ofString "law_pf0194_01") 628 }, { hash := PyData.keyHash P (Str.ofString "__doc__"), key := Value.str (Str.ofString "__doc__") 166, val := Value.none }, { hash := PyData.keyHash P (Str.ofString "__package__"), key := Value.str (Str.ofString "__package__") 167, val := Value.none }, { hash := PyData.keyHash P (Str.ofString "__loader__"), key := Value.str (Str.ofString "__loader__") 168, val := Value.builtin "__main__.__loader__#opaque" }, { hash := PyData.keyHash P (Str.ofString "__spec__"), key := Value.str (Str.ofString "__spec__") 169, val := Value.none }, { hash := PyData.keyHash P (Str.ofString "__annotations__"), key := Value.str (Str.ofString "__annotations__") 170, val := Value.ref 6 }, { hash := PyData.keyHash P (Str.ofString "__builtins__"), key := Value.str (Str.ofString "__builtins__") 171, val := Value.ref 4 }, { hash := PyData.keyHash P (Str.ofString "__file__"), key := Value.str (Str.ofString "__file__") 173, val := Value.str (Str.ofString "/claim/cut.py") 172 }, { hash := PyData.keyHash P (Str.ofString "__cached__"), key := Value.str (Str.ofString "__cached__") 174, val := Value.none }, { hash := PyData.keyHash P (Str.ofString "MillError"), key := Value.str (Str.ofString "MillError") 217, val := Value.ref 31 }, { hash := PyData.keyHash P (Str.ofString "NumberFault"), key := Value.str (Str.ofString "NumberFault") 233, val := Value.ref 44 }, { hash := PyData.keyHash P (Str.ofString "common_divisor"), key := Value.str (Str.ofString "common_divisor") 245, val := Value.ref 53 }, { hash := PyData.keyHash P (Str.ofString "fraction"), key := Value.str (Str.ofString "fraction") 255, val := Value.ref 61 }, { hash := PyData.keyHash P (Str.ofString "plus"), key := Value.str (Str.ofString "plus") 263, val := Value.ref 68 }, { hash := PyData.keyHash P (Str.ofString "minus"), key := Value.str (Str.ofString "minus") 271, val := Value.ref 75 }, { hash := PyData.keyHash P (Str.ofString "times"), key := Value.str (Str.ofString "times") 279, val := Value.ref 82 }, { hash := PyData.keyHash P (Str.ofString "divided"), key := Value.str (Str.ofString "divided") 287, val := Value.ref 89 }, { hash := PyData.keyHash P (Str.ofString "negated"), key := Value.str (Str.ofString "negated") 294, val := Value.ref 96 }, { hash := PyData.keyHash P (Str.ofString "sign_of"), key := Value.str (Str.ofString "sign_of") 301, val := Value.ref 103 }, { hash := PyData.keyHash P (Str.ofString "compare"), key := Value.str (Str.ofString "compare") 309, val := Value.ref 110 }, { hash := PyData.keyHash P (Str.ofString "floor_of"), key := Value.str (Str.ofString "floor_of") 316, val := Value.ref 117 }, { hash := PyData.keyHash P (Str.ofString "rounded"), key := Value.str (Str.ofString "rounded") 323, val := Value.ref 124 }, { hash := PyData.keyHash P (Str.ofString "root_floor"), key := Value.str (Str.ofString "root_floor") 332, val := Value.ref 131 }, { hash := PyData.keyHash P (Str.ofString "PI_TOP"), key := Value.str (Str.ofString "PI_TOP") 336, val := Value.int 314159265358979323846264338327950288419716939937510 335 }, { hash := PyData.keyHash P (Str.ofString "PI_BOTTOM"), key := Value.str (Str.ofString "PI_BOTTOM") 340, val := Value.int 100000000000000000000000000000000000000000000000000 339 }, { hash := PyData.keyHash P (Str.ofString "MORE"), key := Value.str (Str.ofString "MORE") 344, val := Value.int 65536 343 }, { hash := PyData.keyHash P (Str.ofString "RIGHT"), key := Value.str (Str.ofString "RIGHT") 347, val := Value.ref 132 }, { hash := PyData.keyHash P (Str.ofString "HALF_RIGHT"), key := Value.str (Str.ofString "HALF_RIGHT") 350, val := Value.ref 133 }, { hash := PyData.keyHash P (Str.ofString "scaled_radians"), key := Value.str (Str.ofString "scaled_radians") 358, val := Value.ref 140 }, { hash := PyData.keyHash P (Str.ofString "series"), key := Value.str (Str.ofString "series") 371, val := Value.ref 147 }, { hash := PyData.keyHash P (Str.ofString "small_turn"), key := Value.str (Str.ofString "small_turn") 384, val := Value.ref 154 }, { hash := PyData.keyHash P (Str.ofString "near"), key := Value.str (Str.ofString "near") 393, val := Value.ref 161 }, { hash := PyData.keyHash P (Str.ofString "quarter_turn"), key := Value.str (Str.ofString "quarter_turn") 404, val := Value.ref 168 }, { hash := PyData.keyHash P (Str.ofString "turn_of"), key := Value.str (Str.ofString "turn_of") 418, val := Value.ref 176 }, { hash := PyData.keyHash P (Str.ofString "PARTS"), key := Value.str (Str.ofString "PARTS") 422, val := Value.int 1048576 421 }, { hash := PyData.keyHash P (Str.ofString "in_parts"), key := Value.str (Str.ofString "in_parts") 429, val := Value.ref 183 }, { hash := PyData.keyHash P (Str.ofString "turned"), key := Value.str (Str.ofString "turned") 436, val := Value.ref 190 }, { hash := PyData.keyHash P (Str.ofString "dot"), key := Value.str (Str.ofString "dot") 444, val := Value.ref 197 }, { hash := PyData.keyHash P (Str.ofString "cross"), key := Value.str (Str.ofString "cross") 452, val := Value.ref 204 }, { hash := PyData.keyHash P (Str.ofString "Ellipse"), key := Value.str (Str.ofString "Ellipse") 508, val := Value.ref 235 }, { hash := PyData.keyHash P (Str.ofString "centre_of"), key := Value.str (Str.ofString "centre_of") 524, val := Value.ref 246 }, { hash := PyData.keyHash P (Str.ofString "is_within_quarter"), key := Value.str (Str.ofString "is_within_quarter") 534, val := Value.ref 253 }, { hash := PyData.keyHash P (Str.ofString "quarter_on"), key := Value.str (Str.ofString "quarter_on") 542, val := Value.ref 260 }, { hash := PyData.keyHash P (Str.ofString "handle_share"), key := Value.str (Str.ofString "handle_share") 553, val := Value.ref 267 }, { hash := PyData.keyHash P (Str.ofString "piece_of"), key := Value.str (Str.ofString "piece_of") 566, val := Value.ref 274 }, { hash := PyData.keyHash P (Str.ofString "vectors_of"), key := Value.str (Str.ofString "vectors_of") 577, val := Value.ref 281 }, { hash := PyData.keyHash P (Str.ofString "straight"), key := Value.str (Str.ofString "straight") 589, val := Value.ref 288 }, { hash := PyData.keyHash P (Str.ofString "point_told"), key := Value.str (Str.ofString "point_told") 600, val := Value.ref 295 }, { hash := PyData.keyHash P (Str.ofString "arc_cubics"), key := Value.str (Str.ofString "arc_cubics") 627, val := Value.ref 302 }, { hash := PyData.keyHash P (Str.ofString "_law_pool"), key := Value.str (Str.ofString "_law_pool") 640, val := Value.ref 309 }, { hash := PyData.keyHash P (Str.ofString "_law_take"), key := Value.str (Str.ofString "_law_take") 649, val := Value.ref 316 }, { hash := PyData.keyHash P (Str.ofString "_law_one"), key := Value.str (Str.ofString "_law_one") 657, val := Value.ref 323 }, { hash := PyData.keyHash P (Str.ofString "_law_round"), key := Value.str (Str.ofString "_law_round") 663, val := Value.ref 328 }, { hash := PyData.keyHash P (Str.ofString "_law_quarters_right"), key := Value.str (Str.ofString "_law_quarters_right") 669, val := Value.ref 333 }, { hash := PyData.keyHash P (Str.ofString "_law_led"), key := Value.str (Str.ofString "_law_led") 682, val := Value.ref 340 }, { hash := PyData.keyHash P (Str.ofString "_law_ellipse_right"), key := Value.str (Str.ofString "_law_ellipse_right") 688, val := Value.ref 345 }, { hash := PyData.keyHash P (Str.ofString "_law_near"), key := Value.str (Str.ofString "_law_near") 699, val := Value.ref 352 }, { hash := PyData.keyHash P (Str.ofString "_law_arc_right"), key := Value.str (Str.ofString "_law_arc_right") 705, val := Value.ref 357 }, { hash := PyData.keyHash P (Str.ofString "law"), key := Value.str (Str.ofString "law") 714, val := Value.ref 364 }] 59 }) ::
  (nat_lit 52, { cls := Value.type "code", data := Data.fields #[Value.str (Str.ofString "common_divisor") 236, Value.str (Str.ofString "common_divisor") 237, Value.str (Str.ofString "/claim/cut.py") 238, Value.int 9 0, Value.int 2 0, Value.int 0 0, Value.int 0 0, Value.int 3 0, Value.ref 47, Value.bool Bool.true, Value.int 181 0, Value.ref 48, Value.none, Value.ref 49, Value.ref 50, Value.ref 51, Value.int 243 0, Value.int 9 0, Value.str (Str.ofString "/claim/cut.py") 244] }) ::
  (nat_lit 53, fnO (stN 4 PW.main.body) (Str.ofString "common_divisor") (Value.none) (Value.str (Str.ofString "outlinemill.exact") 234) 52) ::
  (nat_lit 54, { cls := Value.type "tuple", data := Data.seq #[Value.int 1 246] }) ::
  (nat_lit 60, { cls := Value.type "code", data := Data.fields #[Value.str (Str.ofString "fraction") 247, Value.str (Str.ofString "fraction") 248, Value.str (Str.ofString "/claim/cut.py") 249, Value.int 14 0, Value.int 2 0, Value.int 0 0, Value.int 0 0, Value.int 3 0, Value.ref 55, Value.bool Bool.true, Value.int 181 0, Value.ref 56, Value.none, Value.ref 57, Value.ref 58, Value.ref 59, Value.int 253 0, Value.int 14 0, Value.str (Str.ofString "/claim/cut.py") 254] }) ::
  (nat_lit 61, fnO (stN 5 PW.main.body) (Str.ofString "fraction") (Value.ref 54) (Value.str (Str.ofString "outlinemill.exact") 234) 60) ::
  (nat_lit 74, { cls := Value.type "code", data := Data.fields #[Value.str (Str.ofString "minus") 264, Value.str (Str.ofString "minus") 265, Value.str (Str.ofString "/claim/cut.py") 266, Value.int 23 0, Value.int 2 0, Value.int 0 0, Value.int 0 0, Value.int 3 0, Value.ref 69, Value.bool Bool.true, Value.int 181 0, Value.ref 70, Value.none, Value.ref 71, Value.ref 72, Value.ref 73, Value.int 269 0, Value.int 23 0, Value.str (Str.ofString "/claim/cut.py") 270] }) ::
  (nat_lit 75, fnO (stN 7 PW.main.body) (Str.ofString "minus") (Value.none) (Value.str (Str.ofString "outlinemill.exact") 234) 74) ::
  (nat_lit 88, { cls := Value.type "code", data := Data.fields #[Value.str (Str.ofString "divided") 280, Value.str (Str.ofString "divided") 281, Value.str (Str.ofString "/claim/cut.py") 282, Value.int 27 0, Value.int 2 0, Value.int 0 0, Value.int 0 0, Value.int 3 0, Value.ref 83, Value.bool Bool.true, Value.int 181 0, Value.ref 84, Value.none, Value.ref 85, Value.ref 86, Value.ref 87, Value.int 285 0, Value.int 27 0, Value.str (Str.ofString "/claim/cut.py") 286] }) ::
  (nat_lit 89, fnO (stN 9 PW.main.body) (Str.ofString "divided") (Value.none) (Value.str (Str.ofString "outlinemill.exact") 234) 88) ::
  (nat_lit 95, { cls := Value.type "code", data := Data.fields #[Value.str (Str.ofString "negated") 288, Value.str (Str.ofString "negated") 289, Value.str (Str.ofString "/claim/cut.py") 290, Value.int 31 0, Value.int 1 0, Value.int 0 0, Value.int 0 0, Value.int 3 0, Value.ref 90, Value.bool Bool.true, Value.int 181 0, Value.ref 91, Value.none, Value.ref 92, Value.ref 93, Value.ref 94, Value.int 292 0, Value.int 31 0, Value.str (Str.ofString "/claim/cut.py") 293] }) ::
  (nat_lit 96, fnO (stN 10 PW.main.body) (Str.ofString "negated") (Value.none) (Value.str (Str.ofString "outlinemill.exact") 234) 95) ::
  (nat_lit 102, { cls := Value.type "code", data := Data.fields #[Value.str (Str.ofString "sign_of") 295, Value.str (Str.ofString "sign_of") 296, Value.str (Str.ofString "/claim/cut.py") 297, Value.int 33 0, Value.int 1 0, Value.int 0 0, Value.int 0 0, Value.int 3 0, Value.ref 97, Value.bool Bool.true, Value.int 181 0, Value.ref 98, Value.none, Value.ref 99, Value.ref 100, Value.ref 101, Value.int 299 0, Value.int 33 0, Value.str (Str.ofString "/claim/cut.py") 300] }) ::
  (nat_lit 103, fnO (stN 11 PW.main.body) (Str.ofString "sign_of") (Value.none) (Value.str (Str.ofString "outlinemill.exact") 234) 102) ::
  (nat_lit 109, { cls := Value.type "code", data := Data.fields #[Value.str (Str.ofString "compare") 302, Value.str (Str.ofString "compare") 303, Value.str (Str.ofString "/claim/cut.py") 304, Value.int 39 0, Value.int 2 0, Value.int 0 0, Value.int 0 0, Value.int 3 0, Value.ref 104, Value.bool Bool.true, Value.int 181 0, Value.ref 105, Value.none, Value.ref 106, Value.ref 107, Value.ref 108, Value.int 307 0, Value.int 39 0, Value.str (Str.ofString "/claim/cut.py") 308] }) ::
  (nat_lit 110, fnO (stN 12 PW.main.body) (Str.ofString "compare") (Value.none) (Value.str (Str.ofString "outlinemill.exact") 234) 109) ::
  (nat_lit 116, { cls := Value.type "code", data := Data.fields #[Value.str (Str.ofString "floor_of") 310, Value.str (Str.ofString "floor_of") 311, Value.str (Str.ofString "/claim/cut.py") 312, Value.int 41 0, Value.int 1 0, Value.int 0 0, Value.int 0 0, Value.int 3 0, Value.ref 111, Value.bool Bool.true, Value.int 181 0, Value.ref 112, Value.none, Value.ref 113, Value.ref 114, Value.ref 115, Value.int 314 0, Value.int 41 0, Value.str (Str.ofString "/claim/cut.py") 315] }) ::
  (nat_lit 117, fnO (stN 13 PW.main.body) (Str.ofString "floor_of") (Value.none) (Value.str (Str.ofString "outlinemill.exact") 234) 116) ::
  (nat_lit 123, { cls := Value.type "code", data := Data.fields #[Value.str (Str.ofString "rounded") 317, Value.str (Str.ofString "rounded") 318, Value.str (Str.ofString "/claim/cut.py") 319, Value.int 43 0, Value.int 1 0, Value.int 0 0, Value.int 0 0, Value.int 3 0, Value.ref 118, Value.bool Bool.true, Value.int 181 0, Value.ref 119, Value.none, Value.ref 120, Value.ref 121, Value.ref 122, Value.int 321 0, Value.int 43 0, Value.str (Str.ofString "/claim/cut.py") 322] }) ::
  (nat_lit 124, fnO (stN 14 PW.main.body) (Str.ofString "rounded") (Value.none) (Value.str (Str.ofString "outlinemill.exact") 234) 123) ::
  (nat_lit 130, { cls := Value.type "code", data := Data.fields #[Value.str (Str.ofString "root_floor") 324, Value.str (Str.ofString "root_floor") 325, Value.str (Str.ofString "/claim/cut.py") 326, Value.int 45 0, Value.int 1 0, Value.int 0 0, Value.int 0 0, Value.int 3 0, Value.ref 125, Value.bool Bool.true, Value.int 181 0, Value.ref 126, Value.none, Value.ref 127, Value.ref 128, Value.ref 129, Value.int 330 0, Value.int 45 0, Value.str (Str.ofString "/claim/cut.py") 331] }) ::
  (nat_lit 131, fnO (stN 15 PW.main.body) (Str.ofString "root_floor") (Value.none) (Value.str (Str.ofString "outlinemill.exact") 234) 130) ::
  (nat_lit 132, { cls := Value.type "tuple", data := Data.seq #[Value.int 90 345, Value.int 1 346] }) ::
  (nat_lit 133, { cls := Value.type "tuple", data := Data.seq #[Value.int 45 348, Value.int 1 349] }) ::
  (nat_lit 139, { cls := Value.type "code", data := Data.fields #[Value.str (Str.ofString "scaled_radians") 351, Value.str (Str.ofString "scaled_radians") 352, Value.str (Str.ofString "/claim/cut.py") 353, Value.int 64 0, Value.int 2 0, Value.int 0 0, Value.int 0 0, Value.int 3 0, Value.ref 134, Value.bool Bool.true, Value.int 181 0, Value.ref 135, Value.none, Value.ref 136, Value.ref 137, Value.ref 138, Value.int 356 0, Value.int 64 0, Value.str (Str.ofString "/claim/cut.py") 357] }) ::
  (nat_lit 140, fnO (stN 22 PW.main.body) (Str.ofString "scaled_radians") (Value.none) (Value.str (Str.ofString "outlinemill.angles") 333) 139) ::
  (nat_lit 146, { cls := Value.type "code", data := Data.fields #[Value.str (Str.ofString "series") 359, Value.str (Str.ofString "series") 360, Value.str (Str.ofString "/claim/cut.py") 361, Value.int 66 0, Value.int 4 0, Value.int 0 0, Value.int 0 0, Value.int 3 0, Value.ref 141, Value.bool Bool.true, Value.int 181 0, Value.ref 142, Value.none, Value.ref 143, Value.ref 144, Value.ref 145, Value.int 369 0, Value.int 66 0, Value.str (Str.ofString "/claim/cut.py") 370] }) ::
  (nat_lit 147, fnO (stN 23 PW.main.body) (Str.ofString "series") (Value.none) (Value.str (Str.ofString "outlinemill.angles") 333) 146) ::
  (nat_lit 153, { cls := Value.type "code", data := Data.fields #[Value.str (Str.ofString "small_turn") 372, Value.str (Str.ofString "small_turn") 373, Value.str (Str.ofString "/claim/cut.py") 374, Value.int 73 0, Value.int 2 0, Value.int 0 0, Value.int 0 0, Value.int 3 0, Value.ref 148, Value.bool Bool.true, Value.int 181 0, Value.ref 149, Value.none, Value.ref 150, Value.ref 151, Value.ref 152, Value.int 382 0, Value.int 73 0, Value.str (Str.ofString "/claim/cut.py") 383] }) ::
  (nat_lit 154, fnO (stN 24 PW.main.body) (Str.ofString "small_turn") (Value.none) (Value.str (Str.ofString "outlinemill.angles") 333) 153) ::
  (nat_lit 160, { cls := Value.type "code", data := Data.fields #[Value.str (Str.ofString "near") 385, Value.str (Str.ofString "near") 386, Value.str (Str.ofString "/claim/cut.py") 387, Value.int 79 0, Value.int 3 0, Value.int 0 0, Value.int 0 0, Value.int 3 0, Value.ref 155, Value.bool Bool.true, Value.int 181 0, Value.ref 156, Value.none, Value.ref 157, Value.ref 158, Value.ref 159, Value.int 391 0, Value.int 79 0, Value.str (Str.ofString "/claim/cut.py") 392] }) ::
  (nat_lit 161, fnO (stN 25 PW.main.body) (Str.ofString "near") (Value.none) (Value.str (Str.ofString "outlinemill.angles") 333) 160) ::
  (nat_lit 167, { cls := Value.type "code", data := Data.fields #[Value.str (Str.ofString "quarter_turn") 394, Value.str (Str.ofString "quarter_turn") 395, Value.str (Str.ofString "/claim/cut.py") 396, Value.int 81 0, Value.int 2 0, Value.int 0 0, Value.int 0 0, Value.int 3 0, Value.ref 162, Value.bool Bool.true, Value.int 181 0, Value.ref 163, Value.none, Value.ref 164, Value.ref 165, Value.ref 166, Value.int 402 0, Value.int 81 0, Value.str (Str.ofString "/claim/cut.py") 403] }) ::
  (nat_lit 168, fnO (stN 26 PW.main.body) (Str.ofString "quarter_turn") (Value.none) (Value.str (Str.ofString "outlinemill.angles") 333) 167) ::
  (nat_lit 169, { cls := Value.type "tuple", data := Data.seq #[Value.int 65536 405] }) ::
  (nat_lit 175, { cls := Value.type "code", data := Data.fields #[Value.str (Str.ofString "turn_of") 406, Value.str (Str.ofString "turn_of") 407, Value.str (Str.ofString "/claim/cut.py") 408, Value.int 90 0, Value.int 2 0, Value.int 0 0, Value.int 0 0, Value.int 3 0, Value.ref 170, Value.bool Bool.true, Value.int 181 0, Value.ref 171, Value.none, Value.ref 172, Value.ref 173, Value.ref 174, Value.int 416 0, Value.int 90 0, Value.str (Str.ofString "/claim/cut.py") 417] }) ::
  (nat_lit 176, fnO (stN 27 PW.main.body) (Str.ofString "turn_of") (Value.ref 169) (Value.str (Str.ofString "outlinemill.angles") 333) 175) ::
  (nat_lit 182, { cls := Value.type "code", data := Data.fields #[Value.str (Str.ofString "in_parts") 423, Value.str (Str.ofString "in_parts") 424, Value.str (Str.ofString "/claim/cut.py") 425, Value.int 101 0, Value.int 1 0, Value.int 0 0, Value.int 0 0, Value.int 3 0, Value.ref 177, Value.bool Bool.true, Value.int 181 0, Value.ref 178, Value.none, Value.ref 179, Value.ref 180, Value.ref 181, Value.int 427 0, Value.int 101 0, Value.str (Str.ofString "/claim/cut.py") 428] }) ::
  (nat_lit 183, fnO (stN 30 PW.main.body) (Str.ofString "in_parts") (Value.none) (Value.str (Str.ofString "outlinemill.arcs") 419) 182) ::
  (nat_lit 189, { cls := Value.type "code", data := Data.fields #[Value.str (Str.ofString "turned") 430, Value.str (Str.ofString "turned") 431, Value.str (Str.ofString "/claim/cut.py") 432, Value.int 103 0, Value.int 1 0, Value.int 0 0, Value.int 0 0, Value.int 3 0, Value.ref 184, Value.bool Bool.true, Value.int 181 0, Value.ref 185, Value.none, Value.ref 186, Value.ref 187, Value.ref 188, Value.int 434 0, Value.int 103 0, Value.str (Str.ofString "/claim/cut.py") 435] }) ::
  (nat_lit 190, fnO (stN 31 PW.main.body) (Str.ofString "turned") (Value.none) (Value.str (Str.ofString "outlinemill.arcs") 419) 189) ::
  (nat_lit 196, { cls := Value.type "code", data := Data.fields #[Value.str (Str.ofString "dot") 437, Value.str (Str.ofString "dot") 438, Value.str (Str.ofString "/claim/cut.py") 439, Value.int 105 0, Value.int 2 0, Value.int 0 0, Value.int 0 0, Value.int 3 0, Value.ref 191, Value.bool Bool.true, Value.int 181 0, Value.ref 192, Value.none, Value.ref 193, Value.ref 194, Value.ref 195, Value.int 442 0, Value.int 105 0, Value.str (Str.ofString "/claim/cut.py") 443] }) ::
  (nat_lit 197, fnO (stN 32 PW.main.body) (Str.ofString "dot") (Value.none) (Value.str (Str.ofString "outlinemill.arcs") 419) 196) ::
  (nat_lit 203, { cls := Value.type "code", data := Data.fields #[Value.str (Str.ofString "cross") 445, Value.str (Str.ofString "cross") 446, Value.str (Str.ofString "/claim/cut.py") 447, Value.int 107 0, Value.int 2 0, Value.int 0 0, Value.int 0 0, Value.int 3 0, Value.ref 198, Value.bool Bool.true, Value.int 181 0, Value.ref 199, Value.none, Value.ref 200, Value.ref 201, Value.ref 202, Value.int 450 0, Value.int 107 0, Value.str (Str.ofString "/claim/cut.py") 451] }) ::
  (nat_lit 204, fnO (stN 33 PW.main.body) (Str.ofString "cross") (Value.none) (Value.str (Str.ofString "outlinemill.arcs") 419) 203) ::
  (nat_lit 217, { cls := Value.type "code", data := Data.fields #[Value.str (Str.ofString "__init__") 465, Value.str (Str.ofString "Ellipse.__init__") 466, Value.str (Str.ofString "/claim/cut.py") 467, Value.int 111 0, Value.int 4 0, Value.int 0 0, Value.int 0 0, Value.int 3 0, Value.ref 212, Value.bool Bool.true, Value.int 181 0, Value.ref 213, Value.none, Value.ref 214, Value.ref 215, Value.ref 216, Value.int 474 0, Value.int 111 0, Value.str (Str.ofString "/claim/cut.py") 475] }) ::
  (nat_lit 218, fnO (stN 0 (clB (stN 34 PW.main.body))) (Str.ofString "Ellipse.__init__") (Value.none) (Value.str (Str.ofString "outlinemill.arcs") 419) 217) ::
  (nat_lit 224, { cls := Value.type "code", data := Data.fields #[Value.str (Str.ofString "led") 477, Value.str (Str.ofString "Ellipse.led") 478, Value.str (Str.ofString "/claim/cut.py") 479, Value.int 118 0, Value.int 2 0, Value.int 0 0, Value.int 0 0, Value.int 3 0, Value.ref 219, Value.bool Bool.true, Value.int 181 0, Value.ref 220, Value.none, Value.ref 221, Value.ref 222, Value.ref 223, Value.int 484 0, Value.int 118 0, Value.str (Str.ofString "/claim/cut.py") 485] }) ::
  (nat_lit 225, fnO (stN 1 (clB (stN 34 PW.main.body))) (Str.ofString "Ellipse.led") (Value.none) (Value.str (Str.ofString "outlinemill.arcs") 419) 224) ::
  (nat_lit 231, { cls := Value.type "code", data := Data.fields #[Value.str (Str.ofString "back") 487, Value.str (Str.ofString "Ellipse.back") 488, Value.str (Str.ofString "/claim/cut.py") 489, Value.int 122 0, Value.int 2 0, Value.int 0 0, Value.int 0 0, Value.int 3 0, Value.ref 226, Value.bool Bool.true, Value.int 181 0, Value.ref 227, Value.none, Value.ref 228, Value.ref 229, Value.ref 230, Value.int 494 0, Value.int 122 0, Value.str (Str.ofString "/claim/cut.py") 495] }) ::
  (nat_lit 232, fnO (stN 2 (clB (stN 34 PW.main.body))) (Str.ofString "Ellipse.back") (Value.none) (Value.str (Str.ofString "outlinemill.arcs") 419) 231) ::
  (nat_lit 234, { cls := Value.type "dict", data := Data.dict #[{ hash := PyData.keyHash P (Str.ofString "__module__"), key := Value.str (Str.ofString "__module__") 460, val := Value.str (Str.ofString "outlinemill.arcs") 419 }, { hash := PyData.keyHash P (Str.ofString "__firstlineno__"), key := Value.str (Str.ofString "__firstlineno__") 464, val := Value.int 109 463 }, { hash := PyData.keyHash P (Str.ofString "__init__"), key := Value.str (Str.ofString "__init__") 476, val := Value.ref 218 }, { hash := PyData.keyHash P (Str.ofString "led"), key := Value.str (Str.ofString "led") 486, val := Value.ref 225 }, { hash := PyData.keyHash P (Str.ofString "back"), key := Value.str (Str.ofString "back") 496, val := Value.ref 232 }, { hash := PyData.keyHash P (Str.ofString "__static_attributes__"), key := Value.str (Str.ofString "__static_attributes__") 501, val := Value.ref 233 }, { hash := PyData.keyHash P (Str.ofString "__dict__"), key := Value.str (Str.ofString "__dict__") 503, val := Value.ref 236 }, { hash := PyData.keyHash P (Str.ofString "__weakref__"), key := Value.str (Str.ofString "__weakref__") 505, val := Value.ref 237 }, { hash := PyData.keyHash P (Str.ofString "__doc__"), key := Value.str (Str.ofString "__doc__") 506, val := Value.none }] 4 }) ::
  (nat_lit 235, { cls := Value.type "type", data := Data.cls { name := Str.ofString "Ellipse", bases := [Value.type "object"], mro := [Value.ref 235, Value.type "object"], ns := 234, qualname := Str.ofString "Ellipse" }, slots := #[Option.none, Option.none, Option.some (Value.str (Str.ofString "Ellipse") 453), Option.some (Value.str (Str.ofString "Ellipse") 461), Option.some (Value.builtin "object.__new__"), Option.some (Value.bool Bool.true)] }) ::
  (nat_lit 236, { cls := Value.type "getset_descriptor", data := Data.fields #[Value.str (Str.ofString "__dict__") 502, Value.ref 235, Value.builtin "function.__dict__", Value.builtin "function.__dict__#set"] }) ::
  (nat_lit 237, { cls := Value.type "getset_descriptor", data := Data.fields #[Value.str (Str.ofString "__weakref__") 504, Value.ref 235, Value.builtin "ExceptionGroup.__weakref__", Value.none] }) ::
  (nat_lit 245, { cls := Value.type "code", data := Data.fields #[Value.str (Str.ofString "centre_of") 509, Value.str (Str.ofString "centre_of") 510, Value.str (Str.ofString "/claim/cut.py") 511, Value.int 125 0, Value.int 4 0, Value.int 0 0, Value.int 0 0, Value.int 3 0, Value.ref 240, Value.bool Bool.true, Value.int 181 0, Value.ref 241, Value.none, Value.ref 242, Value.ref 243, Value.ref 244, Value.int 522 0, Value.int 125 0, Value.str (Str.ofString "/claim/cut.py") 523] }) ::
  (nat_lit 246, fnO (stN 35 PW.main.body) (Str.ofString "centre_of") (Value.none) (Value.str (Str.ofString "outlinemill.arcs") 419) 245) ::
  (nat_lit 252, { cls := Value.type "code", data := Data.fields #[Value.str (Str.ofString "is_within_quarter") 525, Value.str (Str.ofString "is_within_quarter") 526, Value.str (Str.ofString "/claim/cut.py") 527, Value.int 136 0, Value.int 3 0, Value.int 0 0, Value.int 0 0, Value.int 3 0, Value.ref 247, Value.bool Bool.true, Value.int 181 0, Value.ref 248, Value.none, Value.ref 249, Value.ref 250, Value.ref 251, Value.int 532 0, Value.int 136 0, Value.str (Str.ofString "/claim/cut.py") 533] }) ::
  (nat_lit 253, fnO (stN 36 PW.main.body) (Str.ofString "is_within_quarter") (Value.none) (Value.str (Str.ofString "outlinemill.arcs") 419) 252) ::
  (nat_lit 259, { cls := Value.type "code", data := Data.fields #[Value.str (Str.ofString "quarter_on") 535, Value.str (Str.ofString "quarter_on") 536, Value.str (Str.ofString "/claim/cut.py") 537, Value.int 139 0, Value.int 2 0, Value.int 0 0, Value.int 0 0, Value.int 3 0, Value.ref 254, Value.bool Bool.true, Value.int 181 0, Value.ref 255, Value.none, Value.ref 256, Value.ref 257, Value.ref 258, Value.int 540 0, Value.int 139 0, Value.str (Str.ofString "/claim/cut.py") 541] }) ::
  (nat_lit 260, fnO (stN 37 PW.main.body) (Str.ofString "quarter_on") (Value.none) (Value.str (Str.ofString "outlinemill.arcs") 419) 259) ::
  (nat_lit 266, { cls := Value.type "code", data := Data.fields #[Value.str (Str.ofString "handle_share") 543, Value.str (Str.ofString "handle_share") 544, Value.str (Str.ofString "/claim/cut.py") 545, Value.int 141 0, Value.int 2 0, Value.int 0 0, Value.int 0 0, Value.int 3 0, Value.ref 261, Value.bool Bool.true, Value.int 181 0, Value.ref 262, Value.none, Value.ref 263, Value.ref 264, Value.ref 265, Value.int 551 0, Value.int 141 0, Value.str (Str.ofString "/claim/cut.py") 552] }) ::
  (nat_lit 267, fnO (stN 38 PW.main.body) (Str.ofString "handle_share") (Value.none) (Value.str (Str.ofString "outlinemill.arcs") 419) 266) ::
  (nat_lit 273, { cls := Value.type "code", data := Data.fields #[Value.str (Str.ofString "piece_of") 554, Value.str (Str.ofString "piece_of") 555, Value.str (Str.ofString "/claim/cut.py") 556, Value.int 146 0, Value.int 3 0, Value.int 0 0, Value.int 0 0, Value.int 3 0, Value.ref 268, Value.bool Bool.true, Value.int 181 0, Value.ref 269, Value.none, Value.ref 270, Value.ref 271, Value.ref 272, Value.int 564 0, Value.int 146 0, Value.str (Str.ofString "/claim/cut.py") 565] }) ::
  (nat_lit 274, fnO (stN 39 PW.main.body) (Str.ofString "piece_of") (Value.none) (Value.str (Str.ofString "outlinemill.arcs") 419) 273) ::
  (nat_lit 280, { cls := Value.type "code", data := Data.fields #[Value.str (Str.ofString "vectors_of") 567, Value.str (Str.ofString "vectors_of") 568, Value.str (Str.ofString "/claim/cut.py") 569, Value.int 151 0, Value.int 3 0, Value.int 0 0, Value.int 0 0, Value.int 3 0, Value.ref 275, Value.bool Bool.true, Value.int 181 0, Value.ref 276, Value.none, Value.ref 277, Value.ref 278, Value.ref 279, Value.int 575 0, Value.int 151 0, Value.str (Str.ofString "/claim/cut.py") 576] }) ::
  (nat_lit 281, fnO (stN 40 PW.main.body) (Str.ofString "vectors_of") (Value.none) (Value.str (Str.ofString "outlinemill.arcs") 419) 280) ::
  (nat_lit 294, { cls := Value.type "code", data := Data.fields #[Value.str (Str.ofString "point_told") 590, Value.str (Str.ofString "point_told") 591, Value.str (Str.ofString "/claim/cut.py") 592, Value.int 164 0, Value.int 3 0, Value.int 0 0, Value.int 0 0, Value.int 3 0, Value.ref 289, Value.bool Bool.true, Value.int 181 0, Value.ref 290, Value.none, Value.ref 291, Value.ref 292, Value.ref 293, Value.int 598 0, Value.int 164 0, Value.str (Str.ofString "/claim/cut.py") 599] }) ::
  (nat_lit 295, fnO (stN 42 PW.main.body) (Str.ofString "point_told") (Value.none) (Value.str (Str.ofString "outlinemill.arcs") 419) 294) ::
  (nat_lit 301, { cls := Value.type "code", data := Data.fields #[Value.str (Str.ofString "arc_cubics") 601, Value.str (Str.ofString "arc_cubics") 602, Value.str (Str.ofString "/claim/cut.py") 603, Value.int 167 0, Value.int 7 0, Value.int 0 0, Value.int 0 0, Value.int 3 0, Value.ref 296, Value.bool Bool.true, Value.int 181 0, Value.ref 297, Value.none, Value.ref 298, Value.ref 299, Value.ref 300, Value.int 625 0, Value.int 167 0, Value.str (Str.ofString "/claim/cut.py") 626] }) ::
  (nat_lit 302, fnO (stN 43 PW.main.body) (Str.ofString "arc_cubics") (Value.none) (Value.str (Str.ofString "outlinemill.arcs") 419) 301) ::
  (nat_lit 308, { cls := Value.type "code", data := Data.fields #[Value.str (Str.ofString "_law_pool") 630, Value.str (Str.ofString "_law_pool") 631, Value.str (Str.ofString "/claim/cut.py") 632, Value.int 189 0, Value.int 2 0, Value.int 0 0, Value.int 0 0, Value.int 3 0, Value.ref 303, Value.bool Bool.true, Value.int 181 0, Value.ref 304, Value.none, Value.ref 305, Value.ref 306, Value.ref 307, Value.int 638 0, Value.int 189 0, Value.str (Str.ofString "/claim/cut.py") 639] }) ::
  (nat_lit 309, fnO (stN 45 PW.main.body) (Str.ofString "_law_pool") (Value.none) (Value.str (Str.ofString "law_pf0194_01") 628) 308) ::
  (nat_lit 315, { cls := Value.type "code", data := Data.fields #[Value.str (Str.ofString "_law_take") 641, Value.str (Str.ofString "_law_take") 642, Value.str (Str.ofString "/claim/cut.py") 643, Value.int 194 0, Value.int 2 0, Value.int 0 0, Value.int 0 0, Value.int 3 0, Value.ref 310, Value.bool Bool.true, Value.int 181 0, Value.ref 311, Value.none, Value.ref 312, Value.ref 313, Value.ref 314, Value.int 647 0, Value.int 194 0, Value.str (Str.ofString "/claim/cut.py") 648] }) ::
  (nat_lit 316, fnO (stN 46 PW.main.body) (Str.ofString "_law_take") (Value.none) (Value.str (Str.ofString "law_pf0194_01") 628) 315) ::
  (nat_lit 322, { cls := Value.type "code", data := Data.fields #[Value.str (Str.ofString "_law_one") 650, Value.str (Str.ofString "_law_one") 651, Value.str (Str.ofString "/claim/cut.py") 652, Value.int 203 0, Value.int 2 0, Value.int 0 0, Value.int 0 0, Value.int 3 0, Value.ref 317, Value.bool Bool.true, Value.int 181 0, Value.ref 318, Value.none, Value.ref 319, Value.ref 320, Value.ref 321, Value.int 655 0, Value.int 203 0, Value.str (Str.ofString "/claim/cut.py") 656] }) ::
  (nat_lit 323, fnO (stN 47 PW.main.body) (Str.ofString "_law_one") (Value.none) (Value.str (Str.ofString "law_pf0194_01") 628) 322) ::
  (nat_lit 327, { cls := Value.type "code", data := Data.fields #[Value.str (Str.ofString "_law_round") 658, Value.str (Str.ofString "_law_round") 659, Value.str (Str.ofString "/claim/cut.py") 660, Value.int 205 0, Value.int 0 0, Value.int 0 0, Value.int 0 0, Value.int 3 0, Value.ref 324, Value.bool Bool.true, Value.int 181 0, Value.ref 325, Value.none, Value.none, Value.none, Value.ref 326, Value.int 661 0, Value.int 205 0, Value.str (Str.ofString "/claim/cut.py") 662] }) ::
  (nat_lit 328, fnO (stN 48 PW.main.body) (Str.ofString "_law_round") (Value.none) (Value.str (Str.ofString "law_pf0194_01") 628) 327) ::
  (nat_lit 332, { cls := Value.type "code", data := Data.fields #[Value.str (Str.ofString "_law_quarters_right") 664, Value.str (Str.ofString "_law_quarters_right") 665, Value.str (Str.ofString "/claim/cut.py") 666, Value.int 211 0, Value.int 1 0, Value.int 0 0, Value.int 0 0, Value.int 3 0, Value.ref 329, Value.bool Bool.true, Value.int 181 0, Value.ref 330, Value.none, Value.none, Value.none, Value.ref 331, Value.int 667 0, Value.int 211 0, Value.str (Str.ofString "/claim/cut.py") 668] }) ::
  (nat_lit 333, fnO (stN 49 PW.main.body) (Str.ofString "_law_quarters_right") (Value.none) (Value.str (Str.ofString "law_pf0194_01") 628) 332) ::
  (nat_lit 339, { cls := Value.type "code", data := Data.fields #[Value.str (Str.ofString "_law_led") 670, Value.str (Str.ofString "_law_led") 671, Value.str (Str.ofString "/claim/cut.py") 672, Value.int 222 0, Value.int 4 0, Value.int 0 0, Value.int 0 0, Value.int 3 0, Value.ref 334, Value.bool Bool.true, Value.int 181 0, Value.ref 335, Value.none, Value.ref 336, Value.ref 337, Value.ref 338, Value.int 680 0, Value.int 222 0, Value.str (Str.ofString "/claim/cut.py") 681] }) ::
  (nat_lit 340, fnO (stN 50 PW.main.body) (Str.ofString "_law_led") (Value.none) (Value.str (Str.ofString "law_pf0194_01") 628) 339) ::
  (nat_lit 344, { cls := Value.type "code", data := Data.fields #[Value.str (Str.ofString "_law_ellipse_right") 683, Value.str (Str.ofString "_law_ellipse_right") 684, Value.str (Str.ofString "/claim/cut.py") 685, Value.int 227 0, Value.int 1 0, Value.int 0 0, Value.int 0 0, Value.int 3 0, Value.ref 341, Value.bool Bool.true, Value.int 181 0, Value.ref 342, Value.none, Value.none, Value.none, Value.ref 343, Value.int 686 0, Value.int 227 0, Value.str (Str.ofString "/claim/cut.py") 687] }) ::
  (nat_lit 345, fnO (stN 51 PW.main.body) (Str.ofString "_law_ellipse_right") (Value.none) (Value.str (Str.ofString "law_pf0194_01") 628) 344) ::
  (nat_lit 351, { cls := Value.type "code", data := Data.fields #[Value.str (Str.ofString "_law_near") 689, Value.str (Str.ofString "_law_near") 690, Value.str (Str.ofString "/claim/cut.py") 691, Value.int 241 0, Value.int 3 0, Value.int 0 0, Value.int 0 0, Value.int 3 0, Value.ref 346, Value.bool Bool.true, Value.int 181 0, Value.ref 347, Value.none, Value.ref 348, Value.ref 349, Value.ref 350, Value.int 697 0, Value.int 241 0, Value.str (Str.ofString "/claim/cut.py") 698] }) ::
  (nat_lit 352, fnO (stN 52 PW.main.body) (Str.ofString "_law_near") (Value.none) (Value.str (Str.ofString "law_pf0194_01") 628) 351) ::
  (nat_lit 356, { cls := Value.type "code", data := Data.fields #[Value.str (Str.ofString "_law_arc_right") 700, Value.str (Str.ofString "_law_arc_right") 701, Value.str (Str.ofString "/claim/cut.py") 702, Value.int 246 0, Value.int 1 0, Value.int 0 0, Value.int 0 0, Value.int 3 0, Value.ref 353, Value.bool Bool.true, Value.int 181 0, Value.ref 354, Value.none, Value.none, Value.none, Value.ref 355, Value.int 703 0, Value.int 246 0, Value.str (Str.ofString "/claim/cut.py") 704] }) ::
  (nat_lit 357, fnO (stN 53 PW.main.body) (Str.ofString "_law_arc_right") (Value.none) (Value.str (Str.ofString "law_pf0194_01") 628) 356) ::
  (nat_lit 363, { cls := Value.type "code", data := Data.fields #[Value.str (Str.ofString "law") 706, Value.str (Str.ofString "law") 707, Value.str (Str.ofString "/claim/cut.py") 708, Value.int 259 0, Value.int 1 0, Value.int 0 0, Value.int 0 0, Value.int 3 0, Value.ref 358, Value.bool Bool.true, Value.int 181 0, Value.ref 359, Value.none, Value.ref 360, Value.ref 361, Value.ref 362, Value.int 712 0, Value.int 259 0, Value.str (Str.ofString "/claim/cut.py") 713] }) ::
  (nat_lit 364, fnO (stN 54 PW.main.body) (Str.ofString "law") (Value.none) (Value.str (Str.ofString "law_pf0194_01") 628) 363) :: []
noncomputable def as0 : List Addr := [3, 52, 53, 54, 60, 61, 74, 75, 88, 89, 95, 96, 102, 103, 109, 110, 116, 117, 123, 124, 130, 131, 132, 133, 139, 140, 146, 147, 153, 154, 160, 161, 167, 168, 169, 175, 176, 182, 183, 189, 190, 196, 197, 203, 204, 217, 218, 224, 225, 231, 232, 234, 235, 236, 237, 245, 246, 252, 253, 259, 260, 266, 267, 273, 274, 280, 281, 294, 295, 301, 302, 308, 309, 315, 316, 322, 323, 327, 328, 332, 333, 339, 340, 344, 345, 351, 352, 356, 357, 363, 364]
noncomputable def loose : List Str := (["MillError", "NumberFault", "common_divisor", "fraction", "plus", "minus", "times", "divided", "negated", "sign_of", "compare", "floor_of", "rounded", "root_floor", "PI_TOP", "PI_BOTTOM", "MORE", "RIGHT", "HALF_RIGHT", "scaled_radians", "series", "small_turn", "near", "quarter_turn", "turn_of", "PARTS", "in_parts", "turned", "dot", "cross", "Ellipse", "centre_of", "is_within_quarter", "quarter_on", "handle_share", "piece_of", "vectors_of", "straight", "point_told", "arc_cubics", "_law_pool", "_law_take", "_law_one", "_law_round", "_law_quarters_right", "_law_led", "_law_ellipse_right", "_law_near", "_law_arc_right"] : List String).map Str.ofString
noncomputable def qq : Program := view PW [54]
noncomputable def lawD : DefRec := match stN 54 PW.main.body with
  | .FunctionDef name args body _ _ _ scope _ _ pos => { name := name, params := args, body := body, scope := scope, pos := pos }
  | _ => { name := "", params := ⟨[], [], none, [], [], none, []⟩, body := [], scope := default, pos := default }
theorem lift_left {p q : Program} {loose : List Str} {Xt : Shared → Bool} {α : Type} {Yf : Shared → α} {Ya : World → α} {N : Nat} (e : opening p = plainProg p.main.scope.names) (hN : Nat.ble 600 N = true) (f : ∀ s, fenceModules? p s = some s)
    (h : ∀ (w : World) (os : OsState), (topFrom treeTable p w N ⟨boot_heap w.params, Array.mk [], boot_drawn, boot_toks, os⟩).map (fun s => (openSeen q loose (importedModules p.main.body) Xt true s, Yf s)) = some (openGood q loose, Ya w)) : LeftO p q loose Xt Yf Ya N := by
  intro w
  obtain ⟨s, h0, h1⟩ := Option.map_eq_some_iff.mp (boot_open e hN f w)
  obtain ⟨heap, gens, drawn, toks, os⟩ := s
  simp only [Prod.mk.injEq] at h1
  obtain ⟨rfl, rfl, rfl, rfl⟩ := h1
  unfold openEnds
  rw [h0, Option.bind_some]
  exact h w os
theorem pen : opening PW = plainProg PW.main.scope.names := by kernel_rfl
theorem fen : ∀ s, fenceModules? PW s = some s := fun _ => rfl
theorem as_eq : ∀ P, as0 = (hd.heap_39 P).map (·.1) := fun _ => by kernel_rfl
abbrev rr : OpenRow := PySem.Challenge.rw_pf0194_01.row
noncomputable abbrev xt (s : Shared) : Bool := xlAt qq [] s && recOk (RowW.records rr.toRowW) s
noncomputable abbrev yf (s : Shared) : List (Option Obj) := as0.map s.heap.get?
noncomputable abbrev ya (w : World) : List (Option Obj) := (hd.heap_39 w.params).map fun p => some p.2
theorem left : LeftO PW qq loose xt yf ya 4426 := by
  refine lift_left pen (by decide) fen fun w os => ?_
  first
    | (unfold topFrom
       rw [show treeTable = _ from PySem.W.Fast.te14364793385576792824, show @topRun = _ from PySem.W.Fast.te14082659384304107361, show @openSeen = _ from PySem.W.Fast.te4187177175401517315]
       kernel_rfl)
    | kernel_rfl
theorem said : PySem.Challenge.rw_pf0194_01.wellSaid = true := by
  first
    | (rw [show @OpenLaw.wellSaid = _ from PySem.W.Fast.te9446332074065402090]
       delta PySem.W.Fast.tw9446332074065402090 PySem.W.Fast.tw17960256430627541270
       delta PySem.W.Fast.tw2436336058641802641
       delta PySem.W.Fast.tw12908688711261696721
       (repeat' (with_reducible refine look_both ?_ ?_))
       all_goals decide +kernel)
    | kernel_rfl
theorem hd (walk : WalkO qq loose (XL qq []) (InK hd.heap_39) PySem.Challenge.rw_pf0194_01.row.toRowW lawD [] fun f vs => call f vs) : PySem.Challenge.rw_pf0194_01.Holds :=
  holds_law said fun k1 => W.holds_open (r := rr) (q := qq) (loose := loose) (Xt := xt) (XP := XL qq []) (Yf := yf)
    (Ya := ya) (YP := InK hd.heap_39) (N := 4426) left (InK.of as_eq) InK.keeps (fun s e => xl_of s (Bool.and_eq_true_iff.mp e).1) XL.keeps (by kernel_rfl) (by kernel_rfl) (by kernel_rfl)
    (fun s e => recFacts_of (Bool.and_eq_true_iff.mp e).2) (by kernel_rfl) k1 (by decide +kernel) ⟨rfl, rfl, rfl, rfl, rfl, by decide +kernel⟩ (by w_witness2) walk
end Mine
namespace Mine

structure Bs where
  hp : Heap
  hid : List Addr

inductive PV where
  | none
  | bool (b : Bool)
  | int (i : Int)
  | tup (l : List PV)
  | adr (i : Nat)
  | ell (rx ry c s : Int)
  | rng (a b c : Int)
  | blist (l : List Int)
  | raw (a : Addr)

mutual
noncomputable def noEll : PV → Bool
  | .ell .. => false
  | .tup l => noEllL l
  | _ => true
noncomputable def noEllL : List PV → Bool
  | [] => true
  | p :: r => noEll p && noEllL r
end

abbrev ellC : Addr := 235
noncomputable def EllAt (L : Addr) (h : Heap) (x : Addr) (rx ry c s : Int) : Prop :=
  ∃ dx es n t1 t2 t3 t4, dx ≠ L ∧ h.get? x = some (instObj ellC dx) ∧ h.get? dx = some (dictOf es n) ∧
    getL (Str.ofString "rx") es = some (some (.int rx t1)) ∧ getL (Str.ofString "ry") es = some (some (.int ry t2)) ∧
    getL (Str.ofString "cosine") es = some (some (.int c t3)) ∧ getL (Str.ofString "sine") es = some (some (.int s t4)) ∧
    getL (Str.ofString "led") es = some none ∧ getL (Str.ofString "back") es = some none

section
variable (hb : Bs) (L : Addr) (μ : List Addr) (h : Heap)
mutual
noncomputable def Rep : PV → Value → Prop
  | .none, v => v = .none
  | .bool b, v => v = .bool b
  | .int i, v => ∃ t, v = .int i t
  | .tup l, v => ∃ a vs, v = .ref a ∧ a ∉ hb.hid ∧ h.IsTuple a (List.toArray vs) ∧ RepL l vs
  | .adr i, v => ∃ a, μ[i]? = some a ∧ v = .ref a
  | .ell rx ry c s, v => ∃ x, v = .ref x ∧ EllAt L h x rx ry c s
  | .rng a b c, v => ∃ r t u w, v = .ref r ∧ IsRange h r a b c t u w
  | .blist l, v => ∃ a vs, v = .ref a ∧ hb.hp.IsList a (List.toArray vs) ∧ IntsAre vs l
  | .raw a, v => v = .ref a
noncomputable def RepL : List PV → List Value → Prop
  | [], vs => vs = []
  | p :: ps, vs => ∃ v r, vs = v :: r ∧ Rep p v ∧ RepL ps r
end
end

noncomputable def FrzN (H : List Addr) (a : Addr) (o : Obj) : Prop := (o.cls = .type "tuple" ∧ (∃ its k, o.data = .seq its k) ∧ a ∉ H) ∨ (o.cls = .type "range" ∧ ∃ fs, o.data = .fields fs)
noncomputable def Frz (H : List Addr) (L : Addr) (a : Addr) (o : Obj) : Prop := FrzN H a o ∨ ((∃ C, o.cls = .ref C) ∧ o.data = .plain) ∨ (o.cls = .type "dict" ∧ (∃ es k, o.data = .dict es k) ∧ a ≠ L)

section
variable {hb : Bs} {L L' : Addr} {μ μ' : List Addr} {h h' : Heap}

theorem get_pre (pre : μ <+: μ') {i : Nat} {a : Addr} (e : μ[i]? = some a) : μ'[i]? = some a := by
  obtain ⟨t, rfl⟩ := pre
  obtain ⟨hi, _⟩ := List.getElem?_eq_some_iff.mp e
  rw [List.getElem?_append_left hi]; exact e

theorem EllAt.mono {x : Addr} {rx ry c s : Int} (hk : ∀ a o, h.get? a = some o → Frz hb.hid L a o → h'.get? a = some o) (hl : ∀ a o, h.get? a = some o → a ≠ L → a ≠ L') (e : EllAt L h x rx ry c s) : EllAt L' h' x rx ry c s := by
  obtain ⟨dx, es, n, t1, t2, t3, t4, ne, hx, hd, r⟩ := e
  exact ⟨dx, es, n, t1, t2, t3, t4, hl _ _ hd ne, hk _ _ hx (.inr (.inl ⟨⟨_, rfl⟩, rfl⟩)), hk _ _ hd (.inr (.inr ⟨rfl, ⟨_, _, rfl⟩, ne⟩)), r⟩

mutual
theorem Rep.monoL (hk : ∀ a o, h.get? a = some o → Frz hb.hid L a o → h'.get? a = some o) (hl : ∀ a o, h.get? a = some o → a ≠ L → a ≠ L') (pre : μ <+: μ') : ∀ (p : PV) (v : Value), Rep hb L μ h p v → Rep hb L' μ' h' p v
  | .none, _, r => r
  | .bool _, _, r => r
  | .int _, _, r => r
  | .tup l, v, r => by
    simp only [Rep] at r ⊢
    obtain ⟨a, vs, e, nh, ⟨o, ho, hc, hd⟩, q⟩ := r
    exact ⟨a, vs, e, nh, ⟨o, hk _ _ ho (.inl (.inl ⟨hc, ⟨_, hd⟩, nh⟩)), hc, hd⟩, RepL.monoL hk hl pre l vs q⟩
  | .adr i, v, r => by
    simp only [Rep] at r ⊢
    obtain ⟨a, e, q⟩ := r
    exact ⟨a, get_pre pre e, q⟩
  | .ell .., v, r => by
    simp only [Rep] at r ⊢
    obtain ⟨x, e, q⟩ := r
    exact ⟨x, e, q.mono hk hl⟩
  | .rng .., v, r => by
    simp only [Rep] at r ⊢
    obtain ⟨x, t, u, w, e, q⟩ := r
    exact ⟨x, t, u, w, e, hk _ _ q (.inl (.inr ⟨rfl, _, rfl⟩))⟩
  | .blist _, v, r => by
    simp only [Rep] at r ⊢
    exact r
  | .raw _, v, r => by
    simp only [Rep] at r ⊢
    exact r
theorem RepL.monoL (hk : ∀ a o, h.get? a = some o → Frz hb.hid L a o → h'.get? a = some o) (hl : ∀ a o, h.get? a = some o → a ≠ L → a ≠ L') (pre : μ <+: μ') : ∀ (l : List PV) (vs : List Value), RepL hb L μ h l vs → RepL hb L' μ' h' l vs
  | [], _, r => by simp only [RepL] at r ⊢; exact r
  | p :: ps, vs, r => by
    simp only [RepL] at r ⊢
    obtain ⟨v, t, e, q, qs⟩ := r
    exact ⟨v, t, e, Rep.monoL hk hl pre p v q, RepL.monoL hk hl pre ps t qs⟩
end
theorem Rep.mono (hk : ∀ a o, h.get? a = some o → Frz hb.hid L a o → h'.get? a = some o) (pre : μ <+: μ') (p : PV) (v : Value) : Rep hb L μ h p v → Rep hb L μ' h' p v := Rep.monoL hk (fun _ _ _ e => e) pre p v
theorem RepL.mono (hk : ∀ a o, h.get? a = some o → Frz hb.hid L a o → h'.get? a = some o) (pre : μ <+: μ') (p : List PV) (v : List Value) : RepL hb L μ h p v → RepL hb L μ' h' p v := RepL.monoL hk (fun _ _ _ e => e) pre p v

mutual
theorem Rep.monoN (hk : ∀ a o, h.get? a = some o → FrzN hb.hid a o → h'.get? a = some o) (pre : μ <+: μ') : ∀ (p : PV) (v : Value), noEll p = true → Rep hb L μ h p v → Rep hb L' μ' h' p v
  | .none, _, _, r => r
  | .bool _, _, _, r => r
  | .int _, _, _, r => r
  | .tup l, v, n, r => by
    simp only [Rep] at r ⊢
    simp only [noEll] at n
    obtain ⟨a, vs, e, nh, ⟨o, ho, hc, hd⟩, q⟩ := r
    exact ⟨a, vs, e, nh, ⟨o, hk _ _ ho (.inl ⟨hc, ⟨_, hd⟩, nh⟩), hc, hd⟩, RepL.monoN hk pre l vs n q⟩
  | .adr i, v, _, r => by
    simp only [Rep] at r ⊢
    obtain ⟨a, e, q⟩ := r
    exact ⟨a, get_pre pre e, q⟩
  | .ell .., v, n, r => by simp only [noEll] at n; cases n
  | .rng .., v, _, r => by
    simp only [Rep] at r ⊢
    obtain ⟨x, t, u, w, e, q⟩ := r
    exact ⟨x, t, u, w, e, hk _ _ q (.inr ⟨rfl, _, rfl⟩)⟩
  | .blist _, v, _, r => by
    simp only [Rep] at r ⊢
    exact r
  | .raw _, v, _, r => by
    simp only [Rep] at r ⊢
    exact r
theorem RepL.monoN (hk : ∀ a o, h.get? a = some o → FrzN hb.hid a o → h'.get? a = some o) (pre : μ <+: μ') : ∀ (l : List PV) (vs : List Value), noEllL l = true → RepL hb L μ h l vs → RepL hb L' μ' h' l vs
  | [], _, _, r => by simp only [RepL] at r ⊢; exact r
  | p :: ps, vs, n, r => by
    simp only [RepL] at r ⊢
    simp only [noEllL, Bool.and_eq_true] at n
    obtain ⟨v, t, e, q, qs⟩ := r
    exact ⟨v, t, e, Rep.monoN hk pre p v n.1 q, RepL.monoN hk pre ps t n.2 qs⟩
end
theorem Rep.noL {p : PV} {v : Value} (n : noEll p = true) (r : Rep hb L μ h p v) : Rep hb L' μ h p v := Rep.monoN (fun _ _ e _ => e) (List.prefix_refl _) p v n r
theorem RepL.noL {p : List PV} {v : List Value} (n : noEllL p = true) (r : RepL hb L μ h p v) : RepL hb L' μ h p v := RepL.monoN (fun _ _ e _ => e) (List.prefix_refl _) p v n r

theorem RepL.length : ∀ {l : List PV} {vs : List Value}, RepL hb L μ h l vs → vs.length = l.length
  | [], _, r => by simp only [RepL] at r; subst r; rfl
  | _ :: ps, vs, r => by
    simp only [RepL] at r
    obtain ⟨v, t, rfl, _, qs⟩ := r
    simp only [List.length_cons, RepL.length qs]
theorem RepL.get : ∀ {l : List PV} {vs : List Value}, RepL hb L μ h l vs → ∀ {i : Nat} {p : PV}, l[i]? = some p → ∃ v, vs[i]? = some v ∧ Rep hb L μ h p v
  | [], _, _, _, _, e => by simp at e
  | p :: ps, vs, r, i, q, e => by
    simp only [RepL] at r
    obtain ⟨v, t, rfl, qv, qs⟩ := r
    cases i with
    | zero => simp at e; subst e; exact ⟨v, by simp, qv⟩
    | succ i => simp at e; obtain ⟨u, hu, hq⟩ := RepL.get qs e; exact ⟨u, by simpa using hu, hq⟩
theorem RepL.append : ∀ {l l' : List PV} {vs vs' : List Value}, RepL hb L μ h l vs → RepL hb L μ h l' vs' → RepL hb L μ h (l ++ l') (vs ++ vs')
  | [], _, _, _, r, r' => by simp only [RepL] at r; subst r; exact r'
  | p :: ps, l', vs, vs', r, r' => by
    simp only [RepL] at r
    obtain ⟨v, t, rfl, qv, qs⟩ := r
    show RepL hb L μ h (p :: (ps ++ l')) (v :: (t ++ vs'))
    simp only [RepL]
    exact ⟨v, _, rfl, qv, RepL.append qs r'⟩
theorem RepL.single {p : PV} {v : Value} (r : Rep hb L μ h p v) : RepL hb L μ h [p] [v] := by
  simp only [RepL]; exact ⟨v, [], rfl, r, rfl⟩
theorem RepL.cons {p : PV} {v : Value} {ps : List PV} {vs : List Value} (r : Rep hb L μ h p v) (q : RepL hb L μ h ps vs) : RepL hb L μ h (p :: ps) (v :: vs) := by
  simp only [RepL]; exact ⟨v, vs, rfl, r, q⟩
theorem RepL.nil : RepL hb L μ h [] [] := by simp only [RepL]
end

theorem noEllL_append : ∀ {l l' : List PV}, noEllL l = true → noEllL l' = true → noEllL (l ++ l') = true
  | [], _, _, h => h
  | p :: ps, l', h, h' => by
    simp only [noEllL, Bool.and_eq_true, List.cons_append] at h ⊢
    exact ⟨h.1, noEllL_append h.2 h'⟩
theorem noEllL_get : ∀ {l : List PV} {i : Nat} {p : PV}, noEllL l = true → l[i]? = some p → noEll p = true
  | [], _, _, _, e => by simp at e
  | q :: ps, i, p, h, e => by
    simp only [noEllL, Bool.and_eq_true] at h
    cases i with
    | zero => simp at e; exact e ▸ h.1
    | succ i => simp at e; exact noEllL_get h.2 e

noncomputable def LstAt (hb : Bs) (μ : List Addr) (h : Heap) (a : Addr) (l : List PV) : Prop :=
  ∃ vs n, h.get? a = some (listOf (List.toArray vs) n) ∧ RepL hb 0 μ h l vs ∧ noEllL l = true

structure StoreOk (hb : Bs) (μ : List Addr) (τ : List (List PV)) (h : Heap) : Prop where
  len : μ.length = τ.length
  nd : μ.Nodup
  at_ : ∀ (i : Nat) (a : Addr) (l : List PV), μ[i]? = some a → τ[i]? = some l → LstAt hb μ h a l
  base : ∀ a ∈ μ, hb.hp.get? a = none

structure Base (hb : Bs) (h : Heap) : Prop where
  up : ∀ b o, hb.hp.get? b = some o → h.get? b = some o
  hid : ∀ a ∈ hb.hid, ∃ o, h.get? a = some o ∧ o.cls = .type "tuple" ∧ ∃ its k, o.data = .seq its k
  new : ∀ a ∈ hb.hid, hb.hp.get? a = none

theorem Base.fresh {hb : Bs} {h : Heap} {a : Addr} (B : Base hb h) (e : h.get? a = none) : a ∉ hb.hid := fun m => by
  obtain ⟨o, e', _⟩ := B.hid a m
  rw [e] at e'; cases e'
theorem Base.grow {hb : Bs} {h h' : Heap} (B : Base hb h) (k : ∀ a o, h.get? a = some o → h'.get? a = some o) : Base hb h' :=
  ⟨fun a o e => k a o (B.up a o e), fun a m => let ⟨o, e, r⟩ := B.hid a m; ⟨o, k a o e, r⟩, B.new⟩

structure Stp (hb : Bs) (μ : List Addr) (h : Heap) (μ' : List Addr) (τ' : List (List PV)) (h' : Heap) : Prop where
  ext : ∀ a o, h.get? a = some o → a ∉ μ → h'.get? a = some o
  pre : μ <+: μ'
  fresh : ∀ a ∈ μ', a ∈ μ ∨ h.get? a = none
  store : StoreOk hb μ' τ' h'

theorem LstAt.cls {hb : Bs} {μ : List Addr} {h : Heap} {a : Addr} {l : List PV} (x : LstAt hb μ h a l) : ∃ o, h.get? a = some o ∧ o.cls = .type "list" ∧ ∃ vs n, o.data = .seq vs n :=
  let ⟨_, _, e, _⟩ := x; ⟨_, e, rfl, _, _, rfl⟩

theorem StoreOk.mem_list {hb : Bs} {μ : List Addr} {τ : List (List PV)} {h : Heap} (S : StoreOk hb μ τ h) {a : Addr} (m : a ∈ μ) : ∃ o, h.get? a = some o ∧ o.cls = .type "list" ∧ ∃ vs n, o.data = .seq vs n := by
  obtain ⟨i, hi, rfl⟩ := List.getElem_of_mem m
  have hl : i < τ.length := S.len ▸ hi
  exact (S.at_ i μ[i] τ[i] (by simp [hi]) (by simp [hl])).cls
theorem StoreOk.not_mem {hb : Bs} {μ : List Addr} {τ : List (List PV)} {h : Heap} (S : StoreOk hb μ τ h) {a : Addr} {o : Obj} (e : h.get? a = some o) (n : o.cls ≠ .type "list") : a ∉ μ := fun m => by
  obtain ⟨o', e', c, _⟩ := S.mem_list m
  rw [e] at e'; cases e'; exact n c
theorem StoreOk.not_memD {hb : Bs} {μ : List Addr} {τ : List (List PV)} {h : Heap} (S : StoreOk hb μ τ h) {a : Addr} {o : Obj} (e : h.get? a = some o) (n : ∀ vs k, o.data ≠ .seq vs k) : a ∉ μ := fun m => by
  obtain ⟨o', e', _, vs, k, d⟩ := S.mem_list m
  rw [e] at e'; cases e'; exact n _ _ d
theorem Frz.not_list {H : List Addr} {L a : Addr} {o : Obj} (f : Frz H L a o) : ¬ (o.cls = .type "list" ∧ ∃ vs k, o.data = .seq vs k) := by
  rintro ⟨c, vs, k, d⟩
  rcases f with (⟨e, _⟩ | ⟨e, _⟩) | ⟨⟨C, e⟩, _⟩ | ⟨e, _⟩ <;> (rw [e] at c; simp at c)
theorem StoreOk.not_memF {hb : Bs} {μ : List Addr} {τ : List (List PV)} {h : Heap} (S : StoreOk hb μ τ h) {H : List Addr} {L a : Addr} {o : Obj} (e : h.get? a = some o) (f : Frz H L a o) : a ∉ μ := fun m => by
  obtain ⟨o', e', c, d⟩ := S.mem_list m
  rw [e] at e'; cases e'; exact f.not_list ⟨c, d⟩
theorem StoreOk.frozen {hb : Bs} {μ μ' : List Addr} {τ τ' : List (List PV)} {h h' : Heap} (S : StoreOk hb μ τ h) {L : Addr} (T : Stp hb μ h μ' τ' h') : ∀ a o, h.get? a = some o → Frz hb.hid L a o → h'.get? a = some o :=
  fun a o e f => T.ext a o e (S.not_memF e f)
theorem StoreOk.base_kept {hb : Bs} {μ μ' : List Addr} {τ τ' : List (List PV)} {h h' : Heap} (S : StoreOk hb μ τ h) (B : Base hb h) (T : Stp hb μ h μ' τ' h') : Base hb h' :=
  ⟨fun a o e => T.ext a o (B.up a o e) (fun m => by rw [S.base a m] at e; cases e), fun a m => let ⟨o, e, c, d⟩ := B.hid a m; ⟨o, T.ext a o e (S.not_mem e (by rw [c]; simp)), c, d⟩, B.new⟩
theorem Rep.step {hb : Bs} {L : Addr} {μ μ' : List Addr} {τ τ' : List (List PV)} {h h' : Heap} {p : PV} {v : Value} (r : Rep hb L μ h p v) (S : StoreOk hb μ τ h) (T : Stp hb μ h μ' τ' h') : Rep hb L μ' h' p v :=
  Rep.mono (S.frozen T) T.pre p v r
theorem RepL.step {hb : Bs} {L : Addr} {μ μ' : List Addr} {τ τ' : List (List PV)} {h h' : Heap} {p : List PV} {v : List Value} (r : RepL hb L μ h p v) (S : StoreOk hb μ τ h) (T : Stp hb μ h μ' τ' h') : RepL hb L μ' h' p v :=
  RepL.mono (S.frozen T) T.pre p v r

theorem Stp.refl {hb : Bs} {μ : List Addr} {τ : List (List PV)} {h : Heap} (S : StoreOk hb μ τ h) : Stp hb μ h μ τ h :=
  ⟨fun _ _ e _ => e, List.prefix_refl _, fun _ m => .inl m, S⟩
theorem Stp.trans {hb : Bs} {μ μ₁ μ₂ : List Addr} {τ₁ τ₂ : List (List PV)} {h h₁ h₂ : Heap} (T : Stp hb μ h μ₁ τ₁ h₁) (U : Stp hb μ₁ h₁ μ₂ τ₂ h₂) : Stp hb μ h μ₂ τ₂ h₂ where
  ext a o e n := U.ext a o (T.ext a o e n) fun m => (T.fresh a m).elim n fun q => by rw [e] at q; cases q
  pre := T.pre.trans U.pre
  fresh a m := by
    rcases U.fresh a m with q | q
    · exact T.fresh a q
    · by_cases ha : a ∈ μ
      · exact .inl ha
      · refine .inr ?_
        cases e : h.get? a with
        | none => rfl
        | some o => rw [T.ext a o e ha] at q; cases q
  store := U.store

theorem StoreOk.grow {hb : Bs} {μ : List Addr} {τ : List (List PV)} {h h' : Heap} (S : StoreOk hb μ τ h) (k : ∀ a o, h.get? a = some o → h'.get? a = some o) : StoreOk hb μ τ h' where
  len := S.len
  nd := S.nd
  base := S.base
  at_ i a l e1 e2 := by
    obtain ⟨vs, n, g, r, q⟩ := S.at_ i a l e1 e2
    exact ⟨vs, n, k _ _ g, RepL.mono (fun a o e _ => k a o e) (List.prefix_refl _) _ _ r, q⟩
theorem Stp.grow {hb : Bs} {μ : List Addr} {τ : List (List PV)} {h h' : Heap} (S : StoreOk hb μ τ h) (k : ∀ a o, h.get? a = some o → h'.get? a = some o) : Stp hb μ h μ τ h' :=
  ⟨fun a o e _ => k a o e, List.prefix_refl _, fun _ m => .inl m, S.grow k⟩
theorem StoreOk.keep {hb : Bs} {μ : List Addr} {τ : List (List PV)} {h h' : Heap} (S : StoreOk hb μ τ h) (k : ∀ a o, h.get? a = some o → FrzN hb.hid a o → h'.get? a = some o) (k' : ∀ a o, h.get? a = some o → a ∈ μ → h'.get? a = some o) : StoreOk hb μ τ h' where
  len := S.len
  nd := S.nd
  base := S.base
  at_ i a l e1 e2 := by
    obtain ⟨vs, n, g, r, q⟩ := S.at_ i a l e1 e2
    exact ⟨vs, n, k' _ _ g (List.mem_of_getElem? e1), RepL.monoN k (List.prefix_refl _) _ _ q r, q⟩

theorem Stp.alloc {hb : Bs} {μ : List Addr} {τ : List (List PV)} {h h' : Heap} {l : List PV} {vs : List Value} {n : Nat} {a L : Addr} (S : StoreOk hb μ τ h) (B : Base hb h) (k : ∀ a o, h.get? a = some o → h'.get? a = some o)
    (hn : h.get? a = none) (ha : h'.get? a = some (listOf vs.toArray n)) (r : RepL hb L μ h l vs) (ne : noEllL l = true) : Stp hb μ h (μ ++ [a]) (τ ++ [l]) h' where
  ext b o e _ := k b o e
  pre := List.prefix_append _ _
  fresh b m := by
    rcases List.mem_append.mp m with q | q
    · exact .inl q
    · rw [List.mem_singleton.mp q]; exact .inr hn
  store := by
    have notin : a ∉ μ := fun m => by obtain ⟨o, e, _⟩ := S.mem_list m; rw [hn] at e; cases e
    refine ⟨by simp [S.len], ?_, ?_, ?_⟩
    · rw [List.nodup_append]
      refine ⟨S.nd, by simp, ?_⟩
      intro x hx y hy e
      rw [List.mem_singleton.mp hy] at e
      exact notin (e ▸ hx)
    · intro i b l' e1 e2
      by_cases hi : i < μ.length
      · rw [List.getElem?_append_left hi] at e1
        rw [List.getElem?_append_left (S.len ▸ hi)] at e2
        obtain ⟨vs', n', g, r', q⟩ := S.at_ i b l' e1 e2
        exact ⟨vs', n', k _ _ g, RepL.mono (fun a o e _ => k a o e) (List.prefix_append _ _) _ _ r', q⟩
      · have hi2 : i = μ.length := by
          have := (List.getElem?_eq_some_iff.mp e1).1
          simp at this; omega
        subst hi2
        rw [List.getElem?_append_right (Nat.le_refl _)] at e1
        rw [List.getElem?_append_right (by rw [S.len]; exact Nat.le_refl _)] at e2
        simp at e1
        simp [S.len] at e2
        subst e1; subst e2
        exact ⟨vs, n, ha, RepL.noL ne (RepL.mono (fun a o e _ => k a o e) (List.prefix_append _ _) _ _ r), ne⟩
    · intro b m
      rcases List.mem_append.mp m with q | q
      · exact S.base b q
      · rw [List.mem_singleton.mp q]
        cases e : hb.hp.get? a with
        | none => rfl
        | some o => rw [B.up a o e] at hn; cases hn

theorem Stp.set {hb : Bs} {μ : List Addr} {τ : List (List PV)} {h h' : Heap} {l : List PV} {vs : List Value} {n : Nat} {i : Nat} {a L : Addr} (S : StoreOk hb μ τ h) (ei : μ[i]? = some a)
    (k : ∀ b o, b ≠ a → h.get? b = some o → h'.get? b = some o) (ha : h'.get? a = some (listOf vs.toArray n)) (r : RepL hb L μ h l vs) (ne : noEllL l = true) : Stp hb μ h μ (τ.set i l) h' where
  ext b o e m := k b o (fun q => m (q ▸ List.mem_of_getElem? ei)) e
  pre := List.prefix_refl _
  fresh b m := .inl m
  store := by
    have fr : ∀ (L : Addr) b o, h.get? b = some o → Frz hb.hid L b o → h'.get? b = some o := fun L b o e f => k b o (fun q => S.not_memF e f (q ▸ List.mem_of_getElem? ei)) e
    refine ⟨by simp [S.len], S.nd, ?_, S.base⟩
    intro j b l' e1 e2
    by_cases hij : j = i
    · subst hij
      rw [ei] at e1; cases e1
      have hj := (List.getElem?_eq_some_iff.mp e2).1
      rw [List.length_set] at hj
      rw [List.getElem?_set_self hj] at e2
      cases e2
      exact ⟨vs, n, ha, RepL.noL ne (RepL.mono (fr _) (List.prefix_refl _) _ _ r), ne⟩
    · rw [List.getElem?_set_ne (fun q => hij q.symm)] at e2
      obtain ⟨vs', n', g, r', q⟩ := S.at_ j b l' e1 e2
      refine ⟨vs', n', k _ _ (fun q => hij ?_) g, RepL.mono (fr _) (List.prefix_refl _) _ _ r', q⟩
      subst q
      have h1 := (List.getElem?_eq_some_iff.mp e1)
      have h2 := (List.getElem?_eq_some_iff.mp ei)
      exact (List.getElem_inj S.nd).mp (h1.2.trans h2.2.symm)
end Mine
namespace Mine

abbrev PR : Program := PySem.Challenge.rw_pf0194_01.row.prog
noncomputable abbrev KK (w : World) : Frag := hd.heap_39 w.params

structure AOk (n : Nat) (A : Around) : Prop where
  hd : A.handled = none
  depth : A.depth + n < recursionLimit
  units : A.units + 8 * n + 80 < cLine
theorem AOk.le {n m : Nat} {A : Around} (h : AOk n A) (l : m ≤ n) : AOk m A := ⟨h.hd, by have := h.depth; omega, by have := h.units; omega⟩
theorem AOk.uni {n : Nat} {A : Around} (h : AOk n A) : A.units < cLine := by have := h.units; omega

structure EnvOk (env : Env) (sc : Scope) : Prop where
  scope : env.scope = sc
  globals : env.globals = mainGlobals
  builtins : env.builtins = builtinsNs
  kind : sc.kind = .function
  cells : ∀ x, sc.names.lookup x = some .cell → ∃ c, env.cells.lookup x = some c
  nodbg : sc.names.lookup ("__debug__" : Str) = none

structure HB (w : World) (hb : Bs) : Prop where
  kin : (KK w).In hb.hp
  top : ∃ p loose mean mg mb, Top p loose mean mg mb hb.hp

noncomputable def VarAt (env : Env) (m : Str → Option Value) (h : Heap) (x : Str) (v : Value) : Prop :=
  (env.kindOf x = some .local ∧ m x = some v) ∨ ((env.kindOf x = some .cell ∨ (env.kindOf x = some .free ∧ (x == ("__classdict__" : Str)) = false)) ∧ ∃ c, env.cells.lookup x = some c ∧ h.IsCell c (some v))

structure Inv (hb : Bs) (env : Env) (m : Str → Option Value) (μ : List Addr) (ρ : List (Str × PV)) (τ : List (List PV)) (h : Heap) : Prop where
  base : Base hb h
  ns : h.Ns env.locals m
  cells : ∀ x c, (x, c) ∈ env.cells → ∃ v₀, h.IsCell c v₀
  apart : env.cells.Pairwise (fun x y => x.2 ≠ y.2)
  freshL : hb.hp.get? env.locals = none
  freshC : ∀ x c, (x, c) ∈ env.cells → hb.hp.get? c = none
  vars : ∀ x p, ρ.lookup x = some p → ∃ v, VarAt env m h x v ∧ Rep hb env.locals μ h p v
  store : StoreOk hb μ τ h

noncomputable def Same (s s' : Shared) : Prop := s'.gens = s.gens ∧ s'.drawn = s.drawn ∧ s'.os = s.os
theorem Same.refl (s : Shared) : Same s s := ⟨rfl, rfl, rfl⟩
theorem Same.trans {a b c : Shared} (x : Same a b) (y : Same b c) : Same a c := ⟨y.1.trans x.1, y.2.1.trans x.2.1, y.2.2.trans x.2.2⟩

abbrev St := List (List PV)
noncomputable def Post (hb : Bs) (L : Addr) (s : Shared) (μ : List Addr) (Q : PV → St → Prop) (v : Value) (s' : Shared) : Prop :=
  ∃ μ' τ' p, Stp hb μ s.heap μ' τ' s'.heap ∧ Rep hb L μ' s'.heap p v ∧ Same s s' ∧ Q p τ'
noncomputable def PostL (hb : Bs) (L : Addr) (s : Shared) (μ : List Addr) (Q : List PV → St → Prop) (vs : List Value) (s' : Shared) : Prop :=
  ∃ μ' τ' ps, Stp hb μ s.heap μ' τ' s'.heap ∧ RepL hb L μ' s'.heap ps vs ∧ Same s s' ∧ Q ps τ'
noncomputable def PostB (hb : Bs) (s : Shared) (μ : List Addr) (Q : Bool → St → Prop) (b : Bool) (s' : Shared) : Prop :=
  ∃ μ' τ', Stp hb μ s.heap μ' τ' s'.heap ∧ Same s s' ∧ Q b τ'
noncomputable def NoE : Value → Shared → Prop := fun _ _ => False

theorem rep_int {hb : Bs} {L : Addr} {μ : List Addr} {h : Heap} {i : Int} {t : Tok} : Rep hb L μ h (.int i) (.int i t) := by simp only [Rep]; exact ⟨_, rfl⟩
theorem rep_bool {hb : Bs} {L : Addr} {μ : List Addr} {h : Heap} {b : Bool} : Rep hb L μ h (.bool b) (.bool b) := by simp only [Rep]
theorem rep_none {hb : Bs} {L : Addr} {μ : List Addr} {h : Heap} : Rep hb L μ h .none .none := by simp only [Rep]
section
variable {w : World} {hb : Bs} {n : Nat} {sc : Scope} {ρ : List (Str × PV)} {τ : St}

theorem Inv.step {env : Env} {m : Str → Option Value} {μ μ' : List Addr} {τ' : St} {h h' : Heap} (I : Inv hb env m μ ρ τ h) (T : Stp hb μ h μ' τ' h') : Inv hb env m μ' ρ τ' h' := by
  have cellk : ∀ c v, h.IsCell c v → h'.IsCell c v := fun c v ⟨o, ho, hd⟩ => ⟨o, T.ext _ _ ho (I.store.not_memD ho (by rw [hd]; intro _ _ e; cases e)), hd⟩
  refine ⟨I.store.base_kept I.base T, ?_, ?_, I.apart, I.freshL, I.freshC, ?_, T.store⟩
  · obtain ⟨o, es, ep, ho, hd, r⟩ := I.ns
    exact ⟨o, es, ep, T.ext _ _ ho (I.store.not_memD ho (by rw [hd]; intro _ _ e; cases e)), hd, r⟩
  · intro x c m
    obtain ⟨v₀, q⟩ := I.cells x c m
    exact ⟨v₀, cellk _ _ q⟩
  · intro x p e
    obtain ⟨v, hv, r⟩ := I.vars x p e
    refine ⟨v, ?_, r.step I.store T⟩
    rcases hv with q | ⟨q, c, hc, hv⟩
    · exact .inl q
    · exact .inr ⟨q, c, hc, cellk _ _ hv⟩

theorem Post.trans {L : Addr} {s s₁ s' : Shared} {μ μ₁ : List Addr} {τ₁ : St} {Q : PV → St → Prop} {v : Value} (T : Stp hb μ s.heap μ₁ τ₁ s₁.heap) (e : Same s s₁) (p : Post hb L s₁ μ₁ Q v s') : Post hb L s μ Q v s' := by
  obtain ⟨μ', τ', q, T', r, e', hq⟩ := p
  exact ⟨μ', τ', q, T.trans T', r, e.trans e', hq⟩
theorem PostL.trans {L : Addr} {s s₁ s' : Shared} {μ μ₁ : List Addr} {τ₁ : St} {Q : List PV → St → Prop} {v : List Value} (T : Stp hb μ s.heap μ₁ τ₁ s₁.heap) (e : Same s s₁) (p : PostL hb L s₁ μ₁ Q v s') : PostL hb L s μ Q v s' := by
  obtain ⟨μ', τ', q, T', r, e', hq⟩ := p
  exact ⟨μ', τ', q, T.trans T', r, e.trans e', hq⟩
theorem PostB.trans {s s₁ s' : Shared} {μ μ₁ : List Addr} {τ₁ : St} {Q : Bool → St → Prop} {v : Bool} (T : Stp hb μ s.heap μ₁ τ₁ s₁.heap) (e : Same s s₁) (p : PostB hb s₁ μ₁ Q v s') : PostB hb s μ Q v s' := by
  obtain ⟨μ', τ', T', e', hq⟩ := p
  exact ⟨μ', τ', T.trans T', e.trans e', hq⟩
theorem Post.here {L : Addr} {s s' : Shared} {μ : List Addr} {τ : St} {Q : PV → St → Prop} {v : Value} {p : PV} (S : StoreOk hb μ τ s.heap) (hh : s'.heap = s.heap) (e : Same s s') (r : Rep hb L μ s.heap p v) (q : Q p τ) : Post hb L s μ Q v s' := by
  refine ⟨μ, τ, p, ?_, ?_, e, q⟩
  · rw [hh]; exact Stp.refl S
  · rw [hh]; exact r

noncomputable def EV (w : World) (hb : Bs) (n : Nat) (sc : Scope) (e : Expr) (ρ : List (Str × PV)) (τ : St) (Q : PV → St → Prop) : Prop :=
  HB w hb → ∀ (A : Around) (env : Env) (m : Str → Option Value) (μ : List Addr) (s : Shared), AOk n A → EnvOk env sc → Inv hb env m μ ρ τ s.heap →
    wpAny (model PR w) A (eval e env) (Post hb env.locals s μ Q) NoE s
noncomputable def EVs (w : World) (hb : Bs) (n : Nat) (sc : Scope) (es : List Expr) (ρ : List (Str × PV)) (τ : St) (Q : List PV → St → Prop) : Prop :=
  HB w hb → ∀ (A : Around) (env : Env) (m : Str → Option Value) (μ : List Addr) (s : Shared) (pos : Pos), AOk n A → EnvOk env sc → Inv hb env m μ ρ τ s.heap →
    wpAny (model PR w) A (spliced (backTo pos (starEach es env))) (PostL hb env.locals s μ Q) NoE s
noncomputable def ET (w : World) (hb : Bs) (n : Nat) (sc : Scope) (e : Expr) (ρ : List (Str × PV)) (τ : St) (Q : Bool → St → Prop) : Prop :=
  HB w hb → ∀ (A : Around) (env : Env) (m : Str → Option Value) (μ : List Addr) (s : Shared), AOk n A → EnvOk env sc → Inv hb env m μ ρ τ s.heap →
    wpAny (model PR w) A (isTrue e env (eval e env)) (PostB hb s μ Q) NoE s
noncomputable def O2 (w : World) (hb : Bs) (n : Nat) (t : Value → Value → Sem Value) (a b : PV) (τ : St) (Q : PV → St → Prop) : Prop :=
  HB w hb → ∀ (A : Around) (L : Addr) (μ : List Addr) (s : Shared) (x y : Value), AOk n A → Base hb s.heap → StoreOk hb μ τ s.heap → Rep hb L μ s.heap a x → Rep hb L μ s.heap b y →
    wpAny (model PR w) A (t x y) (Post hb L s μ Q) NoE s
noncomputable def O1 (w : World) (hb : Bs) (n : Nat) (t : Value → Sem Value) (a : PV) (τ : St) (Q : PV → St → Prop) : Prop :=
  HB w hb → ∀ (A : Around) (L : Addr) (μ : List Addr) (s : Shared) (x : Value), AOk n A → Base hb s.heap → StoreOk hb μ τ s.heap → Rep hb L μ s.heap a x →
    wpAny (model PR w) A (t x) (Post hb L s μ Q) NoE s
noncomputable def CL (w : World) (hb : Bs) (n : Nat) (f : Value) (ps : List PV) (τ : St) (Q : PV → St → Prop) : Prop :=
  HB w hb → ∀ (A : Around) (L : Addr) (μ : List Addr) (s : Shared) (vs : List Value), AOk n A → Base hb s.heap → (∃ o, s.heap.get? L = some o) → StoreOk hb μ τ s.heap → RepL hb L μ s.heap ps vs →
    wpAny (model PR w) A (call f vs) (Post hb L s μ Q) NoE s

theorem noE {P : Prop} {v : Value} {s : Shared} (h : NoE v s) : P := h.elim

theorem EV.bind1 {e : Expr} {Q' : PV → St → Prop} {A : Around} {env : Env} {m : Str → Option Value} {μ : List Addr} {s : Shared} (h : EV w hb n sc e ρ τ Q') (H : HB w hb) (hA : AOk n A) (hE : EnvOk env sc) (hI : Inv hb env m μ ρ τ s.heap)
    {R : Value → Shared → Prop} (k : ∀ (v : Value) (s₁ : Shared) (μ₁ : List Addr) (τ₁ : St) (p : PV), Stp hb μ s.heap μ₁ τ₁ s₁.heap → Same s s₁ → Inv hb env m μ₁ ρ τ₁ s₁.heap → Rep hb env.locals μ₁ s₁.heap p v → Q' p τ₁ → R v s₁) :
    wpAny (model PR w) A (eval e env) R NoE s := by
  refine wpAny_mono (h H A env m μ s hA hE hI) (fun v s₁ hp => ?_) fun _ _ x => x
  obtain ⟨μ₁, τ₁, p, T, r, e, q⟩ := hp
  exact k v s₁ μ₁ τ₁ p T e (hI.step T) r q

theorem EV.imp {e : Expr} {Q Q' : PV → St → Prop} (h : EV w hb n sc e ρ τ Q') (k : ∀ p τ', Q' p τ' → Q p τ') : EV w hb n sc e ρ τ Q := by
  intro H A env m μ s hA hE hI
  exact h.bind1 H hA hE hI fun v s₁ μ₁ τ₁ p T e I r q => ⟨μ₁, τ₁, p, T, r, e, k _ _ q⟩

theorem EV_int {i : Int} {k : Nat} {pos : Pos} {Q : PV → St → Prop} (q : Q (.int i) τ) : EV w hb n sc (.Constant (.int i) k pos) ρ τ Q := by
  intro H A env m μ s hA hE hI
  exact wpAny_Constant_int (Post.here hI.store rfl ⟨rfl, rfl, rfl⟩ rep_int q)
theorem EV_bool {b : Bool} {k : Nat} {pos : Pos} {Q : PV → St → Prop} (q : Q (.bool b) τ) : EV w hb n sc (.Constant (.bool b) k pos) ρ τ Q := by
  intro H A env m μ s hA hE hI
  exact wpAny_Constant_bool (Post.here hI.store rfl ⟨rfl, rfl, rfl⟩ rep_bool q)

theorem EnvOk.dbg {env : Env} {x : Str} {k : NameKind} (hE : EnvOk env sc) (h : sc.names.lookup x = some k) : (x == ("__debug__" : Str)) = false := by
  by_cases e : x = ("__debug__" : Str)
  · rw [e, hE.nodbg] at h; cases h
  · exact beq_false_of_ne e
theorem EnvOk.dbgV {env : Env} {m : Str → Option Value} {h : Heap} {x : Str} {v : Value} (hE : EnvOk env sc) (hv : VarAt env m h x v) : (x == ("__debug__" : Str)) = false := by
  have k : ∀ q, env.kindOf x = some q → sc.names.lookup x = some q := fun q e => by rw [← hE.scope]; exact e
  rcases hv with ⟨hl, _⟩ | ⟨hl | ⟨hl, _⟩, _⟩ <;> exact hE.dbg (k _ hl)
theorem EV_var {x : Str} {pos : Pos} {p : PV} {Q : PV → St → Prop} (e : ρ.lookup x = some p) (q : Q p τ) : EV w hb n sc (.Name x pos) ρ τ Q := by
  intro H A env m μ s hA hE hI
  obtain ⟨v, hv, r⟩ := hI.vars x p e
  have fin : Post hb env.locals s μ Q v s := Post.here hI.store rfl (Same.refl s) r q
  have hk : env.scope.kind = .function := by rw [hE.scope]; exact hE.kind
  refine wpAny_Name ?_ (hE.dbgV hv)
  rcases hv with ⟨hl, hm⟩ | ⟨hl | ⟨hl, hn⟩, c, hc, hv⟩
  · exact wpAny_loadName_local hk hl hI.ns hm fin
  · exact wpAny_loadName_cell hk hl hc hv fin
  · exact wpAny_loadName_free hk hl hc hv fin hn

theorem wp_global {A : Around} {env : Env} {m : Str → Option Value} {μ : List Addr} {s : Shared} {x : Str} {pos : Pos} {v : Value} {R : Value → Shared → Prop} (H : HB w hb) (hE : EnvOk env sc) (hI : Inv hb env m μ ρ τ s.heap)
    (hx : sc.names.lookup x = some .globalImplicit) (e : nsIn (KK w) mainGlobals x = some (some v)) (r : R v s) : wpAny (model PR w) A (eval (.Name x pos) env) R NoE s := by
  obtain ⟨p, loose, mean, mg, mb, T⟩ := H.top
  refine Name_function_global (by rw [hE.scope]; exact hE.kind) (by show env.scope.names.lookup x = _; rw [hE.scope]; exact hx) ?_ (hE.dbg hx)
  exact loadGlobal_global (mg := mg) (by rw [hE.globals]; exact T.g.keeps hI.base.up) (mg_of H.kin T.g e) r
theorem wp_builtin {A : Around} {env : Env} {m : Str → Option Value} {μ : List Addr} {s : Shared} {x : Str} {pos : Pos} {v : Value} {R : Value → Shared → Prop} (H : HB w hb) (hE : EnvOk env sc) (hI : Inv hb env m μ ρ τ s.heap)
    (hx : sc.names.lookup x = some .globalImplicit) (e : nsIn (KK w) mainGlobals x = some none) (hv : bootBuiltins x = some v) (hn : x ≠ "__name__") (r : R v s) : wpAny (model PR w) A (eval (.Name x pos) env) R NoE s := by
  obtain ⟨p, loose, mean, mg, mb, T⟩ := H.top
  refine Name_function_global (by rw [hE.scope]; exact hE.kind) (by show env.scope.names.lookup x = _; rw [hE.scope]; exact hx) ?_ (hE.dbg hx)
  exact loadGlobal_builtin (mg := mg) (mb := mb) (by rw [hE.globals]; exact T.g.keeps hI.base.up) (mg_none_of H.kin T.g e) (by rw [hE.builtins]; exact T.b.keeps hI.base.up) ((T.builtins x hn).trans hv) r

theorem EV_gint {x : Str} {pos : Pos} {i : Int} {t : Tok} {Q : PV → St → Prop} (hx : sc.names.lookup x = some .globalImplicit) (e : nsIn (KK w) mainGlobals x = some (some (.int i t))) (q : Q (.int i) τ) :
    EV w hb n sc (.Name x pos) ρ τ Q := fun H _ _ _ _ s _ hE hI => wp_global H hE hI hx e (Post.here hI.store rfl (Same.refl s) rep_int q)

theorem EV_BinOp {l r : Expr} {op : Operator} {pos : Pos} {Q : PV → St → Prop} (h : EV w hb n sc l ρ τ fun a τ₁ => EV w hb n sc r ρ τ₁ fun b τ₂ => O2 w hb n (binaryOp op) a b τ₂ Q) : EV w hb n sc (.BinOp l op r pos) ρ τ Q := by
  intro H A env m μ s hA hE hI
  refine wpAny_BinOp (h.bind1 H hA hE hI fun a s₁ μ₁ τ₁ pa T₁ e₁ I₁ ra q₁ => ?_)
  refine q₁.bind1 H hA hE I₁ fun b s₂ μ₂ τ₂ pb T₂ e₂ I₂ rb q₂ => ?_
  exact wpAny_mono (q₂ H A env.locals μ₂ s₂ a b hA I₂.base I₂.store (ra.step I₁.store T₂) rb) (fun _ _ p => (p.trans T₂ e₂).trans T₁ e₁) fun _ _ x => x

theorem EV_Compare {l r : Expr} {op : CmpOp} {pos : Pos} {Q : PV → St → Prop} (hm : behindInMarks op r = false) (h : EV w hb n sc l ρ τ fun a τ₁ => EV w hb n sc r ρ τ₁ fun b τ₂ => O2 w hb n (compareOp op) a b τ₂ Q) :
    EV w hb n sc (.Compare l [op] [r] pos) ρ τ Q := by
  intro H A env m μ s hA hE hI
  refine wpAny_Compare1 (h.bind1 H hA hE hI fun a s₁ μ₁ τ₁ pa T₁ e₁ I₁ ra q₁ => ?_) hm
  refine q₁.bind1 H hA hE I₁ fun b s₂ μ₂ τ₂ pb T₂ e₂ I₂ rb q₂ => ?_
  exact wpAny_mono (q₂ H A env.locals μ₂ s₂ a b hA I₂.base I₂.store (ra.step I₁.store T₂) rb) (fun _ _ p => (p.trans T₂ e₂).trans T₁ e₁) fun _ _ x => x

theorem EV_UnaryOp {x : Expr} {op : UnaryOp} {pos : Pos} {Q : PV → St → Prop} (h : EV w hb n sc x ρ τ fun a τ₁ => O1 w hb n (unaryOp op) a τ₁ Q) : EV w hb n sc (.UnaryOp op x pos) ρ τ Q := by
  intro H A env m μ s hA hE hI
  refine wpAny_UnaryOp (h.bind1 H hA hE hI fun a s₁ μ₁ τ₁ pa T₁ e₁ I₁ ra q₁ => ?_)
  exact wpAny_mono (q₁ H A env.locals μ₁ s₁ a hA I₁.base I₁.store ra) (fun _ _ p => p.trans T₁ e₁) fun _ _ x => x

theorem EV_IfExp {t a b : Expr} {pos : Pos} {Q : PV → St → Prop} (h : ET w hb n sc t ρ τ fun c τ₁ => (c = true → EV w hb n sc a ρ τ₁ Q) ∧ (c = false → EV w hb n sc b ρ τ₁ Q)) : EV w hb n sc (.IfExp t a b pos) ρ τ Q := by
  intro H A env m μ s hA hE hI
  refine wpAny_IfExp (wpAny_mono (h H A env m μ s hA hE hI) (fun c s₁ hp => ?_) fun _ _ x => x)
  obtain ⟨μ₁, τ₁, T₁, e₁, q⟩ := hp
  cases c
  · simp only [Bool.false_eq_true, if_false]
    exact wpAny_mono (q.2 rfl H A env m μ₁ s₁ hA hE (hI.step T₁)) (fun _ _ p => p.trans T₁ e₁) fun _ _ x => x
  · simp only [if_true]
    exact wpAny_mono (q.1 rfl H A env m μ₁ s₁ hA hE (hI.step T₁)) (fun _ _ p => p.trans T₁ e₁) fun _ _ x => x

theorem EVs_nil {Q : List PV → St → Prop} (q : Q [] τ) : EVs w hb n sc [] ρ τ Q := by
  intro H A env m μ s pos hA hE hI
  exact wpAny_items_nil ⟨μ, τ, [], Stp.refl hI.store, RepL.nil, Same.refl s, q⟩
theorem EVs_cons {e : Expr} {es : List Expr} {Q : List PV → St → Prop} (hs : ∀ x p, e ≠ .Starred x p) (h : EV w hb n sc e ρ τ fun p τ₁ => EVs w hb n sc es ρ τ₁ fun ps τ₂ => Q (p :: ps) τ₂) : EVs w hb n sc (e :: es) ρ τ Q := by
  intro H A env m μ s pos hA hE hI
  refine wpAny_items_cons (h.bind1 H hA hE hI fun a s₁ μ₁ τ₁ pa T₁ e₁ I₁ ra q₁ => ?_) ?_
  · refine wpAny_mono (q₁ H A env m μ₁ s₁ pos hA hE I₁) (fun vs s₂ hp => ?_) fun _ _ x => x
    obtain ⟨μ₂, τ₂, ps, T₂, rs, e₂, q⟩ := hp
    exact ⟨μ₂, τ₂, pa :: ps, T₁.trans T₂, RepL.cons (ra.step I₁.store T₂) rs, e₁.trans e₂, q⟩
  · cases e <;> first | rfl | exact absurd rfl (hs _ _)

theorem fresh_size (h : Heap) : h.get? h.objs.size = none := by
  cases e : h.get? h.objs.size with
  | none => rfl
  | some o => exact absurd (Heap.lt_size e) (Nat.lt_irrefl _)

theorem EV_Tuple {es : List Expr} {k : Nat} {pos : Pos} {Q : PV → St → Prop} (h : EVs w hb n sc es ρ τ fun ps τ₁ => ps.length ≤ 1000 ∧ Q (.tup ps) τ₁) : EV w hb n sc (.Tuple es k pos) ρ τ Q := by
  intro H A env m μ s hA hE hI
  refine wpAny_Tuple (wpAny_mono (h H A env m μ s pos hA hE hI) (fun vs s₁ hp => ?_) fun _ _ x => x)
  obtain ⟨μ₁, τ₁, ps, T₁, rs, e₁, hl, q⟩ := hp
  have I₁ := hI.step T₁
  refine ⟨by rw [rs.length, sizeLine_eq]; omega, ?_⟩
  have k : ∀ a o, s₁.heap.get? a = some o → (s₁.heap.push { cls := .type "tuple", data := .seq vs.toArray }).get? a = some o := fun a o e => Heap.get?_push_of_some _ e
  refine ⟨μ₁, τ₁, .tup ps, T₁.trans (Stp.grow I₁.store k), ?_, e₁, q⟩
  simp only [Rep]
  exact ⟨_, vs, rfl, I₁.base.fresh (fresh_size _), ⟨_, Heap.get?_push_size _ rfl, rfl, _, rfl⟩, RepL.mono (fun a o e _ => k a o e) (List.prefix_refl _) _ _ rs⟩

theorem EV_List {es : List Expr} {pos : Pos} {Q : PV → St → Prop} (h : EVs w hb n sc es ρ τ fun ps τ₁ => ps.length ≤ 1000 ∧ noEllL ps = true ∧ Q (.adr τ₁.length) (τ₁ ++ [ps])) : EV w hb n sc (.List es pos) ρ τ Q := by
  intro H A env m μ s hA hE hI
  refine wpAny_List (wpAny_mono (h H A env m μ s pos hA hE hI) (fun vs s₁ hp => ?_) fun _ _ x => x)
  obtain ⟨μ₁, τ₁, ps, T₁, rs, e₁, hl, ne, q⟩ := hp
  have I₁ := hI.step T₁
  refine ⟨by rw [rs.length, sizeLine_eq]; omega, ?_⟩
  have k : ∀ a o, s₁.heap.get? a = some o → (s₁.heap.push { cls := .type "list", data := .seq vs.toArray }).get? a = some o := fun a o e => Heap.get?_push_of_some _ e
  refine ⟨μ₁ ++ [s₁.heap.objs.size], τ₁ ++ [ps], .adr τ₁.length, T₁.trans (Stp.alloc (n := 0) I₁.store I₁.base k (fresh_size _) (Heap.get?_push_size _ rfl) rs ne), ?_, e₁, q⟩
  simp only [Rep]
  exact ⟨s₁.heap.objs.size, by rw [← I₁.store.len]; simp, rfl⟩

theorem ET_Compare {l r : Expr} {op : CmpOp} {pos : Pos} {Q : Bool → St → Prop} (hm : behindInMarks op r = false) (h : EV w hb n sc l ρ τ fun a τ₁ => EV w hb n sc r ρ τ₁ fun b τ₂ => O2 w hb n (compareOp op) a b τ₂ fun c τ₃ => ∃ x, c = .bool x ∧ Q x τ₃) :
    ET w hb n sc (.Compare l [op] [r] pos) ρ τ Q := by
  intro H A env m μ s hA hE hI
  refine wpAny_isTrue_Compare1 (h.bind1 H hA hE hI fun a s₁ μ₁ τ₁ pa T₁ e₁ I₁ ra q₁ => ?_) hm
  refine q₁.bind1 H hA hE I₁ fun b s₂ μ₂ τ₂ pb T₂ e₂ I₂ rb q₂ => ?_
  refine wpAny_mono (q₂ H A env.locals μ₂ s₂ a b hA I₂.base I₂.store (ra.step I₁.store T₂) rb) (fun c s₃ p => ?_) fun _ _ x => x
  obtain ⟨μ₃, τ₃, pc, T₃, rc, e₃, x, rfl, q⟩ := p
  simp only [Rep] at rc
  subst rc
  exact wpAny_truthy_bool ⟨μ₃, τ₃, (T₁.trans T₂).trans T₃, (e₁.trans e₂).trans e₃, q⟩
theorem ET_Not {x : Expr} {pos : Pos} {Q : Bool → St → Prop} (h : ET w hb n sc x ρ τ fun b τ₁ => Q (!b) τ₁) : ET w hb n sc (.UnaryOp .Not x pos) ρ τ Q := by
  intro H A env m μ s hA hE hI
  exact wpAny_isTrue_Not (h H A env m μ s hA hE hI)
theorem ET_value {e : Expr} {Q : Bool → St → Prop} (he : ∀ env whole, isTrue e env whole = (do let v ← whole; standAt e.pos; holding [v] (truthy v))) (h : EV w hb n sc e ρ τ fun c τ₁ => ∃ x, c = .bool x ∧ Q x τ₁) : ET w hb n sc e ρ τ Q := by
  intro H A env m μ s hA hE hI
  refine wpAny_isTrue_value (h.bind1 H hA hE hI fun a s₁ μ₁ τ₁ pa T₁ e₁ I₁ ra q₁ => ?_) (he _ _)
  obtain ⟨x, rfl, q⟩ := q₁
  simp only [Rep] at ra
  subst ra
  exact wpAny_truthy_bool ⟨μ₁, τ₁, T₁, e₁, q⟩
theorem ET_And {x y : Expr} {pos : Pos} {Q : Bool → St → Prop} (h : ET w hb n sc x ρ τ fun b τ₁ => (b = true → ET w hb n sc y ρ τ₁ Q) ∧ (b = false → Q false τ₁)) : ET w hb n sc (.BoolOp .And [x, y] pos) ρ τ Q := by
  intro H A env m μ s hA hE hI
  refine wpAny_isTrue_BoolOp (wpAny_allTrue_And_cons (wpAny_mono (h H A env m μ s hA hE hI) (fun c s₁ hp => ?_) fun _ _ x => x))
  obtain ⟨μ₁, τ₁, T₁, e₁, q⟩ := hp
  cases c
  · simp only [Bool.false_eq_true, if_false]
    exact ⟨μ₁, τ₁, T₁, e₁, q.2 rfl⟩
  · simp only [if_true]
    refine wpAny_allTrue_And_cons (wpAny_mono (q.1 rfl H A env m μ₁ s₁ hA hE (hI.step T₁)) (fun c s₂ hp => ?_) fun _ _ x => x)
    have z := hp.trans T₁ e₁
    cases c
    · simp only [Bool.false_eq_true, if_false]; exact z
    · simp only [if_true]; exact wpAny_allTrue_And_nil z
theorem ET_Or {x y : Expr} {pos : Pos} {Q : Bool → St → Prop} (h : ET w hb n sc x ρ τ fun b τ₁ => (b = true → Q true τ₁) ∧ (b = false → ET w hb n sc y ρ τ₁ Q)) : ET w hb n sc (.BoolOp .Or [x, y] pos) ρ τ Q := by
  intro H A env m μ s hA hE hI
  refine wpAny_isTrue_BoolOp (wpAny_allTrue_Or_cons (wpAny_mono (h H A env m μ s hA hE hI) (fun c s₁ hp => ?_) fun _ _ x => x))
  obtain ⟨μ₁, τ₁, T₁, e₁, q⟩ := hp
  cases c
  · simp only [Bool.false_eq_true, if_false]
    refine wpAny_allTrue_Or_cons (wpAny_mono (q.2 rfl H A env m μ₁ s₁ hA hE (hI.step T₁)) (fun c s₂ hp => ?_) fun _ _ x => x)
    have z := hp.trans T₁ e₁
    cases c
    · simp only [Bool.false_eq_true, if_false]; exact wpAny_allTrue_Or_nil z
    · simp only [if_true]; exact z
  · simp only [if_true]
    exact ⟨μ₁, τ₁, T₁, e₁, q.1 rfl⟩
theorem EV_And {x y : Expr} {pos : Pos} {Q : PV → St → Prop} (h : EV w hb n sc x ρ τ fun p τ₁ => ∃ b, p = .bool b ∧ (b = true → EV w hb n sc y ρ τ₁ Q) ∧ (b = false → Q (.bool false) τ₁)) : EV w hb n sc (.BoolOp .And [x, y] pos) ρ τ Q := by
  intro H A env m μ s hA hE hI
  refine wpAny_And2 (h.bind1 H hA hE hI fun a s₁ μ₁ τ₁ pa T₁ e₁ I₁ ra q₁ => ?_)
  obtain ⟨b, rfl, q, q'⟩ := q₁
  simp only [Rep] at ra
  subst ra
  refine wpAny_truthy_bool ?_
  cases b
  · simp only [Bool.false_eq_true, if_false]
    exact ⟨μ₁, τ₁, .bool false, T₁, rfl, e₁, q' rfl⟩
  · simp only [if_true]
    exact wpAny_mono (q rfl H A env m μ₁ s₁ hA hE I₁) (fun _ _ p => p.trans T₁ e₁) fun _ _ x => x
end
end Mine
namespace Mine

section
variable {w : World} {hb : Bs} {n : Nat} {sc : Scope} {ρ : List (Str × PV)} {τ : St} {Q : PV → St → Prop} {a b : Int}

theorem O2.ints {t : Value → Value → Sem Value} {r : PV} (h : ∀ (A : Around) (s : Shared) (ta tb : Tok) (R : Value → Shared → Prop), AOk n A → (∀ (v : Value) (tk : Nat), (∀ L μ h', Rep hb L μ h' r v) → R v { s with toks := tk }) → wpAny (model PR w) A (t (.int a ta) (.int b tb)) R NoE s)
    (q : Q r τ) : O2 w hb n t (.int a) (.int b) τ Q := by
  intro H A L μ s x y hA hB hS ra rb
  simp only [Rep] at ra rb
  obtain ⟨ta, rfl⟩ := ra
  obtain ⟨tb, rfl⟩ := rb
  exact h A s ta tb _ hA fun v tk hr => Post.here hS rfl ⟨rfl, rfl, rfl⟩ (hr _ _ _) q

theorem O2_add (q : Q (.int (a + b)) τ) : O2 w hb n (binaryOp .Add) (.int a) (.int b) τ Q := O2.ints (fun _ _ _ _ _ _ k => add_int (k _ _ fun _ _ _ => rep_int)) q
theorem O2_sub (q : Q (.int (a - b)) τ) : O2 w hb n (binaryOp .Sub) (.int a) (.int b) τ Q := O2.ints (fun _ _ _ _ _ _ k => sub_int (k _ _ fun _ _ _ => rep_int)) q
theorem O2_iadd (q : Q (.int (a + b)) τ) : O2 w hb n (inplaceOp .Add) (.int a) (.int b) τ Q := O2.ints (fun _ _ _ _ _ _ k => wpAny_iadd_int (k _ _ fun _ _ _ => rep_int)) q

abbrev Sm (a : Int) : Prop := -18446744073709551616 < a ∧ a < 18446744073709551616
abbrev MulOk (a b : Int) : Prop := Sm a ∨ Sm b
theorem bits_small {a : Int} (h : Sm a) : Builtin.Int.intBits a ≤ 64 := intBits_le_64 h.1 h.2
theorem MulOk.ok {a b : Int} (h : MulOk a b) : IntMulOk a b := h.elim (fun h => .of_left (bits_small h)) fun h => .of_right (bits_small h)
theorem O2_mul (h : MulOk a b) (q : Q (.int (a * b)) τ) : O2 w hb n (binaryOp .Mult) (.int a) (.int b) τ Q := O2.ints (fun _ _ _ _ _ _ k => mul_int (k _ _ fun _ _ _ => rep_int) h.ok) q

theorem noPyl {a b : Int} (h0 : 0 < b) (h : b < 2 ^ 250) : Builtin.divisionGoesByPylong a b = false := PyProof.noPylong_of_log2 (by
  have h1 : b.natAbs ≠ 0 := by omega
  have h2 : b.natAbs < 2 ^ 250 := by omega
  have := (Nat.log2_lt (k := 250) h1).mpr h2
  omega)
theorem O2_div (h0 : 0 < b) (h : b < 2 ^ 250) (q : Q (.int (a / b)) τ) : O2 w hb n (binaryOp .FloorDiv) (.int a) (.int b) τ Q :=
  O2.ints (r := .int (a / b)) (fun _ _ _ _ _ _ k => floordiv_int (by omega) (by rw [Int.fdiv_eq_ediv_of_nonneg _ (by omega)]; exact k _ _ fun _ _ _ => rep_int) (.inl (noPyl h0 h))) q
theorem O2_mod (h0 : 0 < b) (q : Q (.int (a % b)) τ) : O2 w hb n (binaryOp .Mod) (.int a) (.int b) τ Q :=
  O2.ints (r := .int (a % b)) (fun _ _ _ _ _ _ k => mod_int' (by omega) (by rw [Int.fmod_eq_emod_of_nonneg _ (by omega)]; exact k _ _ fun _ _ _ => rep_int)) q
theorem O2_pow {k : Nat} (h : k ≤ 4096) (ha : Sm a) (q : Q (.int (a ^ k)) τ) : O2 w hb n (binaryOp .Pow) (.int a) (.int (k : Int)) τ Q :=
  O2.ints (r := .int (a ^ k)) (fun _ _ _ _ _ _ kk => pow_int (by omega) (by
    have := bits_small ha
    have h2 : (Builtin.Int.intBits a : Int) * (k : Int) ≤ 64 * 4096 := by
      have e1 : ((Builtin.Int.intBits a : Nat) : Int) * (k : Int) = ((Builtin.Int.intBits a * k : Nat) : Int) := by push_cast; rfl
      rw [e1]
      have := Nat.mul_le_mul this h
      omega
    omega) (by rw [Int.toNat_natCast]; exact kk _ _ fun _ _ _ => rep_int)) q

theorem O2_eq (q : Q (.bool (a == b)) τ) : O2 w hb n (compareOp .Eq) (.int a) (.int b) τ Q := O2.ints (fun _ _ _ _ _ _ k => PyProof.Rows.eq_int (k _ _ fun _ _ _ => rep_bool)) q
theorem O2_ne (q : Q (.bool (a != b)) τ) : O2 w hb n (compareOp .NotEq) (.int a) (.int b) τ Q := O2.ints (fun _ _ _ _ _ _ k => PyProof.Rows.ne_int (k _ _ fun _ _ _ => rep_bool)) q
theorem O2_lt (q : Q (.bool (decide (a < b))) τ) : O2 w hb n (compareOp .Lt) (.int a) (.int b) τ Q := O2.ints (fun _ _ _ _ _ _ k => PyProof.Rows.lt_int (k _ _ fun _ _ _ => rep_bool)) q
theorem O2_le (q : Q (.bool (decide (a ≤ b))) τ) : O2 w hb n (compareOp .LtE) (.int a) (.int b) τ Q := O2.ints (fun _ _ _ _ _ _ k => PyProof.Rows.le_int (k _ _ fun _ _ _ => rep_bool)) q
theorem O2_gt (q : Q (.bool (decide (b < a))) τ) : O2 w hb n (compareOp .Gt) (.int a) (.int b) τ Q := O2.ints (fun _ _ _ _ _ _ k => PyProof.Rows.gt_int (k _ _ fun _ _ _ => rep_bool)) q
theorem O2_ge (q : Q (.bool (decide (b ≤ a))) τ) : O2 w hb n (compareOp .GtE) (.int a) (.int b) τ Q := O2.ints (fun _ _ _ _ _ _ k => PyProof.Rows.ge_int (k _ _ fun _ _ _ => rep_bool)) q

theorem O2_eqb {c d : Bool} (q : Q (.bool (c == d)) τ) : O2 w hb n (compareOp .Eq) (.bool c) (.bool d) τ Q := by
  intro H A L μ s x y hA hB hS ra rb
  simp only [Rep] at ra rb
  subst ra; subst rb
  exact eq_bool (Post.here hS rfl (Same.refl s) rep_bool q)
theorem O2_neb {c d : Bool} (q : Q (.bool (c != d)) τ) : O2 w hb n (compareOp .NotEq) (.bool c) (.bool d) τ Q := by
  intro H A L μ s x y hA hB hS ra rb
  simp only [Rep] at ra rb
  subst ra; subst rb
  exact ne_bool (Post.here hS rfl (Same.refl s) rep_bool q)
theorem O1_neg (q : Q (.int (-a)) τ) : O1 w hb n (unaryOp .USub) (.int a) τ Q := by
  intro H A L μ s x hA hB hS ra
  simp only [Rep] at ra
  obtain ⟨t, rfl⟩ := ra
  exact neg_int (Post.here hS rfl ⟨rfl, rfl, rfl⟩ rep_int q)
end
end Mine
namespace Mine

structure StpS (hb : Bs) (env : Env) (μ : List Addr) (h : Heap) (μ' : List Addr) (τ' : St) (h' : Heap) : Prop where
  ext : ∀ a o, h.get? a = some o → a ∉ μ → a ≠ env.locals → (∀ x c, (x, c) ∈ env.cells → a ≠ c) → h'.get? a = some o
  pre : μ <+: μ'
  fresh : ∀ a ∈ μ', a ∈ μ ∨ h.get? a = none
  store : StoreOk hb μ' τ' h'

inductive All2 {α β : Type} (R : α → β → Prop) : List α → List β → Prop where
  | nil : All2 R [] []
  | cons {a : α} {b : β} {l : List α} {r : List β} : R a b → All2 R l r → All2 R (a :: l) (b :: r)

structure Co where
  nx : List (Str × PV) → St → Prop
  rt : PV → St → Prop
  bk : List (Str × PV) → St → Prop

noncomputable def PostS (hb : Bs) (env : Env) (s : Shared) (μ : List Addr) (C : Co) (f : Flow) (s' : Shared) : Prop :=
  ∃ μ' τ', StpS hb env μ s.heap μ' τ' s'.heap ∧ Same s s' ∧ match f with
    | .next => ∃ m' ρ', Inv hb env m' μ' ρ' τ' s'.heap ∧ C.nx ρ' τ'
    | .brk => ∃ m' ρ', Inv hb env m' μ' ρ' τ' s'.heap ∧ C.bk ρ' τ'
    | .cont => False
    | .ret v => ∃ p, Rep hb env.locals μ' s'.heap p v ∧ noEll p = true ∧ C.rt p τ'

noncomputable def ES (w : World) (hb : Bs) (n : Nat) (sc : Scope) (ss : List Stmt) (ρ : List (Str × PV)) (τ : St) (C : Co) : Prop :=
  HB w hb → ∀ (A : Around) (env : Env) (m : Str → Option Value) (μ : List Addr) (s : Shared), AOk n A → EnvOk env sc → Inv hb env m μ ρ τ s.heap →
    wpAny (model PR w) A (execs ss env) (PostS hb env s μ C) NoE s
noncomputable def EX (w : World) (hb : Bs) (n : Nat) (sc : Scope) (st : Stmt) (ρ : List (Str × PV)) (τ : St) (C : Co) : Prop :=
  HB w hb → ∀ (A : Around) (env : Env) (m : Str → Option Value) (μ : List Addr) (s : Shared), AOk n A → EnvOk env sc → Inv hb env m μ ρ τ s.heap →
    wpAny (model PR w) A (exec st env) (PostS hb env s μ C) NoE s

section
variable {w : World} {hb : Bs} {n : Nat} {sc : Scope} {ρ : List (Str × PV)} {τ : St} {C : Co} {env : Env}

theorem Stp.toS {μ μ' : List Addr} {τ' : St} {h h' : Heap} (T : Stp hb μ h μ' τ' h') : StpS hb env μ h μ' τ' h' := ⟨fun a o e m _ _ => T.ext a o e m, T.pre, T.fresh, T.store⟩
theorem StpS.refl {μ : List Addr} {h : Heap} (S : StoreOk hb μ τ h) : StpS hb env μ h μ τ h := (Stp.refl S).toS
theorem StpS.trans {μ μ₁ μ₂ : List Addr} {τ₁ τ₂ : St} {h h₁ h₂ : Heap} (T : StpS hb env μ h μ₁ τ₁ h₁) (U : StpS hb env μ₁ h₁ μ₂ τ₂ h₂) (hL : ∃ o, h₁.get? env.locals = some o) (hC : ∀ x c, (x, c) ∈ env.cells → ∃ o, h₁.get? c = some o) : StpS hb env μ h μ₂ τ₂ h₂ where
  ext a o e n l c := U.ext a o (T.ext a o e n l c) (fun m => (T.fresh a m).elim n fun q => by rw [e] at q; cases q) l c
  pre := T.pre.trans U.pre
  fresh a m := by
    rcases U.fresh a m with q | q
    · exact T.fresh a q
    · by_cases ha : a ∈ μ
      · exact .inl ha
      · refine .inr ?_
        cases e : h.get? a with
        | none => rfl
        | some o =>
          by_cases hl : a = env.locals
          · obtain ⟨o', e'⟩ := hL; rw [hl] at q; rw [e'] at q; cases q
          · by_cases hc : ∀ x c, (x, c) ∈ env.cells → a ≠ c
            · rw [T.ext a o e ha hl hc] at q; cases q
            · exfalso
              apply hc
              intro x c m ec
              obtain ⟨o', e'⟩ := hC x c m
              rw [ec, e'] at q; cases q
  store := U.store
theorem Inv.hasL {m : Str → Option Value} {μ : List Addr} {h : Heap} (I : Inv hb env m μ ρ τ h) : ∃ o, h.get? env.locals = some o := let ⟨o, _, _, e, _⟩ := I.ns; ⟨o, e⟩
theorem Inv.hasC {m : Str → Option Value} {μ : List Addr} {h : Heap} (I : Inv hb env m μ ρ τ h) : ∀ x c, (x, c) ∈ env.cells → ∃ o, h.get? c = some o := fun x c q => let ⟨_, o, e, _⟩ := I.cells x c q; ⟨o, e⟩
theorem StpS.then {m : Str → Option Value} {μ μ₁ μ₂ : List Addr} {τ₁ τ₂ : St} {h h₁ h₂ : Heap} (T : StpS hb env μ h μ₁ τ₁ h₁) (I : Inv hb env m μ₁ ρ τ₁ h₁) (U : StpS hb env μ₁ h₁ μ₂ τ₂ h₂) : StpS hb env μ h μ₂ τ₂ h₂ := T.trans U I.hasL I.hasC

theorem PostS.trans {m : Str → Option Value} {s s₁ s' : Shared} {μ μ₁ : List Addr} {τ₁ : St} {f : Flow} (T : StpS hb env μ s.heap μ₁ τ₁ s₁.heap) (I : Inv hb env m μ₁ ρ τ₁ s₁.heap) (e : Same s s₁) (p : PostS hb env s₁ μ₁ C f s') : PostS hb env s μ C f s' := by
  obtain ⟨μ', τ', U, e', r⟩ := p
  exact ⟨μ', τ', T.then I U, e.trans e', r⟩

theorem ES_nil (q : C.nx ρ τ) : ES w hb n sc [] ρ τ C := by
  intro H A env m μ s hA hE hI
  exact wpAny_execs_nil ⟨μ, τ, StpS.refl hI.store, Same.refl s, m, ρ, hI, q⟩
theorem ES_cons {st : Stmt} {rest : List Stmt} (h : EX w hb n sc st ρ τ ⟨fun ρ' τ' => ES w hb n sc rest ρ' τ' C, C.rt, C.bk⟩) : ES w hb n sc (st :: rest) ρ τ C := by
  intro H A env m μ s hA hE hI
  refine wpAny_execs_cons (wpAny_mono (h H A env m μ s hA hE hI) (fun f s₁ hp => ?_) fun _ _ x => x)
  obtain ⟨μ₁, τ₁, T, e, r⟩ := hp
  cases f with
  | next =>
    obtain ⟨m', ρ', I', q⟩ := r
    exact wpAny_mono (q H A env m' μ₁ s₁ hA hE I') (fun _ _ p => p.trans T I' e) fun _ _ x => x
  | brk => exact ⟨μ₁, τ₁, T, e, r⟩
  | cont => exact r.elim
  | ret v => exact ⟨μ₁, τ₁, T, e, r⟩

theorem Inv.sub {m : Str → Option Value} {μ : List Addr} {h : Heap} {ρ' : List (Str × PV)} (I : Inv hb env m μ ρ τ h) (k : ∀ x p, ρ'.lookup x = some p → ρ.lookup x = some p) : Inv hb env m μ ρ' τ h :=
  { I with vars := fun x p e => I.vars x p (k x p e) }
theorem ES.sub {ss : List Stmt} {ρ' : List (Str × PV)} (h : ES w hb n sc ss ρ' τ C) (k : ∀ x p, ρ'.lookup x = some p → ρ.lookup x = some p) : ES w hb n sc ss ρ τ C :=
  fun H A env m μ s hA hE hI => h H A env m μ s hA hE (hI.sub k)

theorem EX_Return {e : Expr} {pos : Pos} (h : EV w hb n sc e ρ τ fun p τ' => noEll p = true ∧ C.rt p τ') : EX w hb n sc (.Return (some e) pos) ρ τ C := by
  intro H A env m μ s hA hE hI
  exact wpAny_Return_some (h.bind1 H hA hE hI fun a s₁ μ₁ τ₁ pa T₁ e₁ I₁ ra q₁ => ⟨μ₁, τ₁, T₁.toS, e₁, pa, ra, q₁.1, q₁.2⟩)

theorem EX_If {t : Expr} {a b : List Stmt} {pos : Pos} (h : ET w hb n sc t ρ τ fun c τ₁ => (c = true → ES w hb n sc a ρ τ₁ C) ∧ (c = false → ES w hb n sc b ρ τ₁ C)) : EX w hb n sc (.If t a b pos) ρ τ C := by
  intro H A env m μ s hA hE hI
  refine wpAny_If (wpAny_mono (h H A env m μ s hA hE hI) (fun c s₁ hp => ?_) fun _ _ x => x)
  obtain ⟨μ₁, τ₁, T₁, e₁, q⟩ := hp
  have I₁ := hI.step T₁
  cases c
  · simp only [Bool.false_eq_true, if_false]
    exact wpAny_mono (q.2 rfl H A env m μ₁ s₁ hA hE I₁) (fun _ _ p => p.trans T₁.toS I₁ e₁) fun _ _ x => x
  · simp only [if_true]
    exact wpAny_mono (q.1 rfl H A env m μ₁ s₁ hA hE I₁) (fun _ _ p => p.trans T₁.toS I₁ e₁) fun _ _ x => x

theorem EX_Break {pos : Pos} (q : C.bk ρ τ) : EX w hb n sc (.Break pos) ρ τ C := by
  intro H A env m μ s hA hE hI
  exact wpAny_Break ⟨μ, τ, StpS.refl hI.store, Same.refl s, m, ρ, hI, q⟩

theorem store_name {x : Str} {p : PV} {v : Value} {A : Around} {m : Str → Option Value} {μ : List Addr} {s : Shared} {R : Unit → Shared → Prop} (hE : EnvOk env sc) (hI : Inv hb env m μ ρ τ s.heap)
    (hk : sc.names.lookup x = some .local ∨ (sc.names.lookup x = some .cell ∧ ∃ c, env.cells.lookup x = some c)) (r : Rep hb env.locals μ s.heap p v)
    (k : ∀ m' s', Inv hb env m' μ ((x, p) :: ρ) τ s'.heap → StpS hb env μ s.heap μ τ s'.heap → Same s s' → R () s') : wpAny (model PR w) A (storeName env x v) R NoE s := by
  have hkf : env.scope.kind = .function := by rw [hE.scope]; exact hE.kind
  have hkind : env.kindOf x = sc.names.lookup x := by show env.scope.names.lookup x = _; rw [hE.scope]
  obtain ⟨oL, esL, epL, hoL, hdL, hrL⟩ := id hI.ns
  have inμ : ∀ a ∈ μ, ∃ o, s.heap.get? a = some o ∧ ∃ vs j, o.data = .seq vs j := fun a ha => let ⟨o, e, _, d⟩ := hI.store.mem_list ha; ⟨o, e, d⟩
  have lk : ∀ {y : Str} {q : PV}, ((x, p) :: ρ).lookup y = some q → (y = x ∧ q = p) ∨ (y ≠ x ∧ ρ.lookup y = some q) := by
    intro y q e
    rw [List.lookup_cons] at e
    by_cases hy : y = x
    · subst hy; simp at e; exact .inl ⟨rfl, e.symm⟩
    · rw [beq_false_of_ne hy] at e; exact .inr ⟨hy, e⟩
  rcases hk with hl | ⟨hl, c, hc⟩
  · refine wpAny_storeName_local (hkind.trans hl) hI.ns (fun h' hn hs => ?_) (by rw [hkf]; rfl)
    have kk : ∀ a o, s.heap.get? a = some o → a ≠ env.locals → h'.get? a = some o := fun a o e ne => (hs.2 a ne).trans e
    have nL : ∀ a o, s.heap.get? a = some o → (∀ es j, o.data ≠ .dict es j) → a ≠ env.locals := fun a o e nd q => by subst q; rw [hoL] at e; cases e; exact nd _ _ hdL
    have frz : ∀ a o, s.heap.get? a = some o → Frz hb.hid env.locals a o → h'.get? a = some o := by
      intro a o e f
      refine kk a o e ?_
      rcases f with (⟨_, ⟨_, _, d⟩, _⟩ | ⟨_, _, d⟩) | ⟨_, d⟩ | ⟨_, _, f⟩
      · exact nL a o e (by rw [d]; intro _ _ q; cases q)
      · exact nL a o e (by rw [d]; intro _ _ q; cases q)
      · exact nL a o e (by rw [d]; intro _ _ q; cases q)
      · exact f
    have cellk : ∀ c v, s.heap.IsCell c v → h'.IsCell c v := fun c v ⟨o, e, d⟩ => ⟨o, kk c o e (nL c o e (by rw [d]; intro _ _ q; cases q)), d⟩
    have st : StoreOk hb μ τ h' := hI.store.keep (fun a o e f => frz a o e (.inl f)) fun a o e m => kk a o e (let ⟨o', e', vs, j, d⟩ := inμ a m; nL a o e (by rw [e] at e'; cases e'; rw [d]; intro _ _ q; cases q))
    have rp : ∀ q u, Rep hb env.locals μ s.heap q u → Rep hb env.locals μ h' q u := fun q u => Rep.mono frz (List.prefix_refl _) q u
    refine k _ _ ⟨⟨fun b o e => kk b o (hI.base.up b o e) (fun q => by rw [q, hI.freshL] at e; cases e), fun a ha => let ⟨o, e, c, d⟩ := hI.base.hid a ha; ⟨o, kk a o e (nL a o e (by obtain ⟨_, _, d⟩ := d; rw [d]; intro _ _ q; cases q)), c, d⟩, hI.base.new⟩, hn, fun y c' mm => let ⟨v₀, q⟩ := hI.cells y c' mm; ⟨v₀, cellk _ _ q⟩, hI.apart, hI.freshL, hI.freshC, fun y q e => ?_, st⟩
      ⟨fun a o e _ l _ => kk a o e l, List.prefix_refl _, fun a m => .inl m, st⟩ ⟨rfl, rfl, rfl⟩
    rcases lk e with ⟨rfl, rfl⟩ | ⟨hy, e⟩
    · exact ⟨v, .inl ⟨hkind.trans hl, by simp⟩, rp _ _ r⟩
    · obtain ⟨u, hu, ru⟩ := hI.vars y q e
      refine ⟨u, ?_, rp _ _ ru⟩
      rcases hu with ⟨h1, h2⟩ | ⟨h1, c', h2, h3⟩
      · exact .inl ⟨h1, by simp only [if_neg hy]; exact h2⟩
      · exact .inr ⟨h1, c', h2, cellk _ _ h3⟩
  · obtain ⟨v₀, hcell⟩ := hI.cells x c (mem_of_lookup hc)
    refine wpAny_storeName_cell hkf (hkind.trans hl) hc hcell (fun h' hn hs => ?_)
    obtain ⟨oc, hoc, hdc⟩ := hcell
    have kk : ∀ a o, s.heap.get? a = some o → a ≠ c → h'.get? a = some o := fun a o e ne => (hs.2 a ne).trans e
    have nc : ∀ a o, s.heap.get? a = some o → (∀ u, o.data ≠ .cell u) → a ≠ c := fun a o e nd q => by subst q; rw [hoc] at e; cases e; exact nd _ hdc
    have frz : ∀ a o, s.heap.get? a = some o → Frz hb.hid env.locals a o → h'.get? a = some o := by
      intro a o e f
      refine kk a o e (nc a o e ?_)
      rcases f with (⟨_, ⟨_, _, d⟩, _⟩ | ⟨_, _, d⟩) | ⟨_, d⟩ | ⟨_, ⟨_, _, d⟩, _⟩ <;> rw [d] <;> intro _ q <;> cases q
    have st : StoreOk hb μ τ h' := hI.store.keep (fun a o e f => frz a o e (.inl f)) fun a o e m => kk a o e (let ⟨o', e', vs, j, d⟩ := inμ a m; nc a o e (by rw [e] at e'; cases e'; rw [d]; intro _ q; cases q))
    have rp : ∀ q u, Rep hb env.locals μ s.heap q u → Rep hb env.locals μ h' q u := fun q u => Rep.mono frz (List.prefix_refl _) q u
    refine k _ _ ⟨⟨fun b o e => kk b o (hI.base.up b o e) (fun q => by rw [q, hI.freshC x c (mem_of_lookup hc)] at e; cases e), fun a ha => let ⟨o, e, cc, d⟩ := hI.base.hid a ha; ⟨o, kk a o e (nc a o e (by obtain ⟨_, _, d⟩ := d; rw [d]; intro _ q; cases q)), cc, d⟩, hI.base.new⟩,
      ⟨oL, esL, epL, kk _ _ hoL (nc _ _ hoL (by rw [hdL]; intro _ q; cases q)), hdL, hrL⟩, fun y c' mm => ?_, hI.apart, hI.freshL, hI.freshC, fun y q e => ?_, st⟩
      ⟨fun a o e _ _ l => kk a o e (l x c (mem_of_lookup hc)), List.prefix_refl _, fun a m => .inl m, st⟩ ⟨rfl, rfl, rfl⟩
    · by_cases hcc : c' = c
      · exact ⟨_, hcc ▸ hn⟩
      · obtain ⟨v₁, o₁, e₁, d₁⟩ := hI.cells y c' mm
        exact ⟨v₁, o₁, kk _ _ e₁ hcc, d₁⟩
    · rcases lk e with ⟨rfl, rfl⟩ | ⟨hy, e⟩
      · exact ⟨v, .inr ⟨.inl (hkind.trans hl), c, hc, hn⟩, rp _ _ r⟩
      · obtain ⟨u, hu, ru⟩ := hI.vars y q e
        refine ⟨u, ?_, rp _ _ ru⟩
        rcases hu with h1 | ⟨h1, c', h2, o₁, e₁, d₁⟩
        · exact .inl h1
        · refine .inr ⟨h1, c', h2, o₁, kk _ _ e₁ (fun q => hy ?_), d₁⟩
          subst q
          exact name_of_addr hI.apart (mem_of_lookup h2) (mem_of_lookup hc)

noncomputable def Stores (sc : Scope) (x : Str) : Bool := sc.names.lookup x == some .local || sc.names.lookup x == some .cell
theorem Stores.to {x : Str} (h : Stores sc x = true) (hE : EnvOk env sc) : sc.names.lookup x = some .local ∨ (sc.names.lookup x = some .cell ∧ ∃ c, env.cells.lookup x = some c) := by
  unfold Stores at h
  rcases Bool.or_eq_true_iff.mp h with q | q
  · exact .inl (eq_of_beq q)
  · exact .inr ⟨eq_of_beq q, hE.cells x (eq_of_beq q)⟩

theorem Inv.frz {m : Str → Option Value} {μ μ' : List Addr} {τ' : St} {h h' : Heap} (I : Inv hb env m μ ρ τ h) (T : StpS hb env μ h μ' τ' h') : ∀ a o, h.get? a = some o → Frz hb.hid env.locals a o → h'.get? a = some o := by
  intro a o e f
  obtain ⟨oL, esL, epL, hoL, hdL, hrL⟩ := I.ns
  refine T.ext a o e (I.store.not_memF e f) ?_ ?_
  · rcases f with (⟨_, ⟨_, _, d⟩, _⟩ | ⟨_, _, d⟩) | ⟨_, d⟩ | ⟨_, _, f⟩
    · rintro rfl; rw [hoL] at e; cases e; rw [hdL] at d; cases d
    · rintro rfl; rw [hoL] at e; cases e; rw [hdL] at d; cases d
    · rintro rfl; rw [hoL] at e; cases e; rw [hdL] at d; cases d
    · exact f
  · rintro x c m rfl
    obtain ⟨v₀, oc, hoc, hdc⟩ := I.cells x a m
    rw [hoc] at e; cases e
    rcases f with (⟨_, ⟨_, _, d⟩, _⟩ | ⟨_, _, d⟩) | ⟨_, d⟩ | ⟨_, ⟨_, _, d⟩, _⟩ <;> (rw [hdc] at d; cases d)
theorem Rep.stepS {m : Str → Option Value} {μ μ' : List Addr} {τ' : St} {h h' : Heap} {p : PV} {v : Value} (r : Rep hb env.locals μ h p v) (I : Inv hb env m μ ρ τ h) (T : StpS hb env μ h μ' τ' h') : Rep hb env.locals μ' h' p v := Rep.mono (I.frz T) T.pre p v r
theorem RepL.stepS {m : Str → Option Value} {μ μ' : List Addr} {τ' : St} {h h' : Heap} {p : List PV} {v : List Value} (r : RepL hb env.locals μ h p v) (I : Inv hb env m μ ρ τ h) (T : StpS hb env μ h μ' τ' h') : RepL hb env.locals μ' h' p v := RepL.mono (I.frz T) T.pre p v r

noncomputable def binds : List Str → List PV → List (Str × PV) → List (Str × PV)
  | x :: xs, p :: ps, ρ => binds xs ps ((x, p) :: ρ)
  | _, _, ρ => ρ
noncomputable def TS (w : World) (env : Env) (t : Value → Sem Unit) (x : Str) : Prop := ∀ (v : Value) (A : Around) (R : Unit → Shared → Prop) (s : Shared), wpAny (model PR w) A (storeName env x v) R NoE s → wpAny (model PR w) A (t v) R NoE s

theorem store_names (hE : EnvOk env sc) {A : Around} : ∀ (ts : List (Value → Sem Unit)) (xs : List Str) (ps : List PV) (vs : List Value) (ρ : List (Str × PV)) (m : Str → Option Value) (μ : List Addr) (s : Shared) (R : Unit → Shared → Prop),
    All2 (TS w env) ts xs → (∀ x ∈ xs, Stores sc x = true) → xs.length = ps.length → Inv hb env m μ ρ τ s.heap → RepL hb env.locals μ s.heap ps vs →
    (∀ m' s', Inv hb env m' μ (binds xs ps ρ) τ s'.heap → StpS hb env μ s.heap μ τ s'.heap → Same s s' → R () s') → wpAny (model PR w) A (assignInOrder ts vs) R NoE s
  | [], [], [], vs, ρ, m, μ, s, R, _, _, _, I, r, k => by
    simp only [RepL] at r
    subst r
    exact wpAny_pure (k m s I (StpS.refl I.store) (Same.refl s))
  | t :: ts, x :: xs, p :: ps, vs, ρ, m, μ, s, R, ht, hx, hl, I, r, k => by
    simp only [RepL] at r
    obtain ⟨v, u, rfl, rv, ru⟩ := r
    cases ht with
    | cons t0 ht =>
      refine wpAny_assignInOrder_more (t0 v A _ s (store_name hE I (Stores.to (hx x (.head _)) hE) rv fun m' s' I' T' e' => ?_))
      refine store_names hE ts xs ps u ((x, p) :: ρ) m' μ s' R ht (fun y hy => hx y (.tail _ hy)) (by simpa using hl) I' (ru.stepS I T') fun m'' s'' I'' T'' e'' => ?_
      exact k m'' s'' I'' (T'.then I' T'') (e'.trans e'')
  | [], [], _ :: _, _, _, _, _, _, _, _, _, hl, _, _, _ => by simp at hl
  | _ :: _, _ :: _, [], _, _, _, _, _, _, _, _, hl, _, _, _ => by simp at hl
  | [], _ :: _, _, _, _, _, _, _, _, ht, _, _, _, _, _ => nomatch ht
  | _ :: _, [], _, _, _, _, _, _, _, ht, _, _, _, _, _ => nomatch ht

noncomputable def namesOf : List Expr → Option (List Str)
  | [] => some []
  | .Name x _ :: r => (namesOf r).map (x :: ·)
  | _ => none
theorem namesOf_TS : ∀ {es : List Expr} {xs : List Str}, namesOf es = some xs → All2 (TS w env) ((assignEach es env).map (·.2)) xs ∧ (assignEach es env).length = xs.length ∧ (assignEach es env).findIdx? (·.1) = none := by
  intro es
  induction es with
  | nil => intro xs h; cases h; exact ⟨.nil, rfl, rfl⟩
  | cons e r ih =>
    intro xs h
    cases e <;> simp only [namesOf] at h <;> try (cases h; done)
    rename_i x pos
    obtain ⟨ys, hy, rfl⟩ := Option.map_eq_some_iff.mp h
    obtain ⟨h1, h2, h3⟩ := ih hy
    refine ⟨.cons (fun v A R s h => PyProof.Rows.assign_Name h) h1, ?_, ?_⟩
    · show (assignEach r env).length + 1 = ys.length + 1
      rw [h2]
    · show ((false, assign (.Name x pos) env) :: assignEach r env).findIdx? (·.1) = none
      rw [List.findIdx?_cons]
      simp [h3]
theorem bind_TS : ∀ (xs : List Str), All2 (TS w env) (xs.map fun n => bindName env n) xs
  | [] => .nil
  | _ :: xs => .cons (fun _ _ _ _ h => wpAny_bindName h) (bind_TS xs)

theorem EX_Assign {x : Str} {pos' pos : Pos} {value : Expr} (hx : Stores sc x = true) (hs : ∀ env : Env, swapsWith value (some (.Name x pos')) pos.line env = pure false) (h : EV w hb n sc value ρ τ fun p τ₁ => C.nx ((x, p) :: ρ) τ₁) :
    EX w hb n sc (.Assign [.Name x pos'] value pos) ρ τ C := by
  intro H A env m μ s hA hE hI
  refine wpAny_Assign_Name (h.bind1 H hA hE hI fun a s₁ μ₁ τ₁ pa T₁ e₁ I₁ ra q₁ => ?_) (hs env)
  refine store_name hE I₁ (Stores.to hx hE) ra fun m' s' I' T' e' => ?_
  exact ⟨μ₁, τ₁, T₁.toS.then I₁ T', e₁.trans e', m', _, I', q₁⟩

theorem RepL.reverse {L : Addr} {μ : List Addr} {h : Heap} : ∀ {ps : List PV} {vs : List Value}, RepL hb L μ h ps vs → RepL hb L μ h ps.reverse vs.reverse
  | [], vs, r => by simp only [RepL] at r; subst r; exact RepL.nil
  | p :: ps, vs, r => by
    simp only [RepL] at r
    obtain ⟨v, u, rfl, rv, ru⟩ := r
    rw [List.reverse_cons, List.reverse_cons]
    exact RepL.append (RepL.reverse ru) (RepL.single rv)

theorem unpackTup {A : Around} {L : Addr} {μ : List Addr} {s : Shared} {ps : List PV} {v : Value} {k : Nat} {R : List Value → Shared → Prop} (hA : AOk n A) (S : StoreOk hb μ τ s.heap) (r : Rep hb L μ s.heap (.tup ps) v) (hk : ps.length = k)
    (h : ∀ vs s', Stp hb μ s.heap μ τ s'.heap → Same s s' → RepL hb L μ s'.heap ps vs → R vs s') : wpAny (model PR w) A (unpackItems v k none) R NoE s := by
  simp only [Rep] at r
  obtain ⟨a, vs, rfl, _, ht, rs⟩ := r
  have hl : k = vs.toArray.size := by rw [List.size_toArray, rs.length, hk]
  subst hl
  refine wpAny_unpackItems_tuple hA.hd ht fun h' he => ?_
  have T : Stp hb μ s.heap μ τ h' := Stp.grow S fun b o e => he b o (Nat.ne_of_lt (Heap.lt_size e)) e
  exact h vs _ T ⟨rfl, rfl, rfl⟩ (rs.step S T)

theorem EX_AssignT {elts : List Expr} {xs : List Str} {k : Nat} {tpos pos : Pos} {value : Expr} (hn : namesOf elts = some xs) (hx : (xs.all (Stores sc)) = true)
    (hs : ∀ env : Env, swapsWithSole [.Tuple elts k tpos] value pos.line env = pure false) (hw : ∀ env : Env, env.scope = sc → swappedStores [.Tuple elts k tpos] value env = pure none)
    (h : EV w hb n sc value ρ τ fun p τ₁ => ∃ ps, p = .tup ps ∧ xs.length = ps.length ∧ C.nx (binds xs ps ρ) τ₁) : EX w hb n sc (.Assign [.Tuple elts k tpos] value pos) ρ τ C := by
  intro H A env m μ s hA hE hI
  refine PyProof.Rows.Assign_Tuple (h.bind1 H hA hE hI fun a s₁ μ₁ τ₁ pa T₁ e₁ I₁ ra q₁ => ?_) (hs env) (hw env hE.scope)
  obtain ⟨ps, rfl, hl, q⟩ := q₁
  simp only [Rep] at ra
  obtain ⟨t, vs, rfl, _, ht, rs⟩ := ra
  obtain ⟨ts, l1, l2⟩ := namesOf_TS (w := w) (env := env) hn
  refine wpAny_assign_Tuple hA.hd ht (by rw [l1, List.size_toArray, rs.length, hl]) l2 fun h' he => ?_
  have T : Stp hb μ₁ s₁.heap μ₁ τ₁ h' := Stp.grow I₁.store fun b o e => he b o (Nat.ne_of_lt (Heap.lt_size e)) e
  have I₂ := I₁.step T
  refine store_names (s := { s₁ with heap := h' }) hE _ xs ps vs ρ m μ₁ _ ts (fun x hm => List.all_eq_true.mp hx x hm) hl I₂ (rs.step I₁.store T) fun m' s' I' T' e' => ?_
  exact ⟨μ₁, τ₁, (T₁.trans T).toS.then I₂ T', e₁.trans e', m', _, I', q⟩

theorem EX_AssignW {elts : List Expr} {xs : List Str} {k : Nat} {tpos pos : Pos} {value : Expr} (hx : (xs.all (Stores sc)) = true)
    (hs : ∀ env : Env, swapsWithSole [.Tuple elts k tpos] value pos.line env = pure false) (hw : ∀ env : Env, env.scope = sc → swappedStores [.Tuple elts k tpos] value env = pure (some xs))
    (h : EV w hb n sc value ρ τ fun p τ₁ => ∃ ps, p = .tup ps ∧ xs.length = ps.length ∧ C.nx (binds xs.reverse ps.reverse ρ) τ₁) : EX w hb n sc (.Assign [.Tuple elts k tpos] value pos) ρ τ C := by
  intro H A env m μ s hA hE hI
  refine Assign_Tuple_swapped (h.bind1 H hA hE hI fun a s₁ μ₁ τ₁ pa T₁ e₁ I₁ ra q₁ => ?_) (hs env) (hw env hE.scope)
  obtain ⟨ps, rfl, hl, q⟩ := q₁
  refine unpackTup hA I₁.store ra hl.symm fun vs s₂ T e₂ rs => ?_
  have I₂ := I₁.step T
  refine store_names hE _ xs.reverse ps.reverse vs.reverse ρ m μ₁ _ _ (bind_TS _) (fun x hm => List.all_eq_true.mp hx x (List.mem_reverse.mp hm)) (by simp [hl]) I₂ rs.reverse fun m' s' I' T' e' => ?_
  exact ⟨μ₁, τ₁, (T₁.trans T).toS.then I₂ T', (e₁.trans e₂).trans e', m', _, I', q⟩

theorem EX_Aug {x : Str} {pos' pos : Pos} {op : Operator} {value : Expr} {p : PV} (hx : Stores sc x = true) (hl : ρ.lookup x = some p) (h : EV w hb n sc value ρ τ fun q τ₁ => O2 w hb n (inplaceOp op) p q τ₁ fun r τ₂ => C.nx ((x, r) :: ρ) τ₂) :
    EX w hb n sc (.AugAssign (.Name x pos') op value pos) ρ τ C := by
  intro H A env m μ s hA hE hI
  obtain ⟨v, hv, r⟩ := hI.vars x p hl
  have hk : env.scope.kind = .function := by rw [hE.scope]; exact hE.kind
  have main : wpAny (model PR w) A (eval value env) (fun v' s₂ => wpAny (model PR w) A (inplaceOp op v v') (fun r s₃ => wpAny (model PR w) A (storeName env x r) (fun _ => PostS hb env s μ C .next) NoE s₃) NoE s₂) NoE s := by
    refine h.bind1 H hA hE hI fun a s₁ μ₁ τ₁ pa T₁ e₁ I₁ ra q₁ => ?_
    refine wpAny_mono (q₁ H A env.locals μ₁ s₁ v a hA I₁.base I₁.store (r.step hI.store T₁) ra) (fun u s₂ hp => ?_) fun _ _ x => x
    obtain ⟨μ₂, τ₂, pu, T₂, ru, e₂, q₂⟩ := hp
    have I₂ := I₁.step T₂
    refine store_name hE I₂ (Stores.to hx hE) ru fun m' s' I' T' e' => ?_
    exact ⟨μ₂, τ₂, (T₁.trans T₂).toS.then I₂ T', (e₁.trans e₂).trans e', m', _, I', q₂⟩
  refine wpAny_AugAssign_Name ?_
  rcases hv with ⟨hl, hm⟩ | ⟨hl | ⟨hl, hn⟩, c, hc, hv⟩
  · exact wpAny_loadName_local hk hl hI.ns hm main
  · exact wpAny_loadName_cell hk hl hc hv main
  · exact wpAny_loadName_free hk hl hc hv main hn

theorem EX_Expr {e : Expr} {pos : Pos} (hs : ∀ env : Env, swapsWith e none pos.line env = pure false) (h : EV w hb n sc e ρ τ fun _ τ₁ => C.nx ρ τ₁) : EX w hb n sc (.Expr e pos) ρ τ C := by
  intro H A env m μ s hA hE hI
  refine wpAny_Expr_any (h.bind1 H hA hE hI fun a s₁ μ₁ τ₁ pa T₁ e₁ I₁ ra q₁ => ⟨μ₁, τ₁, T₁.toS, e₁, m, ρ, I₁, q₁⟩) ?_ (hs env)
  show (env.scope.kind == .module && _) = false
  rw [hE.scope, hE.kind]; rfl

theorem noted {A : Around} {E : Value → Shared → Prop} : ∀ (e : Value) (s : Shared), NoE e s → notedBy (model PR w) A env E e s := fun _ _ x => x.elim
theorem EX_While {t : Expr} {body : List Stmt} {pos : Pos} (I : List (Str × PV) → St → Prop) (μf : List (Str × PV) → St → Nat) (h0 : I ρ τ)
    (turn : ∀ ρ₁ τ₁, I ρ₁ τ₁ → ET w hb n sc t ρ₁ τ₁ fun b τ₂ => (b = true → ES w hb n sc body ρ₁ τ₂ ⟨fun ρ₃ τ₃ => I ρ₃ τ₃ ∧ μf ρ₃ τ₃ < μf ρ₁ τ₁, C.rt, C.nx⟩) ∧ (b = false → C.nx ρ₁ τ₂)) :
    EX w hb n sc (.While t body [] pos) ρ τ C := by
  intro H A env m μ s hA hE hI
  refine wpAny_While ?_
  refine codeAny_whileLoop (fun k s' => ∃ m' μ' ρ' τ', Inv hb env m' μ' ρ' τ' s'.heap ∧ StpS hb env μ s.heap μ' τ' s'.heap ∧ Same s s' ∧ I ρ' τ' ∧ μf ρ' τ' = k) ?_ (μf ρ τ) ⟨m, μ, ρ, τ, hI, StpS.refl hI.store, Same.refl s, h0, rfl⟩
  rintro k s' ⟨m', μ', ρ', τ', I', T', e', hI', rfl⟩
  refine wpAny_mono (turn ρ' τ' hI' H A env m' μ' s' hA hE I') (fun b s₁ hp => ?_) noted
  obtain ⟨μ₁, τ₁, T₁, e₁, q⟩ := hp
  have I₁ := I'.step T₁
  have T₀ := T'.then I' T₁.toS
  cases b
  · simp only [Bool.false_eq_true, if_false]
    exact wpAny_execs_nil ⟨μ₁, τ₁, T₀, e'.trans e₁, m', ρ', I₁, q.2 rfl⟩
  · simp only [if_true]
    refine wpAny_mono (q.1 rfl H A env m' μ₁ s₁ hA hE I₁) (fun f s₂ hp => ?_) noted
    obtain ⟨μ₂, τ₂, T₂, e₂, r⟩ := hp
    have T₀₂ := T₀.then I₁ T₂
    cases f with
    | next =>
      obtain ⟨m'', ρ'', I'', q1, q2⟩ := r
      exact ⟨_, q2, m'', μ₂, ρ'', τ₂, I'', T₀₂, (e'.trans e₁).trans e₂, q1, rfl⟩
    | cont => exact r.elim
    | brk => exact ⟨μ₂, τ₂, T₀₂, (e'.trans e₁).trans e₂, r⟩
    | ret v => exact ⟨μ₂, τ₂, T₀₂, (e'.trans e₁).trans e₂, r⟩
end
end Mine
namespace Mine

section
variable {w : World} {hb : Bs} {n : Nat} {sc : Scope} {ρ : List (Str × PV)} {τ : St} {Q : PV → St → Prop}

noncomputable def isStar : Expr → Bool
  | .Starred .. => true
  | _ => false
noncomputable def noStar : List Expr → Bool
  | [] => true
  | e :: r => !isStar e && noStar r
theorem starEach_cons {e : Expr} {r : List Expr} {env : Env} (h : isStar e = false) : starEach (e :: r) env = (false, eval e env) :: starEach r env := by
  cases e <;> first | rfl | (simp [isStar] at h)
theorem backTo_plain {pos : Pos} {env : Env} : ∀ {es : List Expr}, noStar es = true → (backTo pos (starEach es env)).any (·.1) = false
  | [], _ => rfl
  | e :: r, h => by
    simp only [noStar, Bool.and_eq_true, Bool.not_eq_true'] at h
    rw [starEach_cons h.1]
    have ih := backTo_plain (pos := pos) (env := env) h.2
    show (false || (backTo pos (starEach r env)).any (·.1)) = false
    rw [ih]; rfl

structure GF (w : World) (f : Str) (a : Addr) : Prop where
  ns : nsIn (KK w) mainGlobals f = some (some (.ref a))
  keep : keepIn (KK w) (.ref a) = true
theorem EV_Call {f : Str} {p pos : Pos} {e₀ : Expr} {rest : List Expr} {a : Addr} (hx : sc.names.lookup f = some .globalImplicit) (g : GF w f a)
    (hs : noStar (e₀ :: rest) = true) (h : EVs w hb n sc (e₀ :: rest) ρ τ fun ps τ₁ => CL w hb n (.ref a) ps τ₁ Q) : EV w hb n sc (.Call (.Name f p) (e₀ :: rest) [] pos) ρ τ Q := by
  intro H A env m μ s hA hE hI
  refine wpAny_Call_NameR (wp_global H hE hI hx g.ns ?_)
  have main : wpAny (model PR w) A (spliced (backTo pos (starEach (e₀ :: rest) env))) (fun vs s₁ => (KK w).In s₁.heap ∧ wpAny (model PR w) A (call (.ref a) ([] ++ vs)) (Post hb env.locals s μ Q) NoE s₁) NoE s := by
    refine wpAny_mono (h H A env m μ s pos hA hE hI) (fun vs s₁ hp => ?_) fun _ _ x => x
    obtain ⟨μ₁, τ₁, ps, T, rs, e₁, q⟩ := hp
    have I₁ := hI.step T
    exact ⟨H.kin.keeps I₁.base.up, wpAny_mono (q H A env.locals μ₁ s₁ vs hA I₁.base I₁.hasL I₁.store rs) (fun _ _ p => p.trans T e₁) fun _ _ x => x⟩
  simp only [noStar, Bool.and_eq_true, Bool.not_eq_true'] at hs
  exact callWith_K H.kin g.keep main (starEach_cons hs.1) (backTo_plain hs.2)
theorem EV_Call0 {f : Str} {p pos : Pos} {a : Addr} (hx : sc.names.lookup f = some .globalImplicit) (g : GF w f a)
    (h : CL w hb n (.ref a) [] τ Q) : EV w hb n sc (.Call (.Name f p) [] [] pos) ρ τ Q := by
  intro H A env m μ s hA hE hI
  refine wpAny_Call_NameR (wp_global H hE hI hx g.ns ?_)
  exact callWith_K0 (H.kin.keeps hI.base.up) g.keep (h H A env.locals μ s [] hA hI.base hI.hasL hI.store RepL.nil)
theorem EV_CallB {f : Str} {p pos : Pos} {e₀ : Expr} {rest : List Expr} {id : String} (hx : sc.names.lookup f = some .globalImplicit) (e : nsIn (KK w) mainGlobals f = some none) (hv : bootBuiltins f = some (.builtin id)) (hn : f ≠ "__name__")
    (hs : noStar (e₀ :: rest) = true) (h : EVs w hb n sc (e₀ :: rest) ρ τ fun ps τ₁ => CL w hb n (.builtin id) ps τ₁ Q) : EV w hb n sc (.Call (.Name f p) (e₀ :: rest) [] pos) ρ τ Q := by
  intro H A env m μ s hA hE hI
  refine wpAny_Call_NameR (wp_builtin H hE hI hx e hv hn ?_)
  refine callWith_builtin (backTo_plain hs) ?_
  have main := h H A env m μ s pos hA hE hI
  simp only [noStar, Bool.and_eq_true, Bool.not_eq_true'] at hs
  rw [starEach_cons hs.1] at main ⊢
  refine evalArgs_plain (wpAny_mono main (fun vs s₁ hp => ?_) fun _ _ x => x)
  obtain ⟨μ₁, τ₁, ps, T, rs, e₁, q⟩ := hp
  have I₁ := hI.step T
  exact wpAny_mono (q H A env.locals μ₁ s₁ vs hA I₁.base I₁.hasL I₁.store rs) (fun _ _ p => p.trans T e₁) fun _ _ x => x
theorem EV_CallT {f : Str} {p pos : Pos} {e₀ : Expr} {rest : List Expr} {T : String} (hx : sc.names.lookup f = some .globalImplicit) (e : nsIn (KK w) mainGlobals f = some none) (hv : bootBuiltins f = some (.type T)) (hn : f ≠ "__name__")
    (hs : noStar (e₀ :: rest) = true) (h : EVs w hb n sc (e₀ :: rest) ρ τ fun ps τ₁ => CL w hb n (.type T) ps τ₁ Q) : EV w hb n sc (.Call (.Name f p) (e₀ :: rest) [] pos) ρ τ Q := by
  intro H A env m μ s hA hE hI
  refine wpAny_Call_NameR (wp_builtin H hE hI hx e hv hn ?_)
  refine PySem.callWith_type (backTo_plain hs) ?_
  have main := h H A env m μ s pos hA hE hI
  simp only [noStar, Bool.and_eq_true, Bool.not_eq_true'] at hs
  rw [starEach_cons hs.1] at main ⊢
  refine evalArgs_plain (wpAny_mono main (fun vs s₁ hp => ?_) fun _ _ x => x)
  obtain ⟨μ₁, τ₁, ps, T, rs, e₁, q⟩ := hp
  have I₁ := hI.step T
  exact wpAny_mono (q H A env.locals μ₁ s₁ vs hA I₁.base I₁.hasL I₁.store rs) (fun _ _ p => p.trans T e₁) fun _ _ x => x

noncomputable def RB (hb : Bs) (L : Addr) (μ : List Addr) (h : Heap) : List (Str × PV) → List (Str × Value) → Prop
  | [], bs => bs = []
  | (x, p) :: r, bs => ∃ v u, bs = (x, v) :: u ∧ Rep hb L μ h p v ∧ RB hb L μ h r u
theorem RB.zip {L : Addr} {μ : List Addr} {h : Heap} : ∀ {xs : List Str} {ps : List PV} {vs : List Value} {dρ : List (Str × PV)} {dv : List (Str × Value)}, xs.length = ps.length → RepL hb L μ h ps vs → RB hb L μ h dρ dv → RB hb L μ h (xs.zip ps ++ dρ) (xs.zip vs ++ dv)
  | [], [], vs, dρ, dv, _, r, d => by simp only [RepL] at r; subst r; exact d
  | x :: xs, p :: ps, vs, dρ, dv, hl, r, d => by
    simp only [RepL] at r
    obtain ⟨v, u, rfl, rv, ru⟩ := r
    show RB hb L μ h ((x, p) :: (xs.zip ps ++ dρ)) ((x, v) :: (xs.zip u ++ dv))
    simp only [RB]
    exact ⟨v, _, rfl, rv, RB.zip (by simpa using hl) ru d⟩
  | [], _ :: _, _, _, _, hl, _, _ => by simp at hl
  | _ :: _, [], _, _, _, hl, _, _ => by simp at hl
theorem RB.names {L : Addr} {μ : List Addr} {h : Heap} : ∀ {ρ : List (Str × PV)} {bs : List (Str × Value)}, RB hb L μ h ρ bs → bs.map (·.1) = ρ.map (·.1)
  | [], bs, r => by simp only [RB] at r; subst r; rfl
  | (x, p) :: ρ, bs, r => by
    simp only [RB] at r
    obtain ⟨v, u, rfl, _, ru⟩ := r
    simp only [List.map_cons, RB.names ru]
theorem RB.mono {L L' : Addr} {μ μ' : List Addr} {h h' : Heap} (k : ∀ p v, Rep hb L μ h p v → Rep hb L' μ' h' p v) : ∀ {ρ : List (Str × PV)} {bs : List (Str × Value)}, RB hb L μ h ρ bs → RB hb L' μ' h' ρ bs
  | [], bs, r => by simp only [RB] at r ⊢; exact r
  | (x, p) :: ρ, bs, r => by
    simp only [RB] at r ⊢
    obtain ⟨v, u, e, rv, ru⟩ := r
    exact ⟨v, u, e, k _ _ rv, RB.mono k ru⟩
theorem bindL_out {k : Str → Option NameKind} {x : Str} : ∀ {bs : List (Str × Value)} {m : Str → Option Value}, x ∉ bs.map (·.1) → bindL k bs m x = m x
  | [], _, _ => rfl
  | (y, v) :: r, m, h => by
    simp only [List.map_cons, List.mem_cons, not_or] at h
    unfold bindL
    rw [bindL_out h.2]
    split
    · simp only [if_neg h.1]
    · rfl
theorem bindC_out {k : Str → Option NameKind} {x : Str} : ∀ {bs : List (Str × Value)} {m : Str → Option Value}, x ∉ bs.map (·.1) → bindC k bs m x = m x
  | [], _, _ => rfl
  | (y, v) :: r, m, h => by
    simp only [List.map_cons, List.mem_cons, not_or] at h
    unfold bindC
    rw [bindC_out h.2]
    split
    · rfl
    · simp only [if_neg h.1]
theorem RB.var {k : Str → Option NameKind} {L : Addr} {μ : List Addr} {h : Heap} {x : Str} {p : PV} : ∀ {ρ : List (Str × PV)} {bs : List (Str × Value)} {m cm : Str → Option Value}, RB hb L μ h ρ bs → (ρ.map (·.1)).Nodup → ρ.lookup x = some p →
    ∃ v, Rep hb L μ h p v ∧ (k x = some .local → bindL k bs m x = some v) ∧ (k x ≠ some .local → bindC k bs cm x = some v)
  | [], _, _, _, _, _, e => by simp at e
  | (y, q) :: ρ, bs, m, cm, r, nd, e => by
    have nm := RB.names r
    simp only [RB] at r
    obtain ⟨v, u, rfl, rv, ru⟩ := r
    simp only [List.map_cons, List.nodup_cons] at nd
    have nm' := RB.names ru
    rw [List.lookup_cons] at e
    by_cases hy : x = y
    · subst hy
      simp at e
      subst e
      have out : x ∉ u.map (·.1) := by rw [nm']; exact nd.1
      refine ⟨v, rv, fun hl => ?_, fun hl => ?_⟩
      · unfold bindL; rw [bindL_out out, if_pos hl]; simp
      · unfold bindC; rw [bindC_out out, if_neg hl]; simp
    · rw [beq_false_of_ne hy] at e
      unfold bindL bindC
      exact RB.var ru nd.2 e

theorem CL_fn {f : Addr} {ps : List PV} {name qual : Str} {params : Arguments} {body : List Stmt} {scope : Scope} {dV kV doc pm cdv ct oc : Value} {an od : Option Addr} {osl : Array (Option Value)} {xs : List Str} {dρ : List (Str × PV)} {dv : List (Str × Value)}
    (ho : (KK w).lookup f = some ⟨oc, od, .func (fnOf name qual params body scope dV kV doc pm an cdv ct), osl⟩) (hcd : codeIn (KK w) cdv qual = true)
    (hbind : ∀ (s : Shared) (vs : List Value), (KK w).In s.heap → vs.length = ps.length → BindsTo s (fnOf name qual params body scope dV kV doc pm an cdv ct) ⟨vs, []⟩ (xs.zip vs ++ dv))
    (hd : ∀ L μ h, RB hb L μ h dρ dv) (hl : xs.length = ps.length)
    (hst : ((xs ++ dv.map (·.1)).all (Stores scope)) = true) (hnd : (xs ++ dv.map (·.1)).Nodup) (hcn : ((cellsFrom 0 scope.names []).map (·.1)).Nodup)
    (hcs : ∀ L, (scope.names.all fun x => x.2 != .cell || ((cellsFrom L scope.names []).lookup x.1).isSome) = true)
    (h : ES w hb n scope body (xs.zip ps ++ dρ) τ ⟨fun _ τ' => Q .none τ', Q, fun _ _ => False⟩)
    (hdb : scope.names.lookup ("__debug__" : Str) = none) (hco : scope.isCoroutine = false) (hgen : scope.isGenerator = false) (hk : scope.kind = .function) : CL w hb (n + 1) (.ref f) ps τ Q := by
  intro H A L μ s vs hA hB hL hS rs
  obtain ⟨p, loose, mean, mg, mb, T⟩ := H.top
  have X : (KK w).In s.heap := H.kin.keeps hB.up
  have cellkind : ∀ (L' : Addr) (x : Str), scope.names.lookup x = some .cell → ∃ c, (cellsFrom L' scope.names []).lookup x = some c := fun L' x e => by
    rcases Bool.or_eq_true_iff.mp (List.all_eq_true.mp (hcs L') (x, .cell) (mem_of_lookup e)) with q | q
    · have q2 : (NameKind.cell != NameKind.cell) = true := q
      exact absurd q2 (by decide)
    · exact Option.isSome_iff_exists.mp q
  refine wpAny_call (codeAny_call_function (by have := hA.depth; omega) (X _ _ ho) rfl hco hgen rfl (codeRec_of X hcd) (hbind s vs X (rs.length) _ _ _ _ ?_))
  have hnames : (xs.zip vs ++ dv).map (·.1) = xs ++ dv.map (·.1) := by
    rw [List.map_append]
    congr 1
    exact List.map_fst_zip (by rw [rs.length, hl]; exact Nat.le_refl _)
  refine wpAny_newFunctionEnv_cells hk (fun x hx => ?_) fun env' he s' x => ?_
  · have hx' : x.1 ∈ xs ++ dv.map (·.1) := hnames ▸ List.mem_map_of_mem hx
    have := List.all_eq_true.mp hst x.1 hx'
    unfold Stores at this
    rcases Bool.or_eq_true_iff.mp this with q | q
    · exact .inl (eq_of_beq q)
    · obtain ⟨c, hc⟩ := cellkind (s.heap.objs.size + 1) x.1 (eq_of_beq q)
      exact .inr ⟨eq_of_beq q, by rw [hc]; rfl⟩
  · subst he
    refine ⟨(T.nolimit.keeps hB.up).keeps x.toInCall.keep, codeAny_func ?_⟩
    obtain ⟨h₁, tk, e₁, _⟩ := x.done
    have keep := x.toInCall.keep
    have newL : ∀ a o, s.heap.get? a = some o → a < s.heap.objs.size := fun a o e => Heap.lt_size e
    have frz : ∀ p v, Rep hb L μ s.heap p v → Rep hb s.heap.objs.size μ s'.heap p v := fun p v r => Rep.monoL (fun a o e _ => keep a o e) (fun a o e _ => Nat.ne_of_lt (newL a o e)) (List.prefix_refl _) p v r
    have rb : RB hb s.heap.objs.size μ s'.heap (xs.zip ps ++ dρ) (xs.zip vs ++ dv) := RB.mono frz (RB.zip hl rs (hd _ _ _))
    have memlk : ∀ n c, (n, c) ∈ (cellsFrom (s.heap.objs.size + 1) scope.names []) → (cellsFrom (s.heap.objs.size + 1) scope.names []).lookup n = some c := fun n c m =>
      lookup_of_mem_nodup (cellsFrom_names scope.names 0 (s.heap.objs.size + 1) [] [] rfl ▸ hcn) m
    have base0 : ∀ a, s.heap.objs.size ≤ a → hb.hp.get? a = none := fun a ha => by
      cases e : hb.hp.get? a with
      | none => rfl
      | some o => exact absurd (newL a o (hB.up a o e)) (Nat.not_lt.mpr ha)
    have hE : EnvOk (newEnv scope s.heap.objs.size mainGlobals (cellsFrom (s.heap.objs.size + 1) scope.names []) (qual ++ ".<locals>.") (some f) cdv none builtinsNs) scope := ⟨rfl, rfl, rfl, hk, cellkind _, hdb⟩
    have hnd' : ((xs.zip ps ++ dρ).map (·.1)).Nodup := by rw [← RB.names rb, hnames]; exact hnd
    have hI : Inv hb (newEnv scope s.heap.objs.size mainGlobals (cellsFrom (s.heap.objs.size + 1) scope.names []) (qual ++ ".<locals>.") (some f) cdv none builtinsNs) _ μ (xs.zip ps ++ dρ) τ s'.heap := {
      base := hB.grow keep
      ns := x.toInCall.ns
      cells := fun n c m => ⟨_, x.cell n c (memlk n c m)⟩
      apart := x.apart
      freshL := base0 _ (Nat.le_refl _)
      freshC := fun n c m => base0 c (Nat.le_of_lt (x.above n c m))
      vars := fun y q e => by
        obtain ⟨v, rv, h1, h2⟩ := RB.var (k := (newEnv scope s.heap.objs.size mainGlobals (cellsFrom (s.heap.objs.size + 1) scope.names []) (qual ++ ".<locals>.") (some f) cdv none builtinsNs).kindOf) (m := fun _ => none) (cm := fun _ => none) rb hnd' e
        refine ⟨v, ?_, rv⟩
        have hy : y ∈ xs ++ dv.map (·.1) := by
          rw [← hnames, RB.names rb]
          exact List.mem_map_of_mem (f := (·.1)) (mem_of_lookup e)
        have := List.all_eq_true.mp hst y hy
        unfold Stores at this
        rcases Bool.or_eq_true_iff.mp this with q | q
        · exact .inl ⟨eq_of_beq q, h1 (eq_of_beq q)⟩
        · obtain ⟨c, hc⟩ := cellkind (s.heap.objs.size + 1) y (eq_of_beq q)
          have hcell := x.cell y c hc
          rw [h2 (by show scope.names.lookup y ≠ _; rw [eq_of_beq q]; simp)] at hcell
          exact .inr ⟨.inl (eq_of_beq q), c, hc, hcell⟩
      store := hS.grow keep }
    refine wpAny_mono (h H _ _ _ μ s' ⟨hA.hd, by show A.depth + 1 + n < _; have := hA.depth; omega, by show A.units + 3 + 8 * n + 80 < _; have := hA.units; omega⟩ hE hI) (fun fl s'' hp => ?_) fun _ _ z => z.elim
    obtain ⟨μ₂, τ₂, U, e₂, r⟩ := hp
    have sm : Same s s' := by rw [e₁]; exact ⟨rfl, rfl, rfl⟩
    have TT : Stp hb μ s.heap μ₂ τ₂ s''.heap := {
      ext := fun a o e nm => U.ext a o (keep a o e) nm (Nat.ne_of_lt (newL a o e)) (fun n c m q => by
        have := x.above n c m
        have h2 := newL a o e
        rw [q] at h2
        exact absurd h2 (Nat.not_lt.mpr (Nat.le_of_lt this)))
      pre := U.pre
      fresh := fun a m => (U.fresh a m).imp id fun q => by
        cases e : s.heap.get? a with
        | none => rfl
        | some o => rw [keep a o e] at q; cases q
      store := U.store }
    cases fl with
    | next =>
      obtain ⟨m', ρ', _, q⟩ := r
      exact ⟨μ₂, τ₂, .none, TT, rep_none, sm.trans e₂, q⟩
    | brk => obtain ⟨m', ρ', _, q⟩ := r; exact q.elim
    | cont => exact r.elim
    | ret v =>
      obtain ⟨p, rp, ne, q⟩ := r
      exact ⟨μ₂, τ₂, p, TT, rp.noL ne, sm.trans e₂, q⟩
end
end Mine
namespace Mine

section
variable {w : World} {hb : Bs} {n : Nat} {sc : Scope} {ρ : List (Str × PV)} {τ : St} {Q : PV → St → Prop}

noncomputable def plainIdx : Expr → Bool
  | .Slice .. => false
  | _ => true
theorem subscripted_plain {slice : Expr} (h : plainIdx slice = true) (o i : Value) : subscripted slice false o i = operate [o, i] (getItem o i) := by
  cases slice <;> first | rfl | (simp [plainIdx] at h)

theorem EV_Sub {value slice : Expr} {pos : Pos} (h : EV w hb n sc value ρ τ fun p τ₁ => EV w hb n sc slice ρ τ₁ fun i τ₂ => O2 w hb n (subscriptTail value slice) p i τ₂ Q) : EV w hb n sc (.Subscript value slice pos) ρ τ Q := by
  intro H A env m μ s hA hE hI
  refine Subscript_ (h.bind1 H hA hE hI fun a s₁ μ₁ τ₁ pa T₁ e₁ I₁ ra q₁ => ?_)
  refine q₁.bind1 H hA hE I₁ fun b s₂ μ₂ τ₂ pb T₂ e₂ I₂ rb q₂ => ?_
  exact wpAny_mono (q₂ H A env.locals μ₂ s₂ a b hA I₂.base I₂.store (ra.step I₁.store T₂) rb) (fun _ _ p => (p.trans T₂ e₂).trans T₁ e₁) fun _ _ x => x

theorem O2_itemT {value slice : Expr} {l : List PV} {k : Int} {j : Nat} {p : PV} (hp : plainIdx slice = true) (hlo : -(2 ^ 63) ≤ k) (hhi : k < 2 ^ 63) (hj : seqIndex? k l.length = some j) (hx : l[j]? = some p) (q : Q p τ) :
    O2 w hb n (subscriptTail value slice) (.tup l) (.int k) τ Q := by
  intro H A L μ s x y hA hB hS ra rb
  simp only [Rep] at ra rb
  obtain ⟨a, vs, rfl, _, ht, rs⟩ := ra
  obtain ⟨t, rfl⟩ := rb
  obtain ⟨v, hv, rv⟩ := rs.get hx
  exact item_tupleT ht hlo hhi (by rw [rs.length]; exact hj) hv (Post.here hS rfl (Same.refl s) rv q) (subscripted_plain hp _ _)

theorem LstAt.rep {L : Addr} {μ : List Addr} {h : Heap} {a : Addr} {l : List PV} (x : LstAt hb μ h a l) : ∃ vs n, h.get? a = some (listOf (List.toArray vs) n) ∧ RepL hb L μ h l vs := let ⟨vs, n, e, r, ne⟩ := x; ⟨vs, n, e, RepL.noL ne r⟩

theorem list_at {L : Addr} {μ : List Addr} {s : Shared} {i : Nat} {l : List PV} {x : Value} (hS : StoreOk hb μ τ s.heap) (r : Rep hb L μ s.heap (.adr i) x) (hi : τ[i]? = some l) : ∃ a vs n, x = .ref a ∧ μ[i]? = some a ∧ s.heap.get? a = some (listOf (List.toArray vs) n) ∧ RepL hb L μ s.heap l vs ∧ s.heap.IsList a (List.toArray vs) := by
  simp only [Rep] at r
  obtain ⟨a, ha, rfl⟩ := r
  obtain ⟨vs, n, e, rs⟩ := (hS.at_ i a l ha hi).rep (L := L)
  exact ⟨a, vs, n, rfl, ha, e, rs, _, e, rfl, _, rfl⟩

theorem O2_itemL {value slice : Expr} {i : Nat} {l : List PV} {k : Int} {p : PV} (hp : plainIdx slice = true) (hi : τ[i]? = some l) (h0 : 0 ≤ k) (hhi : k < 2 ^ 63) (hx : l[k.toNat]? = some p) (q : Q p τ) :
    O2 w hb n (subscriptTail value slice) (.adr i) (.int k) τ Q := by
  intro H A L μ s x y hA hB hS ra rb
  obtain ⟨a, vs, m, rfl, ha, e, rs, hL⟩ := list_at hS ra hi
  simp only [Rep] at rb
  obtain ⟨t, rfl⟩ := rb
  obtain ⟨v, hv, rv⟩ := rs.get hx
  exact tail_any hL.typeIs slot_list_getitem.lookup (wpAny_getItem_list hL h0 hhi (by simpa using hv) (Post.here hS rfl (Same.refl s) rv q)) (subscripted_plain hp _ _)
theorem O2_itemLn {value slice : Expr} {i : Nat} {l : List PV} {k : Int} {p : PV} (hp : plainIdx slice = true) (hi : τ[i]? = some l) (h0 : k < 0) (hlo : -(l.length : Int) ≤ k) (h63 : -(2 ^ 63) ≤ k) (hx : l[(k + (l.length : Int)).toNat]? = some p) (q : Q p τ) :
    O2 w hb n (subscriptTail value slice) (.adr i) (.int k) τ Q := by
  intro H A L μ s x y hA hB hS ra rb
  obtain ⟨a, vs, m, rfl, ha, e, rs, hL⟩ := list_at hS ra hi
  simp only [Rep] at rb
  obtain ⟨t, rfl⟩ := rb
  obtain ⟨v, hv, rv⟩ := rs.get hx
  have hl : vs.length = l.length := rs.length
  exact tail_any hL.typeIs slot_list_getitem.lookup (wpAny_getItem_list_neg hL h0 (by rw [List.size_toArray, hl]; exact hlo) h63 (by rw [List.size_toArray, hl]; simpa using hv) (Post.here hS rfl (Same.refl s) rv q)) (subscripted_plain hp _ _)

theorem len1 {α : Type} {l : List α} (h : l.length = 1) : ∃ a, l = [a] := by
  rcases l with _ | ⟨a, _ | ⟨b, l⟩⟩
  · cases h
  · exact ⟨a, rfl⟩
  · cases h
theorem len2 {α : Type} {l : List α} (h : l.length = 2) : ∃ a b, l = [a, b] := by
  rcases l with _ | ⟨a, l⟩
  · cases h
  · obtain ⟨b, rfl⟩ := len1 (Nat.succ.inj h); exact ⟨a, b, rfl⟩
theorem len3 {α : Type} {l : List α} (h : l.length = 3) : ∃ a b c, l = [a, b, c] := by
  rcases l with _ | ⟨a, l⟩
  · cases h
  · obtain ⟨b, c, rfl⟩ := len2 (Nat.succ.inj h); exact ⟨a, b, c, rfl⟩
theorem len4 {α : Type} {l : List α} (h : l.length = 4) : ∃ a b c d, l = [a, b, c, d] := by
  rcases l with _ | ⟨a, l⟩
  · cases h
  · obtain ⟨b, c, d, rfl⟩ := len3 (Nat.succ.inj h); exact ⟨a, b, c, d, rfl⟩
theorem len7 {α : Type} {l : List α} (h : l.length = 7) : ∃ a b c d e f g, l = [a, b, c, d, e, f, g] := by
  rcases l with _ | ⟨a, _ | ⟨b, _ | ⟨c, l⟩⟩⟩
  · cases h
  · cases h
  · cases h
  · obtain ⟨d, e, f, g, rfl⟩ := len4 (Nat.succ.inj (Nat.succ.inj (Nat.succ.inj h))); exact ⟨a, b, c, d, e, f, g, rfl⟩

theorem CL_def {f : Addr} {ps : List PV} {name qual : Str} {params : Arguments} {body : List Stmt} {scope : Scope} {dV kV doc pm cdv ct oc : Value} {an od : Option Addr} {osl : Array (Option Value)}
    (ho : (KK w).lookup f = some ⟨oc, od, .func (fnOf name qual params body scope dV kV doc pm an cdv ct), osl⟩) (hcd : codeIn (KK w) cdv qual = true)
    (hbind : ∀ (s : Shared) (vs : List Value), (KK w).In s.heap → vs.length = ps.length → BindsTo s (fnOf name qual params body scope dV kV doc pm an cdv ct) ⟨vs, []⟩ ((params.args.map (·.arg)).zip vs))
    (hl : (params.args.map (·.arg)).length = ps.length)
    (hst : ((params.args.map (·.arg)).all (Stores scope)) = true) (hnd : (params.args.map (·.arg)).Nodup) (hcn : ((cellsFrom 0 scope.names []).map (·.1)).Nodup)
    (hcs : ∀ L, (scope.names.all fun x => x.2 != .cell || ((cellsFrom L scope.names []).lookup x.1).isSome) = true)
    (h : ES w hb n scope body ((params.args.map (·.arg)).zip ps) τ ⟨fun _ τ' => Q .none τ', Q, fun _ _ => False⟩)
    (hdb : scope.names.lookup ("__debug__" : Str) = none) (hco : scope.isCoroutine = false) (hgen : scope.isGenerator = false) (hk : scope.kind = .function) : CL w hb (n + 1) (.ref f) ps τ Q :=
  CL_fn (xs := params.args.map (·.arg)) (dρ := []) (dv := []) ho hcd (fun s vs X e => by rw [List.append_nil]; exact hbind s vs X e) (fun _ _ _ => by simp only [RB]) hl (by simpa using hst) (by simpa using hnd) hcn hcs (by rw [List.append_nil]; exact h) hdb hco hgen hk
end
end Mine
namespace Mine

noncomputable def Bs.hide (hb : Bs) (H : List Addr) : Bs := ⟨hb.hp, H ++ hb.hid⟩

section
variable {hb : Bs} {L : Addr} {μ : List Addr} {h : Heap} {H : List Addr} {τ : St}

mutual
theorem Rep.weak : ∀ (p : PV) (v : Value), Rep (hb.hide H) L μ h p v → Rep hb L μ h p v
  | .none, _, r => r
  | .bool _, _, r => r
  | .int _, _, r => r
  | .tup l, v, r => by
    simp only [Rep] at r ⊢
    obtain ⟨a, vs, e, nh, t, q⟩ := r
    exact ⟨a, vs, e, fun m => nh (List.mem_append_right _ m), t, RepL.weak l vs q⟩
  | .adr i, v, r => r
  | .ell .., v, r => r
  | .rng .., v, r => r
  | .blist _, v, r => r
  | .raw _, v, r => r
theorem RepL.weak : ∀ (l : List PV) (vs : List Value), RepL (hb.hide H) L μ h l vs → RepL hb L μ h l vs
  | [], _, r => r
  | p :: ps, vs, r => by
    simp only [RepL] at r ⊢
    obtain ⟨v, t, e, q, qs⟩ := r
    exact ⟨v, t, e, Rep.weak p v q, RepL.weak ps t qs⟩
end
mutual
theorem Rep.hide (hH : ∀ a ∈ H, h.get? a = none) : ∀ (p : PV) (v : Value), Rep hb L μ h p v → Rep (hb.hide H) L μ h p v
  | .none, _, r => r
  | .bool _, _, r => r
  | .int _, _, r => r
  | .tup l, v, r => by
    simp only [Rep] at r ⊢
    obtain ⟨a, vs, e, nh, t, q⟩ := r
    refine ⟨a, vs, e, fun m => ?_, t, RepL.hide hH l vs q⟩
    rcases List.mem_append.mp m with m | m
    · obtain ⟨o, ho, _⟩ := t
      rw [hH a m] at ho; cases ho
    · exact nh m
  | .adr i, v, r => r
  | .ell .., v, r => r
  | .rng .., v, r => r
  | .blist _, v, r => r
  | .raw _, v, r => r
theorem RepL.hide (hH : ∀ a ∈ H, h.get? a = none) : ∀ (l : List PV) (vs : List Value), RepL hb L μ h l vs → RepL (hb.hide H) L μ h l vs
  | [], _, r => r
  | p :: ps, vs, r => by
    simp only [RepL] at r ⊢
    obtain ⟨v, t, e, q, qs⟩ := r
    exact ⟨v, t, e, Rep.hide hH p v q, RepL.hide hH ps t qs⟩
end
theorem StoreOk.weak (S : StoreOk (hb.hide H) μ τ h) : StoreOk hb μ τ h :=
  ⟨S.len, S.nd, fun i a l e1 e2 => let ⟨vs, n, g, r, q⟩ := S.at_ i a l e1 e2; ⟨vs, n, g, RepL.weak _ _ r, q⟩, S.base⟩
theorem StoreOk.hide (S : StoreOk hb μ τ h) (hH : ∀ a ∈ H, h.get? a = none) : StoreOk (hb.hide H) μ τ h :=
  ⟨S.len, S.nd, fun i a l e1 e2 => let ⟨vs, n, g, r, q⟩ := S.at_ i a l e1 e2; ⟨vs, n, g, RepL.hide hH _ _ r, q⟩, S.base⟩
theorem Base.weak (B : Base (hb.hide H) h) : Base hb h := ⟨B.up, fun a m => B.hid a (List.mem_append_right _ m), fun a m => B.new a (List.mem_append_right _ m)⟩
theorem Stp.weak {μ' : List Addr} {τ' : St} {h' : Heap} (T : Stp (hb.hide H) μ h μ' τ' h') : Stp hb μ h μ' τ' h' := ⟨T.ext, T.pre, T.fresh, T.store.weak⟩
theorem StpS.weak {env : Env} {μ' : List Addr} {τ' : St} {h' : Heap} (T : StpS (hb.hide H) env μ h μ' τ' h') : StpS hb env μ h μ' τ' h' := ⟨T.ext, T.pre, T.fresh, T.store.weak⟩
theorem Inv.weak {env : Env} {m : Str → Option Value} {ρ : List (Str × PV)} (I : Inv (hb.hide H) env m μ ρ τ h) : Inv hb env m μ ρ τ h :=
  ⟨I.base.weak, I.ns, I.cells, I.apart, I.freshL, I.freshC, fun x p e => let ⟨v, hv, r⟩ := I.vars x p e; ⟨v, hv, Rep.weak _ _ r⟩, I.store.weak⟩
theorem Inv.hide {env : Env} {m : Str → Option Value} {ρ : List (Str × PV)} {h₂ : Heap} (I : Inv hb env m μ ρ τ h) (hH : ∀ a ∈ H, h.get? a = none) (k : ∀ a o, h.get? a = some o → h₂.get? a = some o)
    (ok : ∀ a ∈ H, ∃ o, h₂.get? a = some o ∧ o.cls = .type "tuple" ∧ ∃ its k, o.data = .seq its k) : Inv (hb.hide H) env m μ ρ τ h₂ where
  base := ⟨fun b o e => k _ _ (I.base.up b o e), fun a m => (List.mem_append.mp m).elim (ok a) fun m => let ⟨o, e, r⟩ := I.base.hid a m; ⟨o, k _ _ e, r⟩,
    fun a m => (List.mem_append.mp m).elim (fun m => by
      show hb.hp.get? a = none
      cases e : hb.hp.get? a with
      | none => rfl
      | some o => have := I.base.up _ _ e; rw [hH a m] at this; cases this) (I.base.new a)⟩
  ns := let ⟨o, es, ep, ho, r⟩ := I.ns; ⟨o, es, ep, k _ _ ho, r⟩
  cells x c m := let ⟨v, o, e, d⟩ := I.cells x c m; ⟨v, o, k _ _ e, d⟩
  apart := I.apart
  freshL := I.freshL
  freshC := I.freshC
  vars x p e := by
    obtain ⟨v, hv, r⟩ := I.vars x p e
    refine ⟨v, ?_, Rep.mono (fun a o e _ => k a o e) (List.prefix_refl _) _ _ (Rep.hide hH _ _ r)⟩
    rcases hv with q | ⟨q, c, hc, o, e, d⟩
    · exact .inl q
    · exact .inr ⟨q, c, hc, o, k _ _ e, d⟩
  store := (I.store.hide hH).grow k

noncomputable def OwnAt (hb : Bs) (h : Heap) (a : Addr) : Prop :=
  ∃ o, h.get? a = some o ∧ (((∃ fs, o.data = .fields fs) ∧ o.cls ≠ .type "range" ∧ a ∉ hb.hid) ∨ (a ∈ hb.hid ∧ o.cls = .type "tuple" ∧ ∃ its k, o.data = .seq its k))
noncomputable def Fra (ow : List Addr) (h h' : Heap) : Prop := ∀ b o, b ∉ ow → h.get? b = some o → h'.get? b = some o
noncomputable def Stiff (o : Obj) : Prop := (∃ fs, o.data = .fields fs) ∨ (o.cls = .type "tuple" ∧ ∃ its k, o.data = .seq its k)

variable {ow : List Addr}
theorem OwnAt.ne_data {a : Addr} {o : Obj} (w : OwnAt hb h a) (e : h.get? a = some o) : (∃ fs, o.data = .fields fs) ∨ ∃ its k, o.data = .seq its k := by
  obtain ⟨o', e', q⟩ := w
  rw [e] at e'; cases e'
  rcases q with ⟨q, _⟩ | ⟨_, _, q⟩
  · exact .inl q
  · exact .inr q
theorem OwnAt.not_frz {a : Addr} {o : Obj} (w : OwnAt hb h a) (e : h.get? a = some o) : ¬ Frz hb.hid L a o := by
  obtain ⟨o', e', q⟩ := w
  rw [e] at e'; cases e'
  rcases q with ⟨⟨fs, d⟩, c, _⟩ | ⟨m, c, its, k, d⟩
  · rintro ((⟨_, ⟨_, _, d'⟩, _⟩ | ⟨c', _⟩) | ⟨_, d'⟩ | ⟨_, ⟨_, _, d'⟩, _⟩)
    · rw [d] at d'; cases d'
    · exact c c'
    · rw [d] at d'; cases d'
    · rw [d] at d'; cases d'
  · rintro ((⟨_, _, m'⟩ | ⟨_, _, d'⟩) | ⟨_, d'⟩ | ⟨_, ⟨_, _, d'⟩, _⟩)
    · exact m' m
    · rw [d] at d'; cases d'
    · rw [d] at d'; cases d'
    · rw [d] at d'; cases d'
theorem Fra.frz {h' : Heap} (f : Fra ow h h') (ok : ∀ a ∈ ow, OwnAt hb h a) : ∀ a o, h.get? a = some o → Frz hb.hid L a o → h'.get? a = some o :=
  fun a o e z => f a o (fun m => (ok a m).not_frz e z) e
theorem StoreOk.not_own {a : Addr} (S : StoreOk hb μ τ h) (w : OwnAt hb h a) : a ∉ μ := fun m => by
  obtain ⟨o, e, c, vs, n, d⟩ := S.mem_list m
  obtain ⟨o', e', q⟩ := w
  rw [e] at e'; cases e'
  rcases q with ⟨⟨fs, d'⟩, _⟩ | ⟨_, c', _⟩
  · rw [d] at d'; cases d'
  · rw [c] at c'; simp at c'
theorem StoreOk.fra {h' : Heap} (S : StoreOk hb μ τ h) (f : Fra ow h h') (ok : ∀ a ∈ ow, OwnAt hb h a) : StoreOk hb μ τ h' :=
  S.keep (fun a o e z => f.frz (L := 0) ok a o e (.inl z)) fun a o e m => f a o (fun q => S.not_own (ok a q) m) e
theorem Inv.own {env : Env} {m : Str → Option Value} {ρ : List (Str × PV)} {h' : Heap} (I : Inv hb env m μ ρ τ h) (f : Fra ow h h') (ok : ∀ a ∈ ow, OwnAt hb h a) (B : Base hb h') : Inv hb env m μ ρ τ h' where
  base := B
  ns := by
    obtain ⟨o, es, ep, ho, hd, r⟩ := I.ns
    refine ⟨o, es, ep, f _ _ (fun q => ?_) ho, hd, r⟩
    rcases (ok _ q).ne_data ho with ⟨_, d⟩ | ⟨_, _, d⟩ <;> (rw [hd] at d; cases d)
  cells x c m := by
    obtain ⟨v, o, e, d⟩ := I.cells x c m
    refine ⟨v, o, f _ _ (fun q => ?_) e, d⟩
    rcases (ok _ q).ne_data e with ⟨_, d'⟩ | ⟨_, _, d'⟩ <;> (rw [d] at d'; cases d')
  apart := I.apart
  freshL := I.freshL
  freshC := I.freshC
  vars x p e := by
    obtain ⟨v, hv, r⟩ := I.vars x p e
    refine ⟨v, ?_, Rep.mono (f.frz ok) (List.prefix_refl _) _ _ r⟩
    rcases hv with q | ⟨q, c, hc, o, e, d⟩
    · exact .inl q
    · refine .inr ⟨q, c, hc, o, f _ _ (fun q => ?_) e, d⟩
      rcases (ok _ q).ne_data e with ⟨_, d'⟩ | ⟨_, _, d'⟩ <;> (rw [d] at d'; cases d')
  store := I.store.fra f ok
theorem Base.fra {h' : Heap} (B : Base hb h) (f : Fra ow h h') (fr : ∀ a ∈ ow, hb.hp.get? a = none) (ok' : ∀ a ∈ ow, OwnAt hb h' a) : Base hb h' :=
  ⟨fun b o e => f _ _ (fun q => by rw [fr b q] at e; cases e) (B.up b o e), fun a m => by
    by_cases q : a ∈ ow
    · obtain ⟨o', e', z⟩ := ok' a q
      obtain ⟨o, e, c, d⟩ := B.hid a m
      rcases z with ⟨_, _, nm⟩ | ⟨_, c', d'⟩
      · exact absurd m nm
      · exact ⟨o', e', c', d'⟩
    · obtain ⟨o, e, r⟩ := B.hid a m
      exact ⟨o, f _ _ q e, r⟩, B.new⟩
theorem StpS.fra {env : Env} {μ' : List Addr} {h₁ h₂ : Heap} {τ' : St} (T : StpS hb env μ h μ' τ' h₁) (f : Fra ow h₁ h₂) (fr : ∀ a ∈ ow, h.get? a = none) (S : StoreOk hb μ' τ' h₂) : StpS hb env μ h μ' τ' h₂ :=
  ⟨fun a o e m l c => f _ _ (fun q => by rw [fr a q] at e; cases e) (T.ext a o e m l c), T.pre, T.fresh, S⟩
theorem Stp.fra {μ' : List Addr} {h₁ h₂ : Heap} {τ' : St} (T : Stp hb μ h μ' τ' h₁) (f : Fra ow h₁ h₂) (fr : ∀ a ∈ ow, h.get? a = none) (S : StoreOk hb μ' τ' h₂) : Stp hb μ h μ' τ' h₂ :=
  ⟨fun a o e m => f _ _ (fun q => by rw [fr a q] at e; cases e) (T.ext a o e m), T.pre, T.fresh, S⟩
theorem Stp.stiff {μ' : List Addr} {τ' : St} {h' : Heap} (S : StoreOk hb μ τ h) (T : Stp hb μ h μ' τ' h') : ∀ a o, h.get? a = some o → Stiff o → h'.get? a = some o :=
  fun a o e z => T.ext a o e (fun m => by
    obtain ⟨o', e', c, vs, n, d⟩ := S.mem_list m
    rw [e] at e'; cases e'
    rcases z with ⟨fs, d'⟩ | ⟨c', _⟩
    · rw [d] at d'; cases d'
    · rw [c] at c'; simp at c')
theorem StpS.stiff {env : Env} {m : Str → Option Value} {ρ : List (Str × PV)} {μ' : List Addr} {τ' : St} {h' : Heap} (I : Inv hb env m μ ρ τ h) (T : StpS hb env μ h μ' τ' h') : ∀ a o, h.get? a = some o → Stiff o → h'.get? a = some o := by
  intro a o e z
  obtain ⟨oL, _, _, hoL, hdL, _⟩ := I.ns
  refine T.ext a o e (fun m => ?_) ?_ ?_
  · obtain ⟨o', e', c, vs, n, d⟩ := I.store.mem_list m
    rw [e] at e'; cases e'
    rcases z with ⟨fs, d'⟩ | ⟨c', _⟩
    · rw [d] at d'; cases d'
    · rw [c] at c'; simp at c'
  · rintro rfl
    rw [hoL] at e; cases e
    rcases z with ⟨fs, d'⟩ | ⟨_, _, _, d'⟩ <;> (rw [hdL] at d'; cases d')
  · rintro x c m rfl
    obtain ⟨v₀, oc, hoc, hdc⟩ := I.cells x a m
    rw [hoc] at e; cases e
    rcases z with ⟨fs, d'⟩ | ⟨_, _, _, d'⟩ <;> (rw [hdc] at d'; cases d')
end
end Mine
namespace Mine

structure Src (w : World) (A : Around) (hb : Bs) (target : Expr) (ps : List PV) (K : St → Prop) (I : Addr) (ow : List Addr) (S : Nat → List Addr → Heap → Prop) : Prop where
  mov : ∀ i μ μ' h h', S i μ h → μ <+: μ' → (∀ a o, h.get? a = some o → Stiff o → h'.get? a = some o) → S i μ' h'
  ok : ∀ i μ h, S i μ h → ∀ a ∈ ow, OwnAt hb h a
  item : ∀ i p μ τ (s : Shared) (Q : Option Value → Shared → Prop) (E : Value → Shared → Prop), S i μ s.heap → ps[i]? = some p → Base hb s.heap → StoreOk hb μ τ s.heap → K τ →
    (∀ v h₁ tk, (∀ L, Rep hb L μ h₁ p v) → Fra ow s.heap h₁ → (∀ a ∈ ow, OwnAt hb h₁ a) →
      (∀ (s₁ : Shared) (Q' : Unit → Shared → Prop) (E' : Value → Shared → Prop), s₁.heap = h₁ → (∀ h₂, S (i + 1) μ h₂ → Fra ow h₁ h₂ → Q' () { s₁ with heap := h₂ }) → wpAny (model PR w) A (letOwnedTupleGo target (.ref I) v) Q' E' s₁) →
      Q (some v) { s with heap := h₁, toks := tk }) → wpAny (model PR w) A (pyNext (.ref I)) Q E s
  done : ∀ μ τ (s : Shared) (Q : Option Value → Shared → Prop) (E : Value → Shared → Prop), S ps.length μ s.heap → Base hb s.heap → StoreOk hb μ τ s.heap → K τ →
    (∀ h₁ tk, Fra ow s.heap h₁ → Q none { s with heap := h₁, toks := tk }) → wpAny (model PR w) A (pyNext (.ref I)) Q E s
  self : ∀ i μ (s : Shared) (Q : Value → Shared → Prop) (E : Value → Shared → Prop), S i μ s.heap → Q (.ref I) s → wpAny (model PR w) A (pyIter (.ref I)) Q E s

noncomputable def rngFrom (a c : Int) : Nat → List PV
  | 0 => []
  | k + 1 => .int a :: rngFrom (a + c) c k
theorem rngFrom_length (c : Int) : ∀ (k : Nat) (a : Int), (rngFrom a c k).length = k
  | 0, _ => rfl
  | k + 1, a => by simp [rngFrom, rngFrom_length c k]
theorem rngFrom_get (c : Int) : ∀ (k : Nat) (a : Int) (i : Nat), i < k → (rngFrom a c k)[i]? = some (.int (a + i * c))
  | 0, _, _, h => absurd h (Nat.not_lt_zero _)
  | k + 1, a, 0, _ => by simp [rngFrom]
  | k + 1, a, i + 1, h => by
    simp only [rngFrom, List.getElem?_cons_succ, rngFrom_get c k (a + c) i (Nat.lt_of_succ_lt_succ h)]
    congr 2
    push_cast
    rw [Int.add_mul, Int.one_mul]
    omega

section
variable {w : World} {A : Around} {hb : Bs} {τ : St}

theorem SameBut.fra1 {a : Addr} {h h' : Heap} (s : Heap.SameBut a h h') : Fra [a] h h' := fun b o n e => s.extBut b o (fun q => n (by simp [q])) e
theorem ExtBut.fra1 {a : Addr} {h h' : Heap} (s : Heap.ExtBut a h h') : Fra [a] h h' := fun b o n e => s b o (fun q => n (by simp [q])) e

noncomputable def plainTarget : Expr → Bool
  | .Name .. => true
  | .Tuple .. => true
  | _ => false

theorem go_range {I : Addr} {x l c : Int} {target : Expr} {i : Int} {t : Tok} {Q : Unit → Shared → Prop} {E : Value → Shared → Prop} {s : Shared} (hs : IsRangeIter s.heap I x l c) (hp : plainTarget target = true) (q : Q () s) :
    wpAny (model PR w) A (letOwnedTupleGo target (.ref I) (.int i t)) Q E s := by
  cases target <;> first | (simp [plainTarget] at hp; done) | exact wpAny_pure q
theorem go_list {I l : Addr} {target : Expr} {i : Nat} {v : Value} {Q : Unit → Shared → Prop} {E : Value → Shared → Prop} {s : Shared} (hs : s.heap.IsListIter I l i) (hp : plainTarget target = true) (q : Q () s) :
    wpAny (model PR w) A (letOwnedTupleGo target (.ref I) v) Q E s := by
  cases target <;> first | (simp [plainTarget] at hp; done) | skip
  · exact wpAny_pure q
  · cases v <;> first | exact wpAny_letOwnedTupleGo_listiter hs q | exact wpAny_pure q

theorem src_range (hh : A.handled = none) (target : Expr) (hp : plainTarget target = true) (I : Addr) (nh : I ∉ hb.hid) (a : Int) (n : Nat) :
    Src w A hb target (rngFrom a 1 n) (fun _ => True) I [I] (fun i _ h => i ≤ n ∧ IsRangeIter h I (a + (i : Nat)) ((n : Int) - (i : Nat)) 1) where
  mov := fun i μ μ' h h' ⟨z, x⟩ _ k => ⟨z, k _ _ x (.inl ⟨_, rfl⟩)⟩
  ok := fun i μ h ⟨_, x⟩ b m => by
    rw [List.mem_singleton.mp m]
    exact ⟨_, x, .inl ⟨⟨_, rfl⟩, by simp, nh⟩⟩
  item := fun i p μ τ s Q E ⟨hi, x⟩ hp' _ _ _ k => by
    have hlt : i < n := by have := (List.getElem?_eq_some_iff.mp hp').1; rwa [rngFrom_length] at this
    rw [rngFrom_get 1 n a i hlt] at hp'
    cases hp'
    refine wpAny_pyNext_range_item x (by omega) fun h' x' sb => ?_
    have nx : IsRangeIter h' I (a + ((i + 1 : Nat) : Int)) ((n : Int) - ((i + 1 : Nat) : Int)) 1 := by
      have e1 : a + ((i + 1 : Nat) : Int) = a + (i : Int) + 1 := by push_cast; omega
      have e2 : (n : Int) - ((i + 1 : Nat) : Int) = (n : Int) - (i : Int) - 1 := by push_cast; omega
      rw [e1, e2]; exact x'
    refine k _ h' _ (fun L => ?_) (SameBut.fra1 sb) (fun b m => ?_) fun s₁ Q' E' hs₁ q => ?_
    · rw [show a + (i : Int) * 1 = a + (i : Int) by omega]
      exact rep_int
    · rw [List.mem_singleton.mp m]
      exact ⟨_, x', .inl ⟨⟨_, rfl⟩, by simp, nh⟩⟩
    · subst hs₁
      exact go_range nx hp (q s₁.heap ⟨hlt, nx⟩ fun _ _ _ e => e)
  done := fun μ τ s Q E ⟨_, x⟩ _ _ _ k => by
    rw [rngFrom_length] at x
    exact wpAny_pyNext_range_end hh x (by omega) fun h' he => k h' s.toks (ExtBut.fra1 he)
  self := fun i μ s Q E ⟨_, x⟩ q => wpAny_pyIter_rangeiter x q

theorem src_list (hh : A.handled = none) (target : Expr) (hp : plainTarget target = true) (I l : Addr) (j : Nat) (nh : I ∉ hb.hid) (ps : List PV) :
    Src w A hb target ps (fun τ => τ[j]? = some ps) I [I] (fun i μ h => h.IsListIter I l i ∧ μ[j]? = some l) where
  mov := fun i μ μ' h h' ⟨⟨o, e, c, d⟩, x⟩ pre k => ⟨⟨o, k _ _ e (.inl ⟨_, d⟩), c, d⟩, get_pre pre x⟩
  ok := fun i μ h ⟨⟨o, e, c, d⟩, _⟩ b m => by
    rw [List.mem_singleton.mp m]
    exact ⟨o, e, .inl ⟨⟨_, d⟩, by rw [c]; simp, nh⟩⟩
  item := fun i p μ τ s Q E ⟨it, x⟩ hp' _ S kk k => by
    obtain ⟨vs, n, e, r, ne⟩ := S.at_ _ _ _ x kk
    obtain ⟨v, hv, rv⟩ := r.get hp'
    have hl : s.heap.IsList l vs.toArray := ⟨_, e, rfl, _, rfl⟩
    refine wpAny_pyNext_list_item it hl (by simpa using hv) fun h' it' sb => ?_
    have Iok : OwnAt hb s.heap I := let ⟨o, e, c, d⟩ := it; ⟨o, e, .inl ⟨⟨_, d⟩, by rw [c]; simp, nh⟩⟩
    have f : Fra [I] s.heap h' := SameBut.fra1 sb
    have ok : ∀ a ∈ [I], OwnAt hb s.heap a := fun a m => by rw [List.mem_singleton.mp m]; exact Iok
    refine k _ h' _ (fun L => Rep.mono (f.frz ok) (List.prefix_refl _) _ _ (rv.noL (noEllL_get ne hp'))) f (fun b m => ?_) fun s₁ Q' E' hs₁ q => ?_
    · rw [List.mem_singleton.mp m]
      obtain ⟨o, e, c, d⟩ := it'
      exact ⟨o, e, .inl ⟨⟨_, d⟩, by rw [c]; simp, nh⟩⟩
    · subst hs₁
      exact go_list it' hp (q s₁.heap ⟨it', x⟩ fun _ _ _ e => e)
  done := fun μ τ s Q E ⟨it, x⟩ _ S kk k => by
    obtain ⟨vs, n, e, r, ne⟩ := S.at_ _ _ _ x kk
    have hl : s.heap.IsList l vs.toArray := ⟨_, e, rfl, _, rfl⟩
    exact wpAny_pyNext_list_end hh it hl (by rw [← r.length]; simp) fun h' he => k h' s.toks (ExtBut.fra1 he)
  self := fun i μ s Q E ⟨it, x⟩ q => wpAny_pyIter_listiter it q
end
end Mine
namespace Mine

section
variable {w : World} {hb : Bs} {n : Nat} {sc : Scope} {ρ : List (Str × PV)} {τ : St} {Q : PV → St → Prop} {C : Co} {env : Env}

noncomputable def bindT : Expr → PV → List (Str × PV) → Option (List (Str × PV))
  | .Name x _, p, ρ => some ((x, p) :: ρ)
  | .Tuple es _ _, .tup ps, ρ => match namesOf es with
    | some xs => if xs.length = ps.length then some (binds xs ps ρ) else none
    | none => none
  | _, _, _ => none
noncomputable def targetOk (sc : Scope) : Expr → Bool
  | .Name x _ => Stores sc x
  | .Tuple es _ _ => match namesOf es with
    | some xs => xs.all (Stores sc)
    | none => false
  | _ => false
theorem targetOk.plain {t : Expr} (h : targetOk sc t = true) : plainTarget t = true := by
  cases t <;> first | rfl | (simp [targetOk] at h)

theorem assign_target {target : Expr} {p : PV} {ρ' : List (Str × PV)} {v : Value} {A : Around} {m : Str → Option Value} {μ : List Addr} {s : Shared} {R : Unit → Shared → Prop} (hA : AOk n A) (hE : EnvOk env sc) (hI : Inv hb env m μ ρ τ s.heap)
    (ht : targetOk sc target = true) (hb' : bindT target p ρ = some ρ') (r : Rep hb env.locals μ s.heap p v)
    (k : ∀ m' s', Inv hb env m' μ ρ' τ s'.heap → StpS hb env μ s.heap μ τ s'.heap → Same s s' → R () s') : wpAny (model PR w) A (assign target env v) R NoE s := by
  unfold bindT at hb'
  split at hb'
  · cases hb'
    exact PyProof.Rows.assign_Name (store_name hE hI (Stores.to ht hE) r k)
  · split at hb'
    · rename_i es _ _ ps _ xs hn
      split at hb'
      · rename_i hl
        cases hb'
        simp only [targetOk, hn] at ht
        simp only [Rep] at r
        obtain ⟨t, vs, rfl, _, htup, rs⟩ := r
        obtain ⟨ts, l1, l2⟩ := namesOf_TS (w := w) (env := env) hn
        refine wpAny_assign_Tuple hA.hd htup (by rw [l1, List.size_toArray, rs.length, hl]) l2 fun h' he => ?_
        have T : Stp hb μ s.heap μ τ h' := Stp.grow hI.store fun b o e => he b o (Nat.ne_of_lt (Heap.lt_size e)) e
        have I₂ := hI.step T
        refine store_names (s := { s with heap := h' }) hE _ xs ps vs ρ m μ _ ts (fun x hm => List.all_eq_true.mp ht x hm) hl I₂ (rs.step hI.store T) fun m' s' I' T' e' => ?_
        exact k m' s' I' (T.toS.then I₂ T') e'
      · cases hb'
    · cases hb'
  · cases hb'

noncomputable def ForI (w : World) (hb : Bs) (n : Nat) (sc : Scope) (target : Expr) (body : List Stmt) (K : St → Prop) : List PV → List (Str × PV) → St → Co → Prop
  | [], ρ, τ, C => K τ ∧ C.nx ρ τ
  | p :: ps, ρ, τ, C => K τ ∧ ∃ ρ₁, bindT target p ρ = some ρ₁ ∧ ES w hb n sc body ρ₁ τ ⟨fun ρ' τ' => ForI w hb n sc target body K ps ρ' τ' C, C.rt, C.nx⟩

theorem for_core {A : Around} {target : Expr} {body : List Stmt} {ps : List PV} {K : St → Prop} {I : Addr} {ow H : List Addr} {S : Nat → List Addr → Heap → Prop} {m : Str → Option Value} {μ μ₁ : List Addr} {s s₂ : Shared}
    (hHB : HB w hb) (hA : AOk n A) (hE : EnvOk env sc) (W : Src w A (hb.hide H) target ps K I ow S) (ht : targetOk sc target = true)
    (fr : ∀ a ∈ ow, s.heap.get? a = none) (fb : ∀ a ∈ ow, hb.hp.get? a = none) (fh : ∀ a ∈ ow, a ∉ hb.hid)
    (I₂ : Inv (hb.hide H) env m μ₁ ρ τ s₂.heap) (T₂ : StpS hb env μ s.heap μ₁ τ s₂.heap) (e₂ : Same s s₂) (S₂ : S 0 μ₁ s₂.heap)
    (hF : ForI w (hb.hide H) n sc target body K ps ρ τ C) :
    codeAny (model PR w) A (.forLoop target (.ref I) body [] env) (fun r s' => match r with | .ok f => PostS hb env s μ C f s' | .error e => cameBackBy (model PR w) A env NoE e s') s₂ := by
  refine codeAny_forLoop_any (fun k s' => ∃ m' μ' ρ' τ' i, i + k = ps.length ∧ Inv (hb.hide H) env m' μ' ρ' τ' s'.heap ∧ StpS hb env μ s.heap μ' τ' s'.heap ∧ Same s s' ∧ S i μ' s'.heap ∧ ForI w (hb.hide H) n sc target body K (ps.drop i) ρ' τ' C) ?_ ps.length
    ⟨m, μ₁, ρ, τ, 0, Nat.zero_add _, I₂, T₂, e₂, S₂, by simpa using hF⟩
  rintro k s' ⟨m', μ', ρ', τ', i, hk, I', T', e', S', hF'⟩
  have HH : HB w (hb.hide H) := ⟨hHB.kin, hHB.top⟩
  cases hp : ps[i]? with
  | none =>
    have hi : i = ps.length := by have := List.getElem?_eq_none_iff.mp hp; omega
    subst hi
    rw [List.drop_length] at hF'
    refine W.done μ' τ' s' _ _ S' I'.base I'.store hF'.1 fun h₁ tk f => wpAny_execs_nil ?_
    have ok := W.ok _ _ _ S'
    have I₁ : Inv hb env m' μ' ρ' τ' h₁ := by
      have B : Base hb h₁ := ⟨fun b o e => f _ _ (fun q => by rw [fb b q] at e; cases e) (I'.base.up b o e), fun a z => let ⟨o, e, r⟩ := I'.base.weak.hid a z; ⟨o, f _ _ (fun q => fh a q z) e, r⟩, I'.base.weak.new⟩
      have st := (I'.store.fra f ok).weak
      exact ⟨B, by
        obtain ⟨o, es, ep, ho, hd, r⟩ := I'.ns
        refine ⟨o, es, ep, f _ _ (fun q => ?_) ho, hd, r⟩
        rcases (ok _ q).ne_data ho with ⟨_, d⟩ | ⟨_, _, d⟩ <;> (rw [hd] at d; cases d), fun x c z => by
        obtain ⟨v, o, e, d⟩ := I'.cells x c z
        refine ⟨v, o, f _ _ (fun q => ?_) e, d⟩
        rcases (ok _ q).ne_data e with ⟨_, d'⟩ | ⟨_, _, d'⟩ <;> (rw [d] at d'; cases d'), I'.apart, I'.freshL, I'.freshC, fun x p e => by
        obtain ⟨v, hv, r⟩ := I'.vars x p e
        refine ⟨v, ?_, Rep.weak _ _ (Rep.mono (f.frz ok) (List.prefix_refl _) _ _ r)⟩
        rcases hv with q | ⟨q, c, hc, o, e, d⟩
        · exact .inl q
        · refine .inr ⟨q, c, hc, o, f _ _ (fun q => ?_) e, d⟩
          rcases (ok _ q).ne_data e with ⟨_, d'⟩ | ⟨_, _, d'⟩ <;> (rw [d] at d'; cases d'), st⟩
    exact ⟨μ', τ', T'.fra f fr I₁.store, e'.trans ⟨rfl, rfl, rfl⟩, m', ρ', I₁, hF'.2⟩
  | some p =>
    have hi := (List.getElem?_eq_some_iff.mp hp).1
    have hd : ps.drop i = p :: ps.drop (i + 1) := by
      rw [List.drop_eq_getElem_cons hi, (List.getElem?_eq_some_iff.mp hp).2]
    rw [hd] at hF'
    obtain ⟨hK, ρ₁, hbind, hbody⟩ := hF'
    refine W.item i p μ' τ' s' _ _ S' hp I'.base I'.store hK fun v h₁ tk rv f ok₁ go => ?_
    have ok := W.ok _ _ _ S'
    have I₁ : Inv (hb.hide H) env m' μ' ρ' τ' h₁ := I'.own f ok (I'.base.fra f fb ok₁)
    refine go _ _ _ rfl fun h₂ S'' f₂ => ?_
    have ok₂ := W.ok _ _ _ S''
    have I₂ : Inv (hb.hide H) env m' μ' ρ' τ' h₂ := I₁.own f₂ ok₁ (I₁.base.fra f₂ fb ok₂)
    have T₂' : StpS hb env μ s.heap μ' τ' h₂ := (T'.fra f fr I₁.store.weak).fra f₂ fr I₂.store.weak
    refine wpAny_mono (E := NoE) (assign_target (s := { s' with heap := h₂, toks := tk }) hA hE I₂ ht hbind (Rep.mono (f₂.frz ok₁) (List.prefix_refl _) _ _ (rv env.locals)) (R := fun _ s₃ => wpAny (model PR w) A (execs body env) _ _ s₃) fun m₃ s₃ I₃ T₃ e₃ => ?_) (fun _ _ x => x) noted
    refine wpAny_mono (hbody HH A env m₃ μ' s₃ hA hE I₃) (fun fl s₄ hq => ?_) noted
    obtain ⟨μ₄, τ₄, T₄, e₄, r⟩ := hq
    have e04 : Same s s₄ := (e'.trans (⟨rfl, rfl, rfl⟩ : Same s' { s' with heap := h₂, toks := tk })).trans (e₃.trans e₄)
    have T03 : StpS hb env μ s.heap μ' τ' s₃.heap := T₂'.then I₂.weak T₃.weak
    have T04 : StpS hb env μ s.heap μ₄ τ₄ s₄.heap := T03.then I₃.weak T₄.weak
    cases fl with
    | next =>
      obtain ⟨m₅, ρ₅, I₅, q⟩ := r
      refine ⟨k - 1, by omega, m₅, μ₄, ρ₅, τ₄, i + 1, by omega, I₅, T04, e04, ?_, q⟩
      exact W.mov _ _ _ _ _ (W.mov _ _ _ _ _ S'' (List.prefix_refl _) (StpS.stiff I₂ T₃)) T₄.pre (StpS.stiff I₃ T₄)
    | cont => exact r.elim
    | brk =>
      obtain ⟨m₅, ρ₅, I₅, q⟩ := r
      exact ⟨μ₄, τ₄, T04, e04, m₅, ρ₅, I₅.weak, q⟩
    | ret v =>
      obtain ⟨p, rp, ne, q⟩ := r
      exact ⟨μ₄, τ₄, T04, e04, p, Rep.weak _ _ rp, ne, q⟩

theorem Bs.hide_nil : hb.hide [] = hb := rfl

end
end Mine
namespace Mine

noncomputable def SubIt (kd : Bool) (h : Heap) (i a : Addr) (k : Nat) : Prop := ∃ o, h.get? i = some o ∧ o.cls = .type (bif kd then "list_iterator" else "tuple_iterator") ∧ o.data = .fields #[.ref a, .int k 0]
noncomputable def SubSq (kd : Bool) (h : Heap) (a : Addr) (xs : Array Value) : Prop := ∃ o, h.get? a = some o ∧ o.cls = .type (bif kd then "list" else "tuple") ∧ ∃ n, o.data = .seq xs n
theorem SubIt.at {kd : Bool} {h h' : Heap} {i a : Addr} {k : Nat} (x : SubIt kd h i a k) (e : ∀ o, h.get? i = some o → h'.get? i = some o) : SubIt kd h' i a k := let ⟨o, ho, r⟩ := x; ⟨o, e _ ho, r⟩
theorem SubSq.at {kd : Bool} {h h' : Heap} {a : Addr} {xs : Array Value} (x : SubSq kd h a xs) (e : ∀ o, h.get? a = some o → h'.get? a = some o) : SubSq kd h' a xs := let ⟨o, ho, r⟩ := x; ⟨o, e _ ho, r⟩
theorem SubIt.but {kd : Bool} {h h' : Heap} {i a b : Addr} {k : Nat} (x : SubIt kd h i a k) (e : Heap.ExtBut b h h') (n : i ≠ b) : SubIt kd h' i a k := x.at fun o q => e _ o n q

section
variable {w : World} {A : Around} {E : Value → Shared → Prop}

theorem sub_next {kd : Bool} {i a : Addr} {k : Nat} {xs : Array Value} {s : Shared} {Q : Value → Shared → Prop} (hh : A.handled = none) (h1 : SubIt kd s.heap i a k) (h2 : SubSq kd s.heap a xs)
    (yes : ∀ x h', xs[k]? = some x → SubIt kd h' i a (k + 1) → Heap.SameBut i s.heap h' → Q x { s with heap := h' })
    (no : ∀ h' e, xs[k]? = none → Heap.ExtBut i s.heap h' → (∃ o, h'.get? e = some o ∧ o.cls = .type "StopIteration") → E (.ref e) { s with heap := h' }) :
    wpAny (model PR w) A (Builtin.SmallTypes.nextOf (.ref i)) Q E s := by
  cases kd with
  | true =>
    cases hx : xs[k]? with
    | none => exact wpAny_nextOf_list_end hh h1 h2 hx fun h' e => no h' e hx
    | some x => exact wpAny_nextOf_list_item h1 h2 hx fun h' => yes x h' hx
  | false =>
    obtain ⟨hp, g, d, tk, os⟩ := s
    obtain ⟨⟨_, di, _, si⟩, h1, rfl, rfl⟩ := h1
    obtain ⟨⟨_, da, _, sa⟩, h2, rfl, na, rfl⟩ := h2
    have hT : (⟨hp, g, d, tk, os⟩ : Shared).TypeIs (.ref i) "tuple_iterator" := ⟨_, h1, rfl⟩
    refine wpAny_bind (wpAny_callSpecial?_slot (name := Str.ofString "__next__") hT F.slot_tuple_iterator_next
        (wpAny_call_entry F.slot_tuple_iterator_next hT F.entry_tuple_iterator_next ?_ (F.args_tuple_iterator_next_1 _)))
    wp_walk
    rw [Int.toNat_natCast]
    cases hx : xs[k]? with
    | none =>
      wp_walk
      exact wpAny_raiseNew_none hh (no _ _ hx (((Heap.SameBut.update ..).extBut.push _).push _) ⟨_, Heap.get?_push_size _ rfl, rfl⟩)
    | some x =>
      wp_walk
      refine ⟨x, rfl, wpAny_pure (yes x _ hx ⟨_, Heap.get?_update_self _ h1 rfl, rfl, ?_⟩ (Heap.SameBut.update ..))⟩
      simp [Obj.mapFields, rawInt]
end
end Mine
namespace Mine

section
variable {w : World} {A : Around} {E : Value → Shared → Prop}

set_option maxHeartbeats 4000000 in
theorem zip_next {c1 c2 : Bool} {s : Shared} {z TI TO i1 i2 l1 l2 : Addr} {k1 k2 : Nat} {xs ys : Array Value} {a b : Value} {Q : Value → Shared → Prop} (hh : A.handled = none) (D : ZipApart z TI TO i1 i2 l1 l2)
    (hz : IsZip s.heap z TI TO .none) (hTI : IsPair s.heap TI (.ref i1) (.ref i2)) (hTO : IsPair s.heap TO a b)
    (h1 : SubIt c1 s.heap i1 l1 k1) (h2 : SubIt c2 s.heap i2 l2 k2) (hl1 : SubSq c1 s.heap l1 xs) (hl2 : SubSq c2 s.heap l2 ys) 
    (yes : ∀ x y h', xs[k1]? = some x → ys[k2]? = some y → IsZip h' z TI TO (rawInt s.heap.objs.size) → IsPair h' TO x y → SubIt c1 h' i1 l1 (k1 + 1) → SubIt c2 h' i2 l2 (k2 + 1) → IsPair h' s.heap.objs.size x y →
      (∀ c o, c ∉ [z, TO, i1, i2] → s.heap.get? c = some o → h'.get? c = some o) → Q (.ref s.heap.objs.size) { s with heap := h' })
    (no : ∀ h' e, (xs[k1]? = none ∨ ys[k2]? = none) → (∀ c o, c ∉ [z, TO, i1, i2] → s.heap.get? c = some o → h'.get? c = some o) → (∃ o, h'.get? e = some o ∧ o.cls = .type "StopIteration") → E (.ref e) { s with heap := h' }) :
    wpAny (model PR w) A (Builtin.«zip.__next__» ⟨[.ref z], []⟩) (fun fin s' => ∃ v, fin = .done (.ret v) ∧ Q v s') E s := by
  obtain ⟨hp, g, d, tk, os⟩ := s
  replace hz : hp.get? z = _ := hz
  replace hTI : hp.get? TI = _ := hTI
  replace hTO : hp.get? TO = _ := hTO
  have out : ∀ {c : Addr}, c ∉ [z, TO, i1, i2] → c ≠ z ∧ c ≠ TO ∧ c ≠ i1 ∧ c ≠ i2 := fun m => by simpa using m
  have exc : ∀ {h : Heap} {f : Value} {e : Addr} {o : Obj}, IsZip h z TI TO f → h.get? e = some o → o.cls = .type "StopIteration" → e ≠ z := fun a b c q => by
    rw [q, a] at b
    cases b
    simp at c
  wp_walk using wpAny_setField_rec hz (by simp)
  intro g1 z1 q1
  replace z1 : IsZip g1 z TI TO .ellipsis := z1
  have n1 := fun Q E => sub_next (w := w) (Q := Q) (E := E) (s := ⟨g1, g, d, tk, os⟩) hh (h1.at fun o e => q1.extBut _ o D.i1z e) (hl1.at fun o e => q1.extBut _ o D.l1z e)
  wp_walk using wpAny_onRaise, n1
  · intro x g2 hx p1 q2
    have z2 : IsZip g2 z TI TO .ellipsis := q2.extBut _ _ D.i1z.symm z1
    have t2 : IsPair g2 TO a b := q2.extBut _ _ D.TOi1 (q1.extBut _ _ D.TOz hTO)
    wp_walk using wpAny_updateSeq_pair t2
    intro g3 t3 q3
    have n2 := fun Q E => sub_next (w := w) (Q := Q) (E := E) (s := ⟨g3, g, d, tk, os⟩) hh (h2.at fun o e => q3.extBut _ o D.TOi2.symm (q2.extBut _ o D.i12.symm (q1.extBut _ o D.i2z e)))
      (hl2.at fun o e => q3.extBut _ o D.l2TO (q2.extBut _ o D.l2i1 (q1.extBut _ o D.l2z e)))
    have z3 : IsZip g3 z TI TO .ellipsis := q3.extBut _ _ D.TOz.symm z2
    have f3 : ∀ c o, c ∉ [z, TO, i1, i2] → hp.get? c = some o → g3.get? c = some o := fun c o m e => q3.extBut _ o (out m).2.1 (q2.extBut _ o (out m).2.2.1 (q1.extBut _ o (out m).1 e))
    wp_walk using wpAny_letGo, wpAny_onRaise, n2
    · intro y g4 hy p2 q4
      have t4 : IsPair g4 TO x b := q4.extBut _ _ D.TOi2 t3
      wp_walk using wpAny_updateSeq_pair t4
      intro g5 t5 q5
      have z5 : IsZip g5 z TI TO .ellipsis := q5.extBut _ _ D.TOz.symm (q4.extBut _ _ D.i2z.symm z3)
      have f5 : ∀ c o, c ∉ [z, TO, i1, i2] → hp.get? c = some o → g5.get? c = some o := fun c o m e => q5.extBut _ o (out m).2.1 (q4.extBut _ o (out m).2.2.2 (f3 c o m e))
      have n5 : g5.objs.size = hp.objs.size := q5.1.trans (q4.1.trans (q3.1.trans (q2.1.trans q1.1)))
      wp_walk using wpAny_letGo, wpAny_setField_rec (Heap.get?_push_of_some _ z5) (by simp)
      intro g6 z6 q6
      wp_walk using wpAny_setField_rec z6 (by simp)
      intro g7 z7 q7
      wp_walk
      replace z7 : IsZip g7 z TI TO (rawInt g5.objs.size) := z7
      have up : ∀ c o, c ≠ z → (g5.push { cls := .type "tuple", data := .seq #[x, y] }).get? c = some o → g7.get? c = some o := fun c o m e => q7.extBut _ _ m (q6.extBut _ _ m e)
      have pr : IsPair g7 g5.objs.size x y := up _ _ (Nat.ne_of_gt (Heap.lt_size z5)) (Heap.get?_push_size _ rfl)
      have old : ∀ c o, c ≠ z → g5.get? c = some o → g7.get? c = some o := fun c o m e => up c o m (Heap.get?_push_of_some _ e)
      refine ⟨_, rfl, ?_⟩
      show Q (.ref g5.objs.size) ⟨g7, g, d, tk, os⟩
      rw [n5] at z7 pr ⊢
      exact yes x y g7 hx hy z7 (old _ _ D.TOz t5) (p1.at fun o e => old _ o D.i1z (q5.extBut _ o D.TOi1.symm (q4.extBut _ o D.i12 (q3.extBut _ o D.TOi1.symm e)))) (p2.at fun o e => old _ o D.i2z (q5.extBut _ o D.TOi2.symm e)) pr
        fun c o m e => old c o (out m).1 (f5 c o m e)
    · intro g4 e hy q4 ⟨o, ho, ce⟩
      have z4 : IsZip g4 z TI TO .ellipsis := q4 _ _ D.i2z.symm z3
      exact wpAny_setField_rec z4 (by simp) fun g5 _ q5 => no g5 e (.inr hy) (fun c o m x => q5.extBut _ o (out m).1 (q4 _ o (out m).2.2.2 (f3 c o m x))) ⟨o, q5.extBut _ _ (exc z4 ho ce) ho, ce⟩
  · intro g2 e hx q2 ⟨o, ho, ce⟩
    have z2 : IsZip g2 z TI TO .ellipsis := q2 _ _ D.i1z.symm z1
    exact wpAny_setField_rec z2 (by simp) fun g3 _ q3 => no g3 e (.inl hx) (fun c o m x => q3.extBut _ o (out m).1 (q2 _ o (out m).2.2.1 (q1.extBut _ o (out m).1 x))) ⟨o, q3.extBut _ _ (exc z2 ho ce) ho, ce⟩

theorem made_size (l : List Obj) : ∀ h : Heap, (l.foldl Heap.push h).objs.size = h.objs.size + l.length := by
  induction l with
  | nil => exact fun _ => rfl
  | cons o l ih => exact fun h => by rw [List.foldl_cons, ih, Heap.size_push, List.length_cons]; omega
theorem made_old (l : List Obj) : ∀ {h : Heap} {a : Addr} {o : Obj}, h.get? a = some o → (l.foldl Heap.push h).get? a = some o := by
  induction l with
  | nil => exact fun e => e
  | cons x l ih => exact fun e => ih (Heap.get?_push_of_some x e)
theorem made_new (l : List Obj) : ∀ (h : Heap) (k : Nat) {o : Obj}, l[k]? = some o → o.isFreed = false → (l.foldl Heap.push h).get? (h.objs.size + k) = some o := by
  induction l with
  | nil => exact fun _ _ _ e => by simp at e
  | cons x l ih =>
    intro h k o e f
    cases k with
    | zero =>
      simp only [List.getElem?_cons_zero, Option.some.injEq] at e
      subst e
      exact made_old l (Heap.get?_push_size h f)
    | succ k =>
      have r := ih (h.push x) k (by simpa using e) f
      rw [Heap.size_push] at r
      rw [show h.objs.size + (k + 1) = h.objs.size + 1 + k by omega]
      exact r

structure ZipMade (c : Bool) (l1 l2 : Addr) (n : Nat) (h h' : Heap) : Prop where
  zip : IsZip h' (n + 4) (n + 2) (n + 3) .none
  its : IsPair h' (n + 2) (.ref n) (.ref (n + 1))
  out : IsPair h' (n + 3) .none .none
  one : SubIt c h' n l1 0
  two : SubIt c h' (n + 1) l2 0
  old : ∀ a o, h.get? a = some o → h'.get? a = some o

theorem zip_tup (l1 l2 : Addr) (xs ys : Array Value) :
    Meets (Builtin.«zip.__new__» ⟨[.type "zip", .ref l1, .ref l2], []⟩) (fun _ R s => SubSq false s.heap l1 xs ∧ SubSq false s.heap l2 ys ∧
      ∀ h', ZipMade false l1 l2 s.heap.objs.size s.heap h' → R (.ok (.ret (.ref (s.heap.objs.size + 4)))) { s with heap := h' }) :=
  .of_wp fun prog w A R s ⟨t1, t2, k⟩ => by
    obtain ⟨hp, g, d, tk, os⟩ := s
    have kind := sub_zip
    have u1 : Heap.IsTuple (Shared.heap ⟨hp, g, d, tk, os⟩) l1 xs := t1
    have u2 : Heap.IsTuple (Shared.heap ⟨hp.push ⟨.type "tuple_iterator", none, .fields #[.ref l1, .int 0 0], #[]⟩, g, d, tk, os⟩) l2 ys := Heap.IsTuple.push t2 _
    wp_walk using wpAny_pyIter_tuple u1, wpAny_pyIter_tuple u2
    simp only [Heap.size_push]
    refine ⟨_, rfl, k (List.foldl Heap.push hp [⟨.type "tuple_iterator", none, .fields #[.ref l1, .int 0 0], #[]⟩, ⟨.type "tuple_iterator", none, .fields #[.ref l2, .int 0 0], #[]⟩, ⟨.type "tuple", none, .seq #[.ref hp.objs.size, .ref (hp.objs.size + 1)], #[]⟩,
      ⟨.type "tuple", none, .seq #[.none, .none], #[]⟩, ⟨.type "zip", none, .fields #[.none, .bool false, .bool false, .ref (hp.objs.size + 2), .ref (hp.objs.size + 3)], #[]⟩]) ⟨made_new _ _ 4 rfl rfl, made_new _ _ 2 rfl rfl, made_new _ _ 3 rfl rfl, ⟨_, made_new _ _ 0 rfl rfl, rfl, rfl⟩, ⟨_, made_new _ _ 1 rfl rfl, rfl, rfl⟩, fun a o => made_old _⟩⟩

theorem zip_call {c : Bool} {l1 l2 : Addr} {xs ys : Array Value} {s : Shared} {Q : Value → Shared → Prop} (t1 : SubSq c s.heap l1 xs) (t2 : SubSq c s.heap l2 ys)
    (k : ∀ h', ZipMade c l1 l2 s.heap.objs.size s.heap h' → Q (.ref (s.heap.objs.size + 4)) { s with heap := h' }) : wpAny (model PR w) A (call (.type "zip") [.ref l1, .ref l2]) Q E s := by
  cases c with
  | true => exact call_zip_2 t1 t2 fun h' a b c d e _ f => k h' ⟨a, b, c, d, e, f⟩
  | false => exact callType_new F.called_zip (by decide) (F.typeCall_zip_2 _ _) (F.newCall_zip_2 _ _) (fun obj => F.args_object_init_3 obj _ _) F.entry_zip_new (zip_tup l1 l2 xs ys) ⟨t1, t2, fun h' m => ⟨⟨_, m.zip, rfl⟩, k h' m⟩⟩
end
end Mine
namespace Mine

noncomputable def itemsOf (τ : St) : PV → Option (List PV)
  | .tup ps => some ps
  | .adr j => τ[j]?
  | _ => none
noncomputable def kdOf : PV → Bool
  | .adr _ => true
  | _ => false
noncomputable def zipPV (l r : List PV) : List PV := List.zipWith (fun a b => .tup [a, b]) l r

section
variable {w : World} {A : Around} {hb : Bs} {τ : St}

theorem src_vals {μ : List Addr} {h : Heap} {p : PV} {l : Addr} {ps : List PV} (r : Rep hb 0 μ h p (.ref l)) (S : StoreOk hb μ τ h) (e : itemsOf τ p = some ps) (ne : noEll p = true) :
    ∃ vs, SubSq (kdOf p) h l (List.toArray vs) ∧ RepL hb 0 μ h ps vs ∧ noEllL ps = true := by
  cases p <;> simp only [itemsOf] at e <;> try (cases e; done)
  · cases e
    simp only [Rep] at r
    obtain ⟨a, vs, q, _, ht, rs⟩ := r
    cases q
    exact ⟨vs, ht, rs, by simpa [noEll] using ne⟩
  · simp only [Rep] at r
    obtain ⟨a, ha, q⟩ := r
    cases q
    obtain ⟨vs, n, g, rs, q⟩ := S.at_ _ _ _ ha e
    exact ⟨vs, ⟨_, g, rfl, _, rfl⟩, rs, q⟩

theorem stiff_frzN {h h' : Heap} (k : ∀ a o, h.get? a = some o → Stiff o → h'.get? a = some o) : ∀ a o, h.get? a = some o → FrzN hb.hid a o → h'.get? a = some o := by
  intro a o e f
  refine k a o e ?_
  rcases f with ⟨c, d, _⟩ | ⟨_, d⟩
  · exact .inr ⟨c, d⟩
  · exact .inl d

theorem src_zip (hh : A.handled = none) {elts : List Expr} {kx : Nat} {tp : Pos} {z TI TO i1 i2 l1 l2 : Addr} (D : ZipApart z TI TO i1 i2 l1 l2) (p1 p2 : PV) (c : Bool) (hc1 : kdOf p1 = c) (hc2 : kdOf p2 = c) (n1 : noEll p1 = true) (n2 : noEll p2 = true)
    (ps1 ps2 : List PV) (hz : z ∉ hb.hid) (hTO : TO ∈ hb.hid) (hi1 : i1 ∉ hb.hid) (hi2 : i2 ∉ hb.hid) :
    Src w A hb (.Tuple elts kx tp) (zipPV ps1 ps2) (fun τ => itemsOf τ p1 = some ps1 ∧ itemsOf τ p2 = some ps2) z [z, TO, i1, i2] (fun i μ h => IsZip h z TI TO .none ∧ IsPair h TI (.ref i1) (.ref i2) ∧ (∃ a b, IsPair h TO a b) ∧ SubIt c h i1 l1 i ∧ SubIt c h i2 l2 i ∧
      Rep hb 0 μ h p1 (.ref l1) ∧ Rep hb 0 μ h p2 (.ref l2)) where
  mov := fun i μ μ' h h' ⟨a1, a2, ⟨a, b, a3⟩, a4, a5, a6, a7⟩ pre k =>
    ⟨k _ _ a1 (.inl ⟨_, rfl⟩), k _ _ a2 (.inr ⟨rfl, _, _, rfl⟩), ⟨a, b, k _ _ a3 (.inr ⟨rfl, _, _, rfl⟩)⟩, let ⟨o, e, cc, d⟩ := a4; ⟨o, k _ _ e (.inl ⟨_, d⟩), cc, d⟩, let ⟨o, e, cc, d⟩ := a5; ⟨o, k _ _ e (.inl ⟨_, d⟩), cc, d⟩,
      Rep.monoN (stiff_frzN k) pre _ _ n1 a6, Rep.monoN (stiff_frzN k) pre _ _ n2 a7⟩
  ok := fun i μ h ⟨a1, a2, ⟨a, b, a3⟩, a4, a5, a6, a7⟩ x m => by
    simp only [List.mem_cons, List.not_mem_nil, or_false] at m
    rcases m with rfl | rfl | rfl | rfl
    · exact ⟨_, a1, .inl ⟨⟨_, rfl⟩, by simp, hz⟩⟩
    · exact ⟨_, a3, .inr ⟨hTO, rfl, _, _, rfl⟩⟩
    · obtain ⟨o, e, cc, d⟩ := a4
      exact ⟨o, e, .inl ⟨⟨_, d⟩, by rw [cc]; cases c <;> simp, hi1⟩⟩
    · obtain ⟨o, e, cc, d⟩ := a5
      exact ⟨o, e, .inl ⟨⟨_, d⟩, by rw [cc]; cases c <;> simp, hi2⟩⟩
  item := fun i p μ τ s Q E ⟨a1, a2, ⟨a, b, a3⟩, a4, a5, a6, a7⟩ hp B S kk k => by
    obtain ⟨vs1, q1, r1, ne1⟩ := src_vals a6 S kk.1 n1
    obtain ⟨vs2, q2, r2, ne2⟩ := src_vals a7 S kk.2 n2
    rw [hc1] at q1
    rw [hc2] at q2
    obtain ⟨x, y, hx, hy, rfl⟩ : ∃ x y, ps1[i]? = some x ∧ ps2[i]? = some y ∧ p = .tup [x, y] := by
      unfold zipPV at hp
      rw [List.getElem?_zipWith] at hp
      cases h1 : ps1[i]? with
      | none => rw [h1] at hp; cases hp
      | some x =>
        cases h2 : ps2[i]? with
        | none => rw [h1, h2] at hp; cases hp
        | some y => rw [h1, h2] at hp; cases hp; exact ⟨x, y, rfl, rfl, rfl⟩
    obtain ⟨u, hu, ru⟩ := r1.get hx
    obtain ⟨v, hv, rv⟩ := r2.get hy
    have hT : s.TypeIs (.ref z) "zip" := ⟨_, a1, rfl⟩
    have ok : ∀ x ∈ [z, TO, i1, i2], OwnAt hb s.heap x := fun x m => by
      simp only [List.mem_cons, List.not_mem_nil, or_false] at m
      rcases m with rfl | rfl | rfl | rfl
      · exact ⟨_, a1, .inl ⟨⟨_, rfl⟩, by simp, hz⟩⟩
      · exact ⟨_, a3, .inr ⟨hTO, rfl, _, _, rfl⟩⟩
      · obtain ⟨o, e, cc, d⟩ := a4
        exact ⟨o, e, .inl ⟨⟨_, d⟩, by rw [cc]; cases c <;> simp, hi1⟩⟩
      · obtain ⟨o, e, cc, d⟩ := a5
        exact ⟨o, e, .inl ⟨⟨_, d⟩, by rw [cc]; cases c <;> simp, hi2⟩⟩
    unfold pyNext
    refine wpAny_bind (wpAny_attempt (wpAny_callSpecial?_slot (name := Str.ofString "__next__") hT F.slot_zip_next
      (wpAny_call_entry F.slot_zip_next hT F.entry_zip_next
        (zip_next hh D a1 a2 a3 a4 a5 q1 q2 (fun x' y' h' ex ey b1 b2 b3 b4 b5 f => wpAny_pure ?_) fun h' e sh _ _ => ?stop) (F.args_zip_next_1 _))))
    case stop =>
      rw [List.getElem?_toArray, List.getElem?_toArray, hu, hv] at sh
      rcases sh with q | q <;> cases q
    replace f : Fra [z, TO, i1, i2] s.heap h' := f
    rw [List.getElem?_toArray] at ex ey
    cases hu.symm.trans ex
    cases hv.symm.trans ey
    have fr : ∀ L q t, Rep hb L μ s.heap q t → Rep hb L μ h' q t := fun L q t => Rep.mono (f.frz ok) (List.prefix_refl _) q t
    have nm : s.heap.objs.size ∉ hb.hid := B.fresh (fresh_size _)
    refine k _ h' s.toks (fun L => ?_) f (fun x m => ?_) fun s₁ Q' E' hs₁ q => ?_
    · simp only [Rep, RepL]
      exact ⟨_, [u, v], rfl, nm, ⟨_, b5, rfl, _, rfl⟩, u, [v], rfl, fr _ _ _ (ru.noL (noEllL_get ne1 hx)), v, [], rfl, fr _ _ _ (rv.noL (noEllL_get ne2 hy)), rfl⟩
    · simp only [List.mem_cons, List.not_mem_nil, or_false] at m
      rcases m with rfl | rfl | rfl | rfl
      · exact ⟨_, b1, .inl ⟨⟨_, rfl⟩, by simp, hz⟩⟩
      · exact ⟨_, b2, .inr ⟨hTO, rfl, _, _, rfl⟩⟩
      · obtain ⟨o, e, cc, d⟩ := b3
        exact ⟨o, e, .inl ⟨⟨_, d⟩, by rw [cc]; cases c <;> simp, hi1⟩⟩
      · obtain ⟨o, e, cc, d⟩ := b4
        exact ⟨o, e, .inl ⟨⟨_, d⟩, by rw [cc]; cases c <;> simp, hi2⟩⟩
    · subst hs₁
      refine wpAny_letOwnedTupleGo_zip b1 fun h₂ hz₂ sb => q h₂ ?_ fun x o n e => sb.extBut x o (fun t => n (by simp [t])) e
      have kp : ∀ x o, x ≠ z → x ≠ TO → x ≠ i1 → x ≠ i2 → s.heap.get? x = some o → h₂.get? x = some o := fun x o n1 n2 n3 n4 e => sb.extBut x o n1 (f x o (by simp [n1, n2, n3, n4]) e)
      have zfr : ∀ q t, Rep hb 0 μ s₁.heap q t → Rep hb 0 μ h₂ q t := fun q t => Rep.mono (fun x o e fz => sb.extBut x o (by
        rintro rfl
        exact (OwnAt.not_frz (hb := hb) (L := 0) ⟨_, b1, .inl ⟨⟨_, rfl⟩, by simp, hz⟩⟩ e) fz) e) (List.prefix_refl _) q t
      exact ⟨hz₂, kp _ _ D.TIz D.TITO D.TIi1 D.TIi2 a2, ⟨_, _, sb.extBut _ _ D.TOz b2⟩, b3.but sb.extBut D.i1z, b4.but sb.extBut D.i2z, zfr _ _ (fr _ _ _ a6), zfr _ _ (fr _ _ _ a7)⟩
  done := fun μ τ s Q E ⟨a1, a2, ⟨a, b, a3⟩, a4, a5, a6, a7⟩ B S kk k => by
    obtain ⟨vs1, q1, r1, ne1⟩ := src_vals a6 S kk.1 n1
    obtain ⟨vs2, q2, r2, ne2⟩ := src_vals a7 S kk.2 n2
    rw [hc1] at q1
    rw [hc2] at q2
    have hT : s.TypeIs (.ref z) "zip" := ⟨_, a1, rfl⟩
    have hl : (zipPV ps1 ps2).length = min vs1.length vs2.length := by rw [r1.length, r2.length]; unfold zipPV; rw [List.length_zipWith]
    have hend : vs1.toArray[(zipPV ps1 ps2).length]? = none ∨ vs2.toArray[(zipPV ps1 ps2).length]? = none := by
      rw [hl]
      rcases Nat.le_total vs1.length vs2.length with h | h
      · exact .inl (by simp; omega)
      · exact .inr (by simp; omega)
    unfold pyNext
    refine wpAny_bind (wpAny_attempt (wpAny_callSpecial?_slot (name := Str.ofString "__next__") hT F.slot_zip_next
      (wpAny_call_entry F.slot_zip_next hT F.entry_zip_next (zip_next hh D a1 a2 a3 a4 a5 q1 q2 (fun x' y' h' ex ey _ _ _ _ _ _ => ?_) fun h' e _ f he => ?_) (F.args_zip_next_1 _))))
    · rw [ex, ey] at hend
      rcases hend with q | q <;> cases q
    obtain ⟨o, ho, hcl⟩ := he
    refine wpAny_bind (wpAny_isInstance (T := "StopIteration") (b := true) ⟨o, ho, hcl⟩ isSubtype_stop ?_)
    exact wpAny_pure (k h' s.toks f)
  self := fun i μ s Q E ⟨a1, _⟩ q => wpAny_pyIter_zip a1 q
end
end Mine
namespace Mine

noncomputable def Started (w : World) (A : Around) (hb : Bs) (env : Env) (m : Str → Option Value) (ρ : List (Str × PV)) (target : Expr) (s : Shared) (μ : List Addr) (X : List Addr → List PV → (St → Prop) → St → Prop) (it : Value) (s₂ : Shared) : Prop :=
  ∃ I H ow S ps K μ₁ τ₁, it = .ref I ∧ Src w A (hb.hide H) target ps K I ow S ∧ (∀ a ∈ ow, s.heap.get? a = none) ∧ (∀ a ∈ ow, hb.hp.get? a = none) ∧ (∀ a ∈ ow, a ∉ hb.hid) ∧ Inv (hb.hide H) env m μ₁ ρ τ₁ s₂.heap ∧
    Stp hb μ s.heap μ₁ τ₁ s₂.heap ∧ Same s s₂ ∧ S 0 μ₁ s₂.heap ∧ X H ps K τ₁
noncomputable def Starts (w : World) (hb : Bs) (n : Nat) (sc : Scope) (iter target : Expr) (ρ : List (Str × PV)) (τ : St) (X : List Addr → List PV → (St → Prop) → St → Prop) : Prop :=
  HB w hb → ∀ (A : Around) (env : Env) (m : Str → Option Value) (μ : List Addr) (s : Shared), AOk n A → EnvOk env sc → Inv hb env m μ ρ τ s.heap →
    wpAny (model PR w) A (eval iter env) (fun x s₁ => wpAny (model PR w) A (pyIter x) (Started w A hb env m ρ target s μ X) NoE s₁) NoE s

section
variable {w : World} {hb : Bs} {n : Nat} {sc : Scope} {ρ : List (Str × PV)} {τ : St} {Q : PV → St → Prop} {C : Co}

theorem Stp.noneOf {μ μ' : List Addr} {τ' : St} {h h' : Heap} {a : Addr} (T : Stp hb μ h μ' τ' h') (e : h'.get? a = none) : h.get? a = none := by
  cases e' : h.get? a with
  | none => rfl
  | some o =>
    by_cases hm : a ∈ μ
    · obtain ⟨o', q, _⟩ := T.store.mem_list (T.pre.subset hm)
      rw [e] at q; cases q
    · have := T.ext _ _ e' hm
      rw [e] at this; cases this
theorem none_ge {h : Heap} {a : Addr} (l : h.objs.size ≤ a) : h.get? a = none := by
  cases e : h.get? a with
  | none => rfl
  | some o => exact absurd (Heap.lt_size e) (Nat.not_lt.mpr l)
theorem Base.noneOf {h : Heap} {a : Addr} (B : Base hb h) (e : h.get? a = none) : hb.hp.get? a = none := by
  cases e' : hb.hp.get? a with
  | none => rfl
  | some o => rw [B.up _ _ e'] at e; cases e

theorem Starts_R {iter target : Expr} {X : List Addr → List PV → (St → Prop) → St → Prop} (ht : plainTarget target = true)
    (h : EV w hb n sc iter ρ τ fun p τ₁ => ∃ a b, p = .rng a b 1 ∧ -(2 ^ 62) ≤ a ∧ a < 2 ^ 62 ∧ -(2 ^ 62) ≤ b ∧ b < 2 ^ 62 ∧ X [] (rngFrom a 1 (b - a).toNat) (fun _ => True) τ₁) : Starts w hb n sc iter target ρ τ X := by
  intro H A env m μ s hA hE hI
  refine h.bind1 H hA hE hI fun v s₁ μ₁ τ₁ p T₁ e₁ I₁ r q => ?_
  obtain ⟨a, b, rfl, ha1, ha2, hb1, hb2, hF⟩ := q
  simp only [Rep] at r
  obtain ⟨rr, t, u, z, rfl, hr⟩ := r
  refine wpAny_pyIter_range hr (small_one ha1 ha2 hb1 hb2) ?_
  have hsz : Builtin.Range.rangeSize a b 1 = ((b - a).toNat : Int) := by rw [rangeSize_one]; split <;> omega
  have T₂ : Stp hb μ₁ s₁.heap μ₁ τ₁ (s₁.heap.push { cls := .type "range_iterator", data := .fields #[rawInt a, rawInt (Builtin.Range.rangeSize a b 1), rawInt 1] }) := Stp.grow I₁.store fun x o e => Heap.get?_push_of_some _ e
  refine ⟨s₁.heap.objs.size, [], [s₁.heap.objs.size], _, _, _, μ₁, τ₁, rfl, src_range (hb := hb) hA.hd target ht s₁.heap.objs.size (I₁.base.fresh (fresh_size _)) a (b - a).toNat, ?_, ?_, ?_, I₁.step T₂, T₁.trans T₂, e₁, ⟨Nat.zero_le _, ?_⟩, hF⟩
  · intro x m
    rw [List.mem_singleton.mp m]
    exact T₁.noneOf (fresh_size _)
  · intro x m
    rw [List.mem_singleton.mp m]
    exact I₁.base.noneOf (fresh_size _)
  · intro x m
    rw [List.mem_singleton.mp m]
    exact I₁.base.fresh (fresh_size _)
  · have := Heap.get?_push_size s₁.heap (o := { cls := .type "range_iterator", data := .fields #[rawInt a, rawInt (Builtin.Range.rangeSize a b 1), rawInt 1] }) rfl
    rw [hsz] at this
    simp only [Int.natCast_zero, Int.add_zero, Int.sub_zero]
    rw [hsz]
    exact this

theorem Starts_L {iter target : Expr} {X : List Addr → List PV → (St → Prop) → St → Prop} (ht : plainTarget target = true)
    (h : EV w hb n sc iter ρ τ fun p τ₁ => ∃ j ps, p = .adr j ∧ τ₁[j]? = some ps ∧ X [] ps (fun τ => τ[j]? = some ps) τ₁) : Starts w hb n sc iter target ρ τ X := by
  intro H A env m μ s hA hE hI
  refine h.bind1 H hA hE hI fun v s₁ μ₁ τ₁ p T₁ e₁ I₁ r q => ?_
  obtain ⟨j, ps, rfl, hj, hF⟩ := q
  obtain ⟨a, vs, k, rfl, ha, e, rs, hL⟩ := list_at I₁.store r hj
  refine wpAny_pyIter_list hL ?_
  have T₂ : Stp hb μ₁ s₁.heap μ₁ τ₁ (s₁.heap.push { cls := .type "list_iterator", data := .fields #[.ref a, .int 0 0] }) := Stp.grow I₁.store fun x o e => Heap.get?_push_of_some _ e
  refine ⟨s₁.heap.objs.size, [], [s₁.heap.objs.size], _, _, _, μ₁, τ₁, rfl, src_list (hb := hb) hA.hd target ht s₁.heap.objs.size a j (I₁.base.fresh (fresh_size _)) ps, ?_, ?_, ?_, I₁.step T₂, T₁.trans T₂, e₁, ⟨⟨_, Heap.get?_push_size _ rfl, rfl, rfl⟩, ha⟩, hF⟩
  · intro x m
    rw [List.mem_singleton.mp m]
    exact T₁.noneOf (fresh_size _)
  · intro x m
    rw [List.mem_singleton.mp m]
    exact I₁.base.noneOf (fresh_size _)
  · intro x m
    rw [List.mem_singleton.mp m]
    exact I₁.base.fresh (fresh_size _)

theorem wp_CallT {f : Str} {p pos : Pos} {e₀ : Expr} {rest : List Expr} {T : String} {A : Around} {env : Env} {m : Str → Option Value} {μ : List Addr} {s : Shared} {R : Value → Shared → Prop} {Q : List PV → St → Prop}
    (H : HB w hb) (hA : AOk n A) (hE : EnvOk env sc) (hI : Inv hb env m μ ρ τ s.heap) (hx : sc.names.lookup f = some .globalImplicit) (e : nsIn (KK w) mainGlobals f = some none) (hv : bootBuiltins f = some (.type T)) (hn : f ≠ "__name__")
    (hs : noStar (e₀ :: rest) = true) (h : EVs w hb n sc (e₀ :: rest) ρ τ Q)
    (k : ∀ vs s₁ μ₁ τ₁ ps, Stp hb μ s.heap μ₁ τ₁ s₁.heap → Same s s₁ → Inv hb env m μ₁ ρ τ₁ s₁.heap → RepL hb env.locals μ₁ s₁.heap ps vs → Q ps τ₁ → wpAny (model PR w) A (call (.type T) vs) R NoE s₁) : wpAny (model PR w) A (eval (.Call (.Name f p) (e₀ :: rest) [] pos) env) R NoE s := by
  refine wpAny_Call_NameR (wp_builtin H hE hI hx e hv hn ?_)
  refine PySem.callWith_type (backTo_plain hs) ?_
  have main := h H A env m μ s pos hA hE hI
  simp only [noStar, Bool.and_eq_true, Bool.not_eq_true'] at hs
  rw [starEach_cons hs.1] at main ⊢
  refine evalArgs_plain (wpAny_mono main (fun vs s₁ hp => ?_) fun _ _ x => x)
  obtain ⟨μ₁, τ₁, ps, T, rs, e₁, q⟩ := hp
  exact k vs s₁ μ₁ τ₁ ps T e₁ (hI.step T) rs q

theorem Starts_Z {e1 e2 : Expr} {elts : List Expr} {kx : Nat} {tp p pos : Pos} {X : List Addr → List PV → (St → Prop) → St → Prop} (hx : sc.names.lookup ("zip" : Str) = some .globalImplicit) (e : nsIn (KK w) mainGlobals "zip" = some none)
    (hs : noStar [e1, e2] = true)
    (h : EVs w hb n sc [e1, e2] ρ τ fun l τ₁ => ∃ p1 p2 ps1 ps2, l = [p1, p2] ∧ kdOf p1 = kdOf p2 ∧ noEll p1 = true ∧ noEll p2 = true ∧ itemsOf τ₁ p1 = some ps1 ∧ itemsOf τ₁ p2 = some ps2 ∧
      ∀ H, X H (zipPV ps1 ps2) (fun τ => itemsOf τ p1 = some ps1 ∧ itemsOf τ p2 = some ps2) τ₁) : Starts w hb n sc (.Call (.Name "zip" p) [e1, e2] [] pos) (.Tuple elts kx tp) ρ τ X := by
  intro H A env m μ s hA hE hI
  refine wp_CallT (T := "zip") H hA hE hI hx e (by kernel_rfl) (by decide +kernel) hs h fun vs s₁ μ₁ τ₁ l T₁ e₁ I₁ rs q => ?_
  obtain ⟨p1, p2, ps1, ps2, rfl, hk, n1, n2, it1, it2, hX⟩ := q
  simp only [RepL] at rs
  obtain ⟨v1, _, rfl, r1, v2, _, rfl, r2, rfl⟩ := rs
  have ref : ∀ q v ps, Rep hb env.locals μ₁ s₁.heap q v → itemsOf τ₁ q = some ps → ∃ a, v = .ref a := fun q v ps r i => by
    cases q <;> simp only [itemsOf] at i <;> try (cases i; done)
    · simp only [Rep] at r
      obtain ⟨a, _, e, _⟩ := r
      exact ⟨a, e⟩
    · simp only [Rep] at r
      obtain ⟨a, _, e⟩ := r
      exact ⟨a, e⟩
  obtain ⟨l1, rfl⟩ := ref _ _ _ r1 it1
  obtain ⟨l2, rfl⟩ := ref _ _ _ r2 it2
  obtain ⟨vs1, q1, w1, ne1⟩ := src_vals (r1.noL n1) I₁.store it1 n1
  obtain ⟨vs2, q2, w2, ne2⟩ := src_vals (r2.noL n2) I₁.store it2 n2
  rw [hk] at q1
  have lt1 : l1 < s₁.heap.objs.size := let ⟨_, e, _⟩ := q1; Heap.lt_size e
  have lt2 : l2 < s₁.heap.objs.size := let ⟨_, e, _⟩ := q2; Heap.lt_size e
  refine zip_call q1 q2 fun h' ⟨hz, hTI, hTO, hi1, hi2, kp⟩ => ?_
  refine wpAny_pyIter_zip hz ?_
  have T₂ : Stp hb μ₁ s₁.heap μ₁ τ₁ h' := Stp.grow I₁.store kp
  have nge : ∀ a, s₁.heap.objs.size ≤ a → s₁.heap.get? a = none := fun a l => none_ge l
  have memge : ∀ a ∈ [s₁.heap.objs.size + 4, s₁.heap.objs.size + 3, s₁.heap.objs.size, s₁.heap.objs.size + 1], s₁.heap.objs.size ≤ a := fun a m => by
    simp only [List.mem_cons, List.not_mem_nil, or_false] at m
    rcases m with rfl | rfl | rfl | rfl
    · exact Nat.le_add_right _ _
    · exact Nat.le_add_right _ _
    · exact Nat.le_refl _
    · exact Nat.le_add_right _ _
  have nh : ∀ k, k ≠ 3 → s₁.heap.objs.size + k ∉ (hb.hide [s₁.heap.objs.size + 3]).hid := fun k hk m => by
    rcases List.mem_append.mp m with m | m
    · have z := List.mem_singleton.mp m
      exact hk (Nat.add_left_cancel z)
    · exact I₁.base.fresh (nge _ (Nat.le_add_right _ _)) m
  have hH : ∀ a ∈ [s₁.heap.objs.size + 3], s₁.heap.get? a = none := fun a m => by rw [List.mem_singleton.mp m]; exact nge _ (Nat.le_add_right _ _)
  have fr : ∀ q t, Rep hb env.locals μ₁ s₁.heap q t → noEll q = true → Rep (hb.hide [s₁.heap.objs.size + 3]) 0 μ₁ h' q t := fun q t r ne =>
    Rep.mono (fun a o e _ => kp a o e) (List.prefix_refl _) _ _ ((Rep.hide hH _ _ r).noL ne)
  refine ⟨s₁.heap.objs.size + 4, [s₁.heap.objs.size + 3], [s₁.heap.objs.size + 4, s₁.heap.objs.size + 3, s₁.heap.objs.size, s₁.heap.objs.size + 1], _, _, _, μ₁, τ₁, rfl,
    src_zip (hb := hb.hide [s₁.heap.objs.size + 3]) hA.hd (ktu_apart _ _ _ lt1 lt2) p1 p2 (kdOf p2) hk rfl n1 n2 ps1 ps2 (nh 4 (by decide)) (by simp [Bs.hide]) (nh 0 (by decide)) (nh 1 (by decide)),
    fun a m => T₁.noneOf (nge a (memge a m)), fun a m => I₁.base.noneOf (nge a (memge a m)), fun a m => I₁.base.fresh (nge a (memge a m)), I₁.hide hH kp ?_, T₁.trans T₂, e₁, ⟨hz, hTI, ⟨_, _, hTO⟩, hi1, hi2, fr _ _ r1 n1, fr _ _ r2 n2⟩, hX _⟩
  intro a m
  rw [List.mem_singleton.mp m]
  exact ⟨_, hTO, rfl, _, _, rfl⟩

theorem EX_For {target iter : Expr} {body : List Stmt} {pos : Pos} (ht : targetOk sc target = true) (hs : ∀ (env : Env) x, foldedSetIterable iter env x = pure x)
    (h : Starts w hb n sc iter target ρ τ fun H ps K τ₁ => ForI w (hb.hide H) n sc target body K ps ρ τ₁ C) : EX w hb n sc (.For target iter body [] pos) ρ τ C := by
  intro H A env m μ s hA hE hI
  refine wpAny_For (wpAny_mono (h H A env m μ s hA hE hI) (fun x s₁ h₁ => wpAny_mono h₁ (fun it s₂ h₂ => ?_) fun _ _ e => e) fun _ _ e => e) (hs env)
  obtain ⟨I, Hd, ow, S, ps, K, μ₁, τ₁, rfl, W, fr, fb, fh, I₂, T₂, e₂, S₂, hF⟩ := h₂
  exact for_core H hA hE W ht fr fb fh I₂ T₂.toS e₂ S₂ hF
end
end Mine
namespace Mine

section
variable {w : World} {hb : Bs} {n : Nat} {sc : Scope} {ρ : List (Str × PV)} {τ : St} {Q : PV → St → Prop} {C : Co} {env : Env}

noncomputable def Loc (sc : Scope) (x : Str) : Bool := sc.names.lookup x == some .local
noncomputable def OnlyL (L : Addr) (h h' : Heap) : Prop := ∀ a o, h.get? a = some o → a ≠ L → h'.get? a = some o
theorem OnlyL.trans {L : Addr} {h h₁ h₂ : Heap} (x : OnlyL L h h₁) (y : OnlyL L h₁ h₂) : OnlyL L h h₂ := fun a o e n => y a o (x a o e n) n

theorem store_local {x : Str} {p : PV} {v : Value} {A : Around} {m : Str → Option Value} {μ : List Addr} {s : Shared} {R : Unit → Shared → Prop} (hE : EnvOk env sc) (hI : Inv hb env m μ ρ τ s.heap)
    (hl : Loc sc x = true) (r : Rep hb env.locals μ s.heap p v)
    (k : ∀ m' s', Inv hb env m' μ ((x, p) :: ρ) τ s'.heap → OnlyL env.locals s.heap s'.heap → Same s s' → (∀ q u, Rep hb env.locals μ s.heap q u → Rep hb env.locals μ s'.heap q u) → R () s') : wpAny (model PR w) A (storeName env x v) R NoE s := by
  have hl : sc.names.lookup x = some .local := eq_of_beq hl
  have hkf : env.scope.kind = .function := by rw [hE.scope]; exact hE.kind
  have hkind : env.kindOf x = sc.names.lookup x := by show env.scope.names.lookup x = _; rw [hE.scope]
  obtain ⟨oL, esL, epL, hoL, hdL, hrL⟩ := id hI.ns
  have lk : ∀ {y : Str} {q : PV}, ((x, p) :: ρ).lookup y = some q → (y = x ∧ q = p) ∨ (y ≠ x ∧ ρ.lookup y = some q) := by
    intro y q e
    rw [List.lookup_cons] at e
    by_cases hy : y = x
    · subst hy; simp at e; exact .inl ⟨rfl, e.symm⟩
    · rw [beq_false_of_ne hy] at e; exact .inr ⟨hy, e⟩
  refine wpAny_storeName_local (hkind.trans hl) hI.ns (fun h' hn hs => ?_) (by rw [hkf]; rfl)
  have kk : ∀ a o, s.heap.get? a = some o → a ≠ env.locals → h'.get? a = some o := fun a o e ne => (hs.2 a ne).trans e
  have nL : ∀ a o, s.heap.get? a = some o → (∀ es j, o.data ≠ .dict es j) → a ≠ env.locals := fun a o e nd q => by subst q; rw [hoL] at e; cases e; exact nd _ _ hdL
  have frz : ∀ a o, s.heap.get? a = some o → Frz hb.hid env.locals a o → h'.get? a = some o := by
    intro a o e f
    refine kk a o e ?_
    rcases f with (⟨_, ⟨_, _, d⟩, _⟩ | ⟨_, _, d⟩) | ⟨_, d⟩ | ⟨_, _, f⟩
    · exact nL a o e (by rw [d]; intro _ _ q; cases q)
    · exact nL a o e (by rw [d]; intro _ _ q; cases q)
    · exact nL a o e (by rw [d]; intro _ _ q; cases q)
    · exact f
  have cellk : ∀ c v, s.heap.IsCell c v → h'.IsCell c v := fun c v ⟨o, e, d⟩ => ⟨o, kk c o e (nL c o e (by rw [d]; intro _ _ q; cases q)), d⟩
  have st : StoreOk hb μ τ h' := hI.store.keep (fun a o e f => frz a o e (.inl f)) fun a o e m => kk a o e (nL a o e (by
    obtain ⟨o', e', _, vs, j, d⟩ := hI.store.mem_list m
    rw [e] at e'; cases e'; rw [d]; intro _ _ q; cases q))
  have rp : ∀ q u, Rep hb env.locals μ s.heap q u → Rep hb env.locals μ h' q u := fun q u => Rep.mono frz (List.prefix_refl _) q u
  refine k _ _ ⟨⟨fun b o e => kk b o (hI.base.up b o e) (fun q => by rw [q, hI.freshL] at e; cases e), fun a ha => let ⟨o, e, c, d⟩ := hI.base.hid a ha; ⟨o, kk a o e (nL a o e (by obtain ⟨_, _, d⟩ := d; rw [d]; intro _ _ q; cases q)), c, d⟩, hI.base.new⟩, hn,
    fun y c' mm => let ⟨v₀, q⟩ := hI.cells y c' mm; ⟨v₀, cellk _ _ q⟩, hI.apart, hI.freshL, hI.freshC, fun y q e => ?_, st⟩ kk ⟨rfl, rfl, rfl⟩ rp
  rcases lk e with ⟨rfl, rfl⟩ | ⟨hy, e⟩
  · exact ⟨v, .inl ⟨hkind.trans hl, by simp⟩, rp _ _ r⟩
  · obtain ⟨u, hu, ru⟩ := hI.vars y q e
    refine ⟨u, ?_, rp _ _ ru⟩
    rcases hu with ⟨h1, h2⟩ | ⟨h1, c', h2, h3⟩
    · exact .inl ⟨h1, by simp only [if_neg hy]; exact h2⟩
    · exact .inr ⟨h1, c', h2, cellk _ _ h3⟩

theorem store_locals (hE : EnvOk env sc) {A : Around} : ∀ (ts : List (Value → Sem Unit)) (xs : List Str) (ps : List PV) (vs : List Value) (ρ : List (Str × PV)) (m : Str → Option Value) (μ : List Addr) (s : Shared) (R : Unit → Shared → Prop),
    All2 (TS w env) ts xs → (∀ x ∈ xs, Loc sc x = true) → xs.length = ps.length → Inv hb env m μ ρ τ s.heap → RepL hb env.locals μ s.heap ps vs →
    (∀ m' s', Inv hb env m' μ (binds xs ps ρ) τ s'.heap → OnlyL env.locals s.heap s'.heap → Same s s' → R () s') → wpAny (model PR w) A (assignInOrder ts vs) R NoE s
  | [], [], [], vs, ρ, m, μ, s, R, _, _, _, I, r, k => by
    simp only [RepL] at r
    subst r
    exact wpAny_pure (k m s I (fun _ _ e _ => e) (Same.refl s))
  | t :: ts, x :: xs, p :: ps, vs, ρ, m, μ, s, R, ht, hx, hl, I, r, k => by
    simp only [RepL] at r
    obtain ⟨v, u, rfl, rv, ru⟩ := r
    cases ht with
    | cons t0 ht =>
      refine wpAny_assignInOrder_more (t0 v A _ s (store_local hE I (hx x (.head _)) rv fun m' s' I' T' e' rp => ?_))
      have rpl : ∀ (ps : List PV) (vs : List Value), RepL hb env.locals μ s.heap ps vs → RepL hb env.locals μ s'.heap ps vs := by
        intro ps
        induction ps with
        | nil => intro vs r; simp only [RepL] at r ⊢; exact r
        | cons p ps ih =>
          intro vs r
          simp only [RepL] at r ⊢
          obtain ⟨v, t, e, a, b⟩ := r
          exact ⟨v, t, e, rp _ _ a, ih _ b⟩
      refine store_locals hE ts xs ps u ((x, p) :: ρ) m' μ s' R ht (fun y hy => hx y (.tail _ hy)) (by simpa using hl) I' (rpl _ _ ru) fun m'' s'' I'' T'' e'' => ?_
      exact k m'' s'' I'' (T'.trans T'') (e'.trans e'')
  | [], [], _ :: _, _, _, _, _, _, _, _, _, hl, _, _, _ => by simp at hl
  | _ :: _, _ :: _, [], _, _, _, _, _, _, _, _, hl, _, _, _ => by simp at hl
  | [], _ :: _, _, _, _, _, _, _, _, ht, _, _, _, _, _ => nomatch ht
  | _ :: _, [], _, _, _, _, _, _, _, ht, _, _, _, _, _ => nomatch ht

noncomputable def targetLoc (sc : Scope) : Expr → Bool
  | .Name x _ => Loc sc x
  | .Tuple es _ _ => match namesOf es with
    | some xs => xs.all (Loc sc)
    | none => false
  | _ => false
theorem targetLoc.plain {t : Expr} (h : targetLoc sc t = true) : plainTarget t = true := by
  cases t <;> first | rfl | (simp [targetLoc] at h)

theorem assign_locals {target : Expr} {p : PV} {ρ' : List (Str × PV)} {v : Value} {A : Around} {m : Str → Option Value} {μ : List Addr} {s : Shared} {R : Unit → Shared → Prop} (hA : AOk n A) (hE : EnvOk env sc) (hI : Inv hb env m μ ρ τ s.heap)
    (ht : targetLoc sc target = true) (hb' : bindT target p ρ = some ρ') (r : Rep hb env.locals μ s.heap p v)
    (k : ∀ m' s', Inv hb env m' μ ρ' τ s'.heap → OnlyL env.locals s.heap s'.heap → Same s s' → R () s') : wpAny (model PR w) A (assign target env v) R NoE s := by
  unfold bindT at hb'
  split at hb'
  · cases hb'
    exact PyProof.Rows.assign_Name (store_local hE hI ht r fun m' s' a b c _ => k m' s' a b c)
  · split at hb'
    · rename_i es _ _ ps _ xs hn
      split at hb'
      · rename_i hl
        cases hb'
        simp only [targetLoc, hn] at ht
        simp only [Rep] at r
        obtain ⟨t, vs, rfl, _, htup, rs⟩ := r
        obtain ⟨ts, l1, l2⟩ := namesOf_TS (w := w) (env := env) hn
        refine wpAny_assign_Tuple hA.hd htup (by rw [l1, List.size_toArray, rs.length, hl]) l2 fun h' he => ?_
        have kp : ∀ a o, s.heap.get? a = some o → h'.get? a = some o := fun b o e => he b o (Nat.ne_of_lt (Heap.lt_size e)) e
        have T : Stp hb μ s.heap μ τ h' := Stp.grow hI.store kp
        have I₂ := hI.step T
        refine store_locals (s := { s with heap := h' }) hE _ xs ps vs ρ m μ _ ts (fun x hm => List.all_eq_true.mp ht x hm) hl I₂ (rs.step hI.store T) fun m' s' I' T' e' => ?_
        exact k m' s' I' (fun a o e ne => T' a o (kp a o e) ne) e'
      · cases hb'
    · cases hb'
  · cases hb'

noncomputable def relabelS (scope sc : Scope) : Scope :=
  { scope with names := scope.names.map fun (n, k) => if (k == .free && sc.kind == .function && sc.names.lookup n == some .cell) then (n, .cell) else (n, k) }
noncomputable def closL (cells : List (Str × Addr)) : List (Str × NameKind) → List (Str × Addr) → List (Str × Addr)
  | [], acc => acc
  | (x, k) :: r, acc => if k == .free then closL cells r ((x, (cells.lookup x).getD 0) :: acc) else closL cells r acc
theorem closL_mem {cells : List (Str × Addr)} : ∀ {l : List (Str × NameKind)} {acc : List (Str × Addr)} {x : Str} {c : Addr}, (x, c) ∈ closL cells l acc → (x, c) ∈ acc ∨ ((x, .free) ∈ l ∧ c = (cells.lookup x).getD 0)
  | [], acc, x, c, h => .inl h
  | (y, k) :: r, acc, x, c, h => by
    unfold closL at h
    split at h
    · rename_i hk
      have hk : k = .free := eq_of_beq hk
      subst hk
      rcases closL_mem h with q | ⟨q, e⟩
      · rcases List.mem_cons.mp q with q | q
        · cases q; exact .inr ⟨.head _, rfl⟩
        · exact .inl q
      · exact .inr ⟨.tail _ q, e⟩
    · rcases closL_mem h with q | ⟨q, e⟩
      · exact .inl q
      · exact .inr ⟨.tail _ q, e⟩
theorem closL_has {cells : List (Str × Addr)} : ∀ {l : List (Str × NameKind)} {acc : List (Str × Addr)} {x : Str}, (x, .free) ∈ l → ∃ c, (x, c) ∈ closL cells l acc := by
  have old : ∀ {l : List (Str × NameKind)} {acc : List (Str × Addr)} {y : Str × Addr}, y ∈ acc → y ∈ closL cells l acc := by
    intro l
    induction l with
    | nil => intro acc y h; exact h
    | cons z r ih =>
      intro acc y h
      obtain ⟨z, k⟩ := z
      unfold closL
      split
      · exact ih (List.mem_cons_of_mem _ h)
      · exact ih h
  intro l
  induction l with
  | nil => intro acc x h; cases h
  | cons z r ih =>
    intro acc x h
    obtain ⟨z, k⟩ := z
    unfold closL
    rcases List.mem_cons.mp h with e | h
    · cases e
      simp only [beq_self_eq_true, if_true]
      exact ⟨_, old (.head _)⟩
    · split
      · exact ih h
      · exact ih h
theorem closL_names {cells cells' : List (Str × Addr)} : ∀ {l : List (Str × NameKind)} {acc acc' : List (Str × Addr)}, acc.map (·.1) = acc'.map (·.1) → (closL cells l acc).map (·.1) = (closL cells' l acc').map (·.1)
  | [], _, _, h => h
  | (x, k) :: r, acc, acc', h => by
    unfold closL
    split
    · exact closL_names (by simp [h])
    · exact closL_names h
theorem closureFor_eq {scope : Scope} (h : ∀ x, (x, NameKind.free) ∈ scope.names → ∃ c, env.cells.lookup x = some c) : closureFor scope env = pure (closL env.cells scope.names []) := by
  have main : ∀ (l : List (Str × NameKind)) (acc : List (Str × Addr)), (∀ x, (x, NameKind.free) ∈ l → ∃ c, env.cells.lookup x = some c) →
      (forIn l acc fun (x : Str × NameKind) (r : List (Str × Addr)) => if (x.2 == NameKind.free) = true then do let a ← cellOf env x.1; pure (ForInStep.yield ((x.1, a) :: r)) else pure (ForInStep.yield r) : Sem (List (Str × Addr))) = pure (closL env.cells l acc) := by
    intro l
    induction l with
    | nil => intro acc _; rfl
    | cons z r ih =>
      intro acc hh
      obtain ⟨z, k⟩ := z
      rw [List.forIn_cons]
      unfold closL
      by_cases hk : (k == NameKind.free) = true
      · simp only [hk, if_true]
        have hk' : k = .free := eq_of_beq hk
        subst hk'
        obtain ⟨c, hc⟩ := hh z (.head _)
        have e : cellOf env z = pure c := by unfold cellOf; rw [hc]
        rw [e, hc]
        exact ih _ fun x m => hh x (.tail _ m)
      · simp only [hk, Bool.false_eq_true, if_false]
        exact ih _ fun x m => hh x (.tail _ m)
  unfold closureFor
  have := main scope.names [] h
  simp only at this ⊢
  rw [show (forIn scope.names ([] : List (Str × Addr)) fun (x : Str × NameKind) (r : List (Str × Addr)) => _) = _ from this]
  rfl
end
end Mine
namespace Mine

section
variable {w : World} {hb : Bs} {n : Nat} {sc : Scope} {ρ : List (Str × PV)} {τ : St} {C : Co} {env : Env}

noncomputable def few : List Expr → Bool
  | [] => true
  | [_] => true
  | _ => false
noncomputable def Tests (w : World) (A : Around) (env : Env) (ifs : List Expr) (P : Bool → Shared → Prop) (s : Shared) : Prop :=
  match ifs with
  | [] => P true s
  | [c] => wpAny (model PR w) A (isTrue c env (eval c env)) P NoE s
  | _ => False
theorem comp_turns {A : Around} {elt target iter : Expr} {ifs : List Expr} {scope : Scope} {pos : Pos} {it acc : Value} {env : Env} {R : Result → Shared → Prop} (hf : few ifs = true) (I : Nat → Shared → Prop)
    (turn : ∀ n s, I n s → wpAny (model PR w) A (pyNext it) (fun r s₁ => match r with
      | none => R (.ok .next) s₁
      | some v => wpAny (model PR w) A (letOwnedTupleGo target it v) (fun _ s₀ => wpAny (model PR w) A (assign target env v) (fun _ s₂ => Tests w A env ifs (fun ok s₃ =>
          if ok = true then wpAny (model PR w) A (eval elt env) (fun x s₄ => wpAny (model PR w) A (call (.builtin "list.append") [acc, x]) (fun _ s₅ => ∃ m, m < n ∧ I m s₅) NoE s₄) NoE s₃
          else ∃ m, m < n ∧ I m s₃) s₂) NoE s₀) NoE s₁) NoE s)
    (n : Nat) (s : Shared) (h : I n s) : codeAny (model PR w) A (.compLoop (.ListComp elt [⟨target, iter, ifs, 0⟩] scope pos) 0 it acc env) R s := by
  have item : ∀ {n s₃}, wpAny (model PR w) A (eval elt env) (fun x s₄ => wpAny (model PR w) A (call (.builtin "list.append") [acc, x]) (fun _ s₅ => ∃ m, m < n ∧ I m s₅) NoE s₄) NoE s₃ →
      wpAny (model PR w) A (eval elt env) (fun x s₄ => wpAny (model PR w) A (call (.builtin "list.append") [acc, x]) (fun _ s₅ => ∃ m, m < n ∧ I m s₅) (notedBy (model PR w) A env fun e s' => R (.error e) s') s₄) (notedBy (model PR w) A env fun e s' => R (.error e) s') s₃ :=
    fun a => wpAny_mono a (fun _ _ b => wpAny_mono b (fun _ _ c => c) noted) noted
  match ifs, hf with
  | [], _ => exact kcp_loop I (fun n s i => wpAny_mono (turn n s i) (fun r s₁ a => by
      cases r with
      | none => exact a
      | some v => exact wpAny_mono a (fun _ _ b => wpAny_mono b (fun _ _ c => item (by simpa only [Tests, if_true] using c)) noted) noted) noted) n h
  | [c], _ => exact kct_loop I (fun n s i => wpAny_mono (turn n s i) (fun r s₁ a => by
      cases r with
      | none => exact a
      | some v =>
        exact wpAny_mono a (fun _ _ b => wpAny_mono b (fun _ _ c => wpAny_mono c (fun ok _ d => by
          cases ok with
          | false => exact d
          | true => exact item d) noted) noted) noted) noted) n h

noncomputable def ETs (w : World) (hb : Bs) (n : Nat) (sc : Scope) (ifs : List Expr) (ρ : List (Str × PV)) (τ : St) (Q : Bool → St → Prop) : Prop :=
  match ifs with
  | [] => Q true τ
  | [c] => ET w hb n sc c ρ τ Q
  | _ => False
noncomputable def CompI (w : World) (hb : Bs) (n : Nat) (sc : Scope) (target : Expr) (ifs : List Expr) (elt : Expr) (K : St → Prop) : List PV → List PV → List (Str × PV) → St → (List PV → St → Prop) → Prop
  | [], ys, _, τ, Q => K τ ∧ Q ys τ
  | p :: ps, ys, ρ, τ, Q => K τ ∧ ∃ ρ₁, bindT target p ρ = some ρ₁ ∧ ETs w hb n sc ifs ρ₁ τ fun b τ₁ =>
      (b = true → EV w hb n sc elt ρ₁ τ₁ fun y τ₂ => noEll y = true ∧ CompI w hb n sc target ifs elt K ps (ys ++ [y]) ρ₁ τ₂ Q) ∧ (b = false → CompI w hb n sc target ifs elt K ps ys ρ₁ τ₁ Q)

theorem ETs.run {A : Around} {ifs : List Expr} {m : Str → Option Value} {μ : List Addr} {s : Shared} {Q : Bool → St → Prop} {P : Bool → Shared → Prop} (h : ETs w hb n sc ifs ρ τ Q) (H : HB w hb) (hA : AOk n A) (hE : EnvOk env sc) (hI : Inv hb env m μ ρ τ s.heap)
    (k : ∀ b s', PostB hb s μ Q b s' → P b s') : Tests w A env ifs P s := by
  match ifs, h with
  | [], h => exact k _ _ ⟨μ, τ, Stp.refl hI.store, Same.refl s, h⟩
  | [c], h => exact wpAny_mono (h H A env m μ s hA hE hI) k fun _ _ x => x

theorem Stp.adopt {μ μ' : List Addr} {τ' : St} {h h' : Heap} {L D k : Addr} {ys : List PV} {vs : List Value} (T : Stp hb μ h μ' τ' h') (hD : h'.get? D = some (listOf (List.toArray vs) k)) (r : RepL hb L μ' h' ys vs) (ne : noEllL ys = true)
    (nm : D ∉ μ') (n0 : h.get? D = none) (nb : hb.hp.get? D = none) : Stp hb μ h (μ' ++ [D]) (τ' ++ [ys]) h' where
  ext := T.ext
  pre := T.pre.trans (List.prefix_append _ _)
  fresh a m := (List.mem_append.mp m).elim (T.fresh a) fun m => .inr (by rw [List.mem_singleton.mp m]; exact n0)
  store := by
    refine ⟨by simp [T.store.len], ?_, ?_, ?_⟩
    · rw [List.nodup_append]
      refine ⟨T.store.nd, by simp, ?_⟩
      intro x hx y hy e
      rw [List.mem_singleton.mp hy] at e
      exact nm (e ▸ hx)
    · intro i b l' e1 e2
      by_cases hi : i < μ'.length
      · rw [List.getElem?_append_left hi] at e1
        rw [List.getElem?_append_left (T.store.len ▸ hi)] at e2
        obtain ⟨vs', n', g, r', q⟩ := T.store.at_ i b l' e1 e2
        exact ⟨vs', n', g, RepL.mono (fun a o e _ => e) (List.prefix_append _ _) _ _ r', q⟩
      · have hi2 : i = μ'.length := by
          have := (List.getElem?_eq_some_iff.mp e1).1
          simp at this; omega
        subst hi2
        rw [List.getElem?_append_right (Nat.le_refl _)] at e1
        rw [List.getElem?_append_right (by rw [T.store.len]; exact Nat.le_refl _)] at e2
        simp at e1
        simp [T.store.len] at e2
        subst e1; subst e2
        exact ⟨vs, k, hD, RepL.noL ne (RepL.mono (fun a o e _ => e) (List.prefix_append _ _) _ _ r), ne⟩
    · intro b m
      rcases List.mem_append.mp m with q | q
      · exact T.store.base b q
      · rw [List.mem_singleton.mp q]; exact nb

theorem StoreOk.dict {μ : List Addr} {h h' : Heap} {L : Addr} {m : Str → Option Value} (S : StoreOk hb μ τ h) (hn : h.Ns L m) (k : OnlyL L h h') : StoreOk hb μ τ h' := by
  obtain ⟨oL, es, ep, hoL, hdL, _⟩ := hn
  refine S.keep (fun a o e f => k a o e ?_) fun a o e mm => k a o e ?_
  · rintro rfl
    rw [hoL] at e; cases e
    rcases f with ⟨_, ⟨_, _, d⟩, _⟩ | ⟨_, _, d⟩ <;> (rw [hdL] at d; cases d)
  · rintro rfl
    obtain ⟨o', e', _, vs, j, d⟩ := S.mem_list mm
    rw [hoL] at e'; cases e'; rw [hdL] at d; cases d
theorem Stp.only {μ μ' : List Addr} {τ' : St} {h h₁ h₂ : Heap} {L : Addr} (T : Stp hb μ h μ' τ' h₁) (k : OnlyL L h₁ h₂) (n0 : h.get? L = none) (S : StoreOk hb μ' τ' h₂) : Stp hb μ h μ' τ' h₂ :=
  ⟨fun a o e m => k a o (T.ext a o e m) (by rintro rfl; rw [n0] at e; cases e), T.pre, T.fresh, S⟩

theorem Inv.offList {m : Str → Option Value} {μ : List Addr} {h h' : Heap} {D k : Addr} {vs : Array Value} (I : Inv hb env m μ ρ τ h) (e : h.get? D = some (listOf vs k)) (s : Heap.SameBut D h h') (nm : D ∉ μ) (nb : hb.hp.get? D = none) : Inv hb env m μ ρ τ h' := by
  have kk : ∀ a o, h.get? a = some o → a ≠ D → h'.get? a = some o := fun a o e n => s.extBut a o n e
  have fz : ∀ a o, h.get? a = some o → Frz hb.hid env.locals a o → h'.get? a = some o := fun a o e' f => kk a o e' (by
    rintro rfl
    rw [e] at e'; cases e'
    exact f.not_list ⟨rfl, _, _, rfl⟩)
  refine ⟨⟨fun b o q => kk _ _ (I.base.up b o q) (by rintro rfl; rw [nb] at q; cases q), fun a q => let ⟨o, g, c, d⟩ := I.base.hid a q; ⟨o, kk _ _ g (by rintro rfl; rw [e] at g; cases g; simp at c), c, d⟩, I.base.new⟩, ?_, ?_, I.apart, I.freshL, I.freshC, ?_,
    I.store.keep (fun a o e f => fz a o e (.inl f)) fun a o e mm => kk a o e (by rintro rfl; exact nm mm)⟩
  · obtain ⟨o, es, ep, ho, hd, r⟩ := I.ns
    exact ⟨o, es, ep, kk _ _ ho (by intro q; rw [q, e] at ho; cases ho; cases hd), hd, r⟩
  · intro x c mm
    obtain ⟨v, o, g, d⟩ := I.cells x c mm
    exact ⟨v, o, kk _ _ g (by rintro rfl; rw [e] at g; cases g; cases d), d⟩
  · intro x p q
    obtain ⟨v, hv, r⟩ := I.vars x p q
    refine ⟨v, ?_, Rep.mono fz (List.prefix_refl _) _ _ r⟩
    rcases hv with q | ⟨q, c, hc, o, g, d⟩
    · exact .inl q
    · exact .inr ⟨q, c, hc, o, kk _ _ g (by rintro rfl; rw [e] at g; cases g; cases d), d⟩

theorem own_notlist {ow : List Addr} {h : Heap} {D k : Addr} {vs : Array Value} (ok : ∀ a ∈ ow, OwnAt hb h a) (e : h.get? D = some (listOf vs k)) : D ∉ ow := fun m => by
  obtain ⟨o, g, z⟩ := ok D m
  rw [e] at g; cases g
  rcases z with ⟨⟨_, d⟩, _⟩ | ⟨_, c, _⟩
  · cases d
  · simp at c

theorem comp_loop {A : Around} {elt target iter : Expr} {ifs : List Expr} {scope : Scope} {pos : Pos} {ps : List PV} {K : St → Prop} {I D : Addr} {ow H : List Addr} {S : Nat → List Addr → Heap → Prop} {m : Str → Option Value} {μ μ₁ : List Addr} {s s₂ : Shared} {k0 : Nat}
    {Q : List PV → St → Prop} {R : Result → Shared → Prop}
    (hHB : HB w hb) (hA : AOk n A) (hE : EnvOk env sc) (hf : few ifs = true) (W : Src w A (hb.hide H) target ps K I ow S) (ht : targetLoc sc target = true) (hlen : ps.length ≤ 1000)
    (fr : ∀ a ∈ ow, s.heap.get? a = none) (fb : ∀ a ∈ ow, hb.hp.get? a = none)
    (I₂ : Inv (hb.hide H) env m μ₁ ρ τ s₂.heap) (T₂ : Stp hb μ s.heap μ₁ τ s₂.heap) (e₂ : Same s s₂) (S₂ : S 0 μ₁ s₂.heap) (nL : s.heap.get? env.locals = none)
    (hD : s₂.heap.get? D = some (listOf #[] k0)) (nD : s.heap.get? D = none) (nbD : hb.hp.get? D = none) (nmD : D ∉ μ₁)
    (hF : CompI w (hb.hide H) n sc target ifs elt K ps [] ρ τ Q)
    (hR : ∀ s' m' μ' τ' ys, s'.heap.Ns env.locals m' → Stp hb μ s.heap (μ' ++ [D]) (τ' ++ [ys]) s'.heap → (μ' ++ [D])[τ'.length]? = some D → Same s s' → Q ys τ' → R (.ok .next) s') :
    codeAny (model PR w) A (.compLoop (.ListComp elt [⟨target, iter, ifs, 0⟩] scope pos) 0 (.ref I) (.ref D) env) R s₂ := by
  refine comp_turns hf (fun k s' => ∃ m' μ' ρ' τ' i ys vs kk, i + k = ps.length ∧ Inv (hb.hide H) env m' μ' ρ' τ' s'.heap ∧ Stp hb μ s.heap μ' τ' s'.heap ∧ Same s s' ∧ S i μ' s'.heap ∧ CompI w (hb.hide H) n sc target ifs elt K (ps.drop i) ys ρ' τ' Q ∧
    s'.heap.get? D = some (listOf (List.toArray vs) kk) ∧ RepL (hb.hide H) env.locals μ' s'.heap ys vs ∧ noEllL ys = true ∧ ys.length ≤ i ∧ D ∉ μ') ?_ ps.length s₂
    ⟨m, μ₁, ρ, τ, 0, [], [], k0, Nat.zero_add _, I₂, T₂, e₂, S₂, by simpa using hF, hD, RepL.nil, rfl, Nat.le_refl _, nmD⟩
  rintro k s' ⟨m', μ', ρ', τ', i, ys, vs, kk, hk, I', T', e', S', hF', hD', rs, ne, hyi, nm⟩
  have HH : HB w (hb.hide H) := ⟨hHB.kin, hHB.top⟩
  have ok := W.ok _ _ _ S'
  have nDow := own_notlist ok hD'
  cases hp : ps[i]? with
  | none =>
    have hi : i = ps.length := by have := List.getElem?_eq_none_iff.mp hp; omega
    subst hi
    rw [List.drop_length] at hF'
    refine W.done μ' τ' s' _ _ S' I'.base I'.store hF'.1 fun h₁ tk f => ?_
    have st : StoreOk (hb.hide H) μ' τ' h₁ := I'.store.fra f ok
    have T₁ : Stp hb μ s.heap μ' τ' h₁ := T'.fra f fr st.weak
    obtain ⟨o, es, ep, ho, hd, r⟩ := I'.ns
    have hn : h₁.Ns env.locals m' := ⟨o, es, ep, f _ _ (fun q => by rcases (ok _ q).ne_data ho with ⟨_, d⟩ | ⟨_, _, d⟩ <;> (rw [hd] at d; cases d)) ho, hd, r⟩
    refine hR _ m' μ' τ' ys hn (T₁.adopt (f _ _ nDow hD') (RepL.weak _ _ (RepL.mono (f.frz ok) (List.prefix_refl _) _ _ rs)) ne nm nD nbD) ?_ (e'.trans ⟨rfl, rfl, rfl⟩) hF'.2
    rw [← st.len]; simp
  | some p =>
    have hi := (List.getElem?_eq_some_iff.mp hp).1
    have hd : ps.drop i = p :: ps.drop (i + 1) := by
      rw [List.drop_eq_getElem_cons hi, (List.getElem?_eq_some_iff.mp hp).2]
    rw [hd] at hF'
    obtain ⟨hK, ρ₁, hbind, htest⟩ := hF'
    refine W.item i p μ' τ' s' _ _ S' hp I'.base I'.store hK fun v h₁ tk rv f ok₁ go => ?_
    have I₁ : Inv (hb.hide H) env m' μ' ρ' τ' h₁ := I'.own f ok (I'.base.fra f fb ok₁)
    have D₁ := f _ _ nDow hD'
    have rs₁ := RepL.mono (f.frz ok) (List.prefix_refl _) _ _ rs
    refine go _ _ _ rfl fun h₂ S'' f₂ => ?_
    have ok₂ := W.ok _ _ _ S''
    have I₂ : Inv (hb.hide H) env m' μ' ρ' τ' h₂ := I₁.own f₂ ok₁ (I₁.base.fra f₂ fb ok₂)
    have D₂ := f₂ _ _ (own_notlist ok₁ D₁) D₁
    have rs₂ := RepL.mono (f₂.frz ok₁) (List.prefix_refl _) _ _ rs₁
    have T₂' : Stp hb μ s.heap μ' τ' h₂ := (T'.fra f fr I₁.store.weak).fra f₂ fr I₂.store.weak
    refine assign_locals (s := { s' with heap := h₂, toks := tk }) hA hE I₂ ht hbind (Rep.mono (f₂.frz ok₁) (List.prefix_refl _) _ _ (rv env.locals)) fun m₃ s₃ I₃ o₃ e₃ => ?_
    obtain ⟨oL, esL, epL, hoL, hdL, _⟩ := I₂.ns
    have fz₃ : ∀ a o, h₂.get? a = some o → FrzN (hb.hide H).hid a o → s₃.heap.get? a = some o := fun a o e z => o₃ a o e (by
      rintro rfl
      have e : h₂.get? env.locals = some o := e
      rw [hoL] at e; cases e
      rcases z with ⟨_, ⟨_, _, d⟩, _⟩ | ⟨_, _, d⟩ <;> (rw [hdL] at d; cases d))
    have stf₃ : ∀ a o, h₂.get? a = some o → Stiff o → s₃.heap.get? a = some o := fun a o e z => o₃ a o e (by
      rintro rfl
      have e : h₂.get? env.locals = some o := e
      rw [hoL] at e; cases e
      rcases z with ⟨_, d⟩ | ⟨_, _, _, d⟩ <;> (rw [hdL] at d; cases d))
    have D₃ : s₃.heap.get? D = _ := o₃ D _ D₂ (by rintro rfl; have D₂ : h₂.get? env.locals = _ := D₂; rw [hoL] at D₂; cases D₂; cases hdL)
    have rs₃ : RepL (hb.hide H) env.locals μ' s₃.heap ys vs := RepL.monoN fz₃ (List.prefix_refl _) _ _ ne rs₂
    have T₃ : Stp hb μ s.heap μ' τ' s₃.heap := T₂'.only o₃ nL I₃.store.weak
    have S₃ := W.mov _ _ _ _ _ S'' (List.prefix_refl _) stf₃
    have e₀₃ : Same s s₃ := (e'.trans (⟨rfl, rfl, rfl⟩ : Same s' { s' with heap := h₂, toks := tk })).trans e₃
    refine htest.run HH hA hE I₃ fun b s₄ hq => ?_
    obtain ⟨μ₄, τ₄, T₄, e₄, hb4⟩ := hq
    have I₄ := I₃.step T₄
    have D₄ := T₄.ext _ _ D₃ nm
    have nm₄ : D ∉ μ₄ := fun q => (T₄.fresh D q).elim nm fun z => by rw [D₃] at z; cases z
    have rs₄ := rs₃.step I₃.store T₄
    have S₄ := W.mov _ _ _ _ _ S₃ T₄.pre (Stp.stiff I₃.store T₄)
    cases b with
    | false =>
      simp only [Bool.false_eq_true, if_false]
      exact ⟨k - 1, by omega, m₃, μ₄, ρ₁, τ₄, i + 1, ys, vs, kk, by omega, I₄, T₃.trans T₄.weak, e₀₃.trans e₄, S₄, hb4.2 rfl, D₄, rs₄, ne, by omega, nm₄⟩
    | true =>
      simp only [if_true]
      refine (hb4.1 rfl).bind1 HH hA hE I₄ fun y s₅ μ₅ τ₅ py T₅ e₅ I₅ ry q => ?_
      have D₅ := T₅.ext _ _ D₄ nm₄
      have nm₅ : D ∉ μ₅ := fun q => (T₅.fresh D q).elim nm₄ fun z => by rw [D₄] at z; cases z
      have rs₅ := rs₄.step I₄.store T₅
      have S₅ := W.mov _ _ _ _ _ S₄ T₅.pre (Stp.stiff I₄.store T₅)
      refine append_at D₅ (fun h₆ sb hD₆ => ?_) (by rw [List.size_toArray, rs₅.length, sizeLine_eq]; omega)
      have I₆ : Inv (hb.hide H) env m₃ μ₅ ρ₁ τ₅ h₆ := I₅.offList D₅ sb nm₅ nbD
      have fz₆ : ∀ a o, s₅.heap.get? a = some o → FrzN (hb.hide H).hid a o → h₆.get? a = some o := fun a o e z => sb.extBut a o (by
        rintro rfl
        rw [D₅] at e; cases e
        exact Frz.not_list (L := 0) (.inl z) ⟨rfl, _, _, rfl⟩) e
      refine ⟨k - 1, by omega, m₃, μ₅, ρ₁, τ₅, i + 1, ys ++ [py], vs ++ [y], kk + 1, by omega, I₆, ?_, (e₀₃.trans e₄).trans (e₅.trans ⟨rfl, rfl, rfl⟩), ?_, q.2, ?_, ?_, ?_, by simp; omega, nm₅⟩
      · have T₀₅ : Stp hb μ s.heap μ₅ τ₅ s₅.heap := (T₃.trans T₄.weak).trans T₅.weak
        exact ⟨fun a o e mm => sb.extBut a o (by rintro rfl; rw [nD] at e; cases e) (T₀₅.ext a o e mm), T₀₅.pre, T₀₅.fresh, I₆.store.weak⟩
      · refine W.mov _ _ _ _ _ S₅ (List.prefix_refl _) fun a o e z => sb.extBut a o (by
          rintro rfl
          rw [D₅] at e; cases e
          rcases z with ⟨_, d⟩ | ⟨c, _⟩
          · cases d
          · simp at c) e
      · rw [hD₆]; simp
      · exact RepL.append (RepL.monoN fz₆ (List.prefix_refl _) _ _ ne rs₅) (RepL.single (Rep.monoN fz₆ (List.prefix_refl _) _ _ q.1 ry))
      · exact noEllL_append ne (by simp [noEllL, q.1])
end
end Mine
namespace Mine

noncomputable def compOk (scope sc : Scope) : Bool :=
  scope.names.all (fun y => y.2 != .cell) && scope.names.all (fun y => y.2 != .local || scope.names.lookup y.1 == some .local) && scope.names.all (fun y => y.2 != .free || sc.names.lookup y.1 == some .cell) &&
  decide (((closL [] scope.names []).map (·.1)).Nodup) && (scope.names.lookup ("__debug__" : Str)).isNone

section
variable {w : World} {hb : Bs} {n : Nat} {sc scope : Scope} {ρ : List (Str × PV)} {τ : St} {C : Co} {env : Env}

structure CompOk (scope sc : Scope) : Prop where
  nocell : ∀ y ∈ scope.names, y.2 ≠ .cell
  names : ∀ y ∈ scope.names, y.2 = .local → scope.names.lookup y.1 = some .local
  free : ∀ x, (x, NameKind.free) ∈ scope.names → sc.names.lookup x = some .cell
  nd : ((closL [] scope.names []).map (·.1)).Nodup
  dbg : scope.names.lookup ("__debug__" : Str) = none
theorem compOk.to (h : compOk scope sc = true) : CompOk scope sc := by
  unfold compOk at h
  simp only [Bool.and_eq_true, List.all_eq_true, decide_eq_true_eq, Option.isNone_iff_eq_none] at h
  obtain ⟨⟨⟨⟨h1, h2⟩, h3⟩, h4⟩, h5⟩ := h
  refine ⟨fun y m => ne_of_beq_false (by simpa using h1 y m), fun y m e => ?_, fun x m => ?_, h4, h5⟩
  · rcases Bool.or_eq_true_iff.mp (h2 y m) with q | q
    · rw [e] at q; exact absurd q (by decide)
    · exact eq_of_beq q
  · rcases Bool.or_eq_true_iff.mp (h3 _ m) with q | q
    · have q : (NameKind.free != NameKind.free) = true := q
      exact absurd q (by decide)
    · exact eq_of_beq q

theorem relabel_lookup_free {x : Str} (hk : sc.kind = .function) (hc : sc.names.lookup x = some .cell) : ∀ {names : List (Str × NameKind)}, names.lookup x = some .free →
    (names.map fun (n, k) => if (k == NameKind.free && sc.kind == .function && sc.names.lookup n == some .cell) then (n, NameKind.cell) else (n, k)).lookup x = some .cell
  | [], h => by simp at h
  | (n, k) :: r, h => by
    have ih := relabel_lookup_free hk hc (names := r)
    show List.lookup x ((if (k == NameKind.free && sc.kind == .function && sc.names.lookup n == some .cell) = true then (n, NameKind.cell) else (n, k)) :: _) = _
    cases hx : x == n with
    | true =>
      simp only [List.lookup_cons, hx] at h
      cases h
      have : x = n := eq_of_beq hx
      subst this
      simp [List.lookup_cons, hk, hc]
    | false =>
      simp only [List.lookup_cons, hx] at h
      split
      · simp only [List.lookup_cons, hx]; exact ih h
      · simp only [List.lookup_cons, hx]; exact ih h
theorem relabel_lookup_cell {x : Str} : ∀ {names : List (Str × NameKind)}, (∀ y ∈ names, y.2 ≠ .cell) →
    (names.map fun (n, k) => if (k == NameKind.free && sc.kind == .function && sc.names.lookup n == some .cell) then (n, NameKind.cell) else (n, k)).lookup x = some .cell → (x, NameKind.free) ∈ names
  | [], _, h => by simp at h
  | (n, k) :: r, hn, h => by
    have ih := relabel_lookup_cell (x := x) (names := r) (fun y m => hn y (.tail _ m))
    have h : List.lookup x ((if (k == NameKind.free && sc.kind == .function && sc.names.lookup n == some .cell) = true then (n, NameKind.cell) else (n, k)) :: _) = _ := h
    cases hx : x == n with
    | true =>
      have : x = n := eq_of_beq hx
      subst this
      split at h
      · rename_i hk
        simp only [Bool.and_eq_true] at hk
        have : k = .free := eq_of_beq hk.1.1
        subst this
        exact .head _
      · simp only [List.lookup_cons, hx] at h
        cases h
        exact absurd rfl (hn _ (.head _))
    | false =>
      split at h
      · simp only [List.lookup_cons, hx] at h; exact .tail _ (ih h)
      · simp only [List.lookup_cons, hx] at h; exact .tail _ (ih h)
theorem relabel_none {x : Str} : ∀ {names : List (Str × NameKind)}, names.lookup x = none →
    (names.map fun (n, k) => if (k == NameKind.free && sc.kind == .function && sc.names.lookup n == some .cell) then (n, NameKind.cell) else (n, k)).lookup x = none
  | [], _ => rfl
  | (n, k) :: r, h => by
    have ih := relabel_none (x := x) (names := r)
    show List.lookup x ((if (k == NameKind.free && sc.kind == .function && sc.names.lookup n == some .cell) = true then (n, NameKind.cell) else (n, k)) :: _) = _
    cases hx : x == n with
    | true => simp only [List.lookup_cons, hx] at h; cases h
    | false =>
      simp only [List.lookup_cons, hx] at h
      split
      · simp only [List.lookup_cons, hx]; exact ih h
      · simp only [List.lookup_cons, hx]; exact ih h

noncomputable def freeOf (scope : Scope) (ρ : List (Str × PV)) : List (Str × PV) := ρ.filter fun q => scope.names.lookup q.1 == some .free
theorem freeOf_lookup {x : Str} {p : PV} : ∀ {ρ : List (Str × PV)}, (freeOf scope ρ).lookup x = some p → ρ.lookup x = some p ∧ scope.names.lookup x = some .free
  | [], h => by simp [freeOf] at h
  | (y, q) :: r, h => by
    unfold freeOf at h
    rw [List.filter_cons] at h
    by_cases hx : x = y
    · subst hx
      split at h
      · rename_i hc
        simp at h
        subst h
        exact ⟨by simp, eq_of_beq hc⟩
      · rename_i hc
        have := (freeOf_lookup (ρ := r) h).2
        exact absurd (by rw [this]; rfl) hc
    · have hb : (x == y) = false := beq_false_of_ne hx
      have ih : (freeOf scope r).lookup x = some p := by
        split at h
        · rw [List.lookup_cons, hb] at h; exact h
        · exact h
      have := freeOf_lookup ih
      exact ⟨by rw [List.lookup_cons, hb]; exact this.1, this.2⟩

theorem pw_cells {cells : List (Str × Addr)} (hp : cells.Pairwise fun x y => x.2 ≠ y.2) : ∀ {cl : List (Str × Addr)}, (cl.map (·.1)).Nodup → (∀ p ∈ cl, p ∈ cells) → cl.Pairwise fun x y => x.2 ≠ y.2
  | [], _, _ => .nil
  | (x, c) :: r, nd, sub => by
    simp only [List.map_cons, List.nodup_cons] at nd
    refine .cons (fun (y, d) m e => ?_) (pw_cells hp nd.2 fun p m => sub p (.tail _ m))
    have e : c = d := e
    subst e
    have := name_of_addr hp (sub _ (.head _)) (sub _ (.tail _ m))
    subst this
    exact nd.1 (List.mem_map_of_mem (f := (·.1)) m)

theorem relabel_eq (hE : EnvOk env sc) : relabel scope env = relabelS scope sc := by
  have := hE.scope
  subst this
  rfl

theorem comp_block {A : Around} {elt target iter : Expr} {ifs : List Expr} {pos : Pos} {s s₂ : Shared} {m : Str → Option Value} {μ : List Addr} {it : Value} {Q : List PV → St → Prop} {RR : Value → Addr → Result → Shared → Prop}
    (hHB : HB w hb) (hA : AOk n A) (hE : EnvOk env sc) (hf : few ifs = true) (hc : CompOk scope sc) (hk : scope.kind = .function) (ht : targetLoc (relabelS scope sc) target = true) (hI : ∃ o, s.heap.get? env.locals = some o)
    (st : Started w A hb env m ρ target s μ (fun H ps K τ₁ => ps.length ≤ 1000 ∧ CompI w (hb.hide H) n (relabelS scope sc) target ifs elt K ps [] (freeOf scope ρ) τ₁ Q) it s₂)
    (hRR : ∀ C D s' m' μ' τ' ys, s'.heap.Ns C m' → s.heap.get? C = none → hb.hp.get? C = none → C ≠ env.locals → (∀ x c, (x, c) ∈ env.cells → C ≠ c) → Stp hb μ s.heap (μ' ++ [D]) (τ' ++ [ys]) s'.heap → (μ' ++ [D])[τ'.length]? = some D → Same s s' → Q ys τ' → RR (.ref D) C (.ok .next) s') :
    wpAny (model PR w) A (newList []) (fun acc s₃ => wpAny (model PR w) A (newFunctionEnv scope env.globals (closL env.cells scope.names []) [] env.qual none .none (some env)) (fun cenv s₄ =>
      codeAny (model PR w) A (.compStart (.ListComp elt [⟨target, iter, ifs, 0⟩] scope pos) 0 it acc { cenv with scope := relabel scope env }) (RR acc cenv.locals) s₄) NoE s₃) NoE s₂ := by
  obtain ⟨I, H, ow, S, ps, K, μ₁, τ₁, rfl, W, fr, fb, fh, I₂, T₂, e₂, S₂, hlen, hF⟩ := st
  refine wpAny_newObj_type (wpAny_newFunctionEnv hc.nocell (fun _ m => nomatch m) (fun h₁ hns₁ but => ?_) hk)
  simp only [Heap.size_push] at hns₁ but ⊢
  have ltC : ∀ b o, s₂.heap.get? b = some o → b ≠ s₂.heap.objs.size + 1 := fun b o e => Nat.ne_of_lt (Nat.lt_succ_of_lt (Heap.lt_size e))
  have old : ∀ b o, s₂.heap.get? b = some o → h₁.get? b = some o := fun b o e => but.extBut b o (ltC b o e) (Heap.get?_push_of_some _ (Heap.get?_push_of_some _ e))
  have hacc : h₁.get? s₂.heap.objs.size = some (PySem.W.listOf #[] 0) := but.extBut _ _ (Nat.ne_of_lt (Nat.lt_succ_self _)) (Heap.get?_push_of_some _ (Heap.get?_push_size _ rfl))
  have noC : s₂.heap.get? (s₂.heap.objs.size + 1) = none := none_ge (Nat.le_succ _)
  have noD : s₂.heap.get? s₂.heap.objs.size = none := fresh_size _
  have B₂ : Base hb s₂.heap := I₂.base.weak
  have memc : ∀ p ∈ closL env.cells scope.names [], p ∈ env.cells := fun (x, c) m => by
    rcases closL_mem m with q | ⟨q, e⟩
    · cases q
    · obtain ⟨c', hc'⟩ := hE.cells x (hc.free x q)
      rw [hc'] at e
      simp at e
      subst e
      exact mem_of_lookup hc'
  have ndc : ((closL env.cells scope.names []).map (·.1)).Nodup := by rw [closL_names (cells' := []) (acc' := []) rfl]; exact hc.nd
  have cellsOk : ∀ x, (x, NameKind.free) ∈ scope.names → ∃ c, env.cells.lookup x = some c ∧ (closL env.cells scope.names []).lookup x = some c := fun x m => by
    obtain ⟨c, q⟩ := closL_has (cells := env.cells) (acc := []) m
    obtain ⟨c', hc'⟩ := hE.cells x (hc.free x m)
    rcases closL_mem q with q' | ⟨_, e⟩
    · cases q'
    · rw [hc'] at e
      simp at e
      subst e
      exact ⟨c, hc', lookup_of_mem_nodup ndc q⟩
  have hE' : EnvOk (compEnvC scope (closL env.cells scope.names []) (s₂.heap.objs.size + 1) env) (relabelS scope sc) :=
    ⟨relabel_eq hE, hE.globals, hE.builtins, hk, fun x e => let ⟨c, _, h⟩ := cellsOk x (relabel_lookup_cell hc.nocell e); ⟨c, h⟩, relabel_none hc.dbg⟩
  have hI' : Inv (hb.hide H) (compEnvC scope (closL env.cells scope.names []) (s₂.heap.objs.size + 1) env) _ μ₁ (freeOf scope ρ) τ₁ h₁ := {
    base := I₂.base.grow old
    ns := hns₁
    cells := fun x c m => let ⟨v, o, e, d⟩ := I₂.cells x c (memc _ m); ⟨v, o, old _ _ e, d⟩
    apart := pw_cells I₂.apart ndc memc
    freshL := B₂.noneOf noC
    freshC := fun x c m => I₂.freshC x c (memc _ m)
    vars := fun x p e => by
      obtain ⟨e1, e2⟩ := freeOf_lookup e
      obtain ⟨v, hv, r⟩ := I₂.vars x p e1
      have hm := mem_of_lookup e2
      obtain ⟨c, hc1, hc2⟩ := cellsOk x hm
      have kx : env.kindOf x = some .cell := by show env.scope.names.lookup x = _; rw [hE.scope]; exact hc.free x hm
      refine ⟨v, ?_, Rep.monoL (fun a o e _ => old a o e) (fun a o e _ => ltC a o e) (List.prefix_refl _) _ _ r⟩
      rcases hv with ⟨q, _⟩ | ⟨_, c', hc', o, g, d⟩
      · rw [kx] at q; cases q
      · rw [hc1] at hc'; cases hc'
        exact .inr ⟨.inl (by show (relabel scope env).names.lookup x = _; rw [relabel_eq hE]; exact relabel_lookup_free hE.kind (hc.free x hm) e2), c, hc2, o, old _ _ g, d⟩
    store := I₂.store.grow old }
  have T₁ : Stp hb μ s.heap μ₁ τ₁ h₁ := T₂.trans (Stp.grow T₂.store old)
  have turns : codeAny (model PR w) A (.compLoop (.ListComp elt [⟨target, iter, ifs, 0⟩] scope pos) 0 (.ref I) (.ref s₂.heap.objs.size) (compEnvC scope (closL env.cells scope.names []) (s₂.heap.objs.size + 1) env))
      (RR (.ref s₂.heap.objs.size) (s₂.heap.objs.size + 1)) { s₂ with heap := h₁ } := by
    refine comp_loop (s := s) (D := s₂.heap.objs.size) (Q := Q) hHB hA hE' hf W ht hlen fr fb hI' T₁ (e₂.trans ⟨rfl, rfl, rfl⟩) (W.mov _ _ _ _ _ S₂ (List.prefix_refl _) fun a o e _ => old a o e) (T₂.noneOf noC) hacc (T₂.noneOf noD) (B₂.noneOf noD) ?_ hF ?_
    · intro m
      obtain ⟨o, e, _⟩ := T₂.store.mem_list m
      rw [noD] at e; cases e
    · intro s' m' μ' τ' ys hn T hl e q
      obtain ⟨oL, hoL⟩ := hI
      have I₂L := I₂.hasL
      have I₂C := I₂.hasC
      exact hRR _ _ s' m' μ' τ' ys hn (T₂.noneOf noC) (B₂.noneOf noC) (fun q => by obtain ⟨o, e⟩ := I₂L; rw [← q, noC] at e; cases e) (fun x c m q => by obtain ⟨o, e⟩ := I₂C x c m; rw [← q, noC] at e; cases e) T hl e q
  exact codeAny_compStart_list turns (W.self 0 _ _ _ _ (W.mov _ _ _ _ _ S₂ (List.prefix_refl _) fun a o e _ => old a o e) turns)

theorem SameBut.only {a : Addr} {h h' : Heap} (s : Heap.SameBut a h h') : OnlyL a h h' := fun b o e n => s.extBut b o n e

theorem EV_Comp {elt target iter : Expr} {ifs : List Expr} {pos : Pos} {Q : PV → St → Prop} (hc : (compOk scope sc && few ifs) = true) (hk : scope.kind = .function) (ht : targetLoc (relabelS scope sc) target = true) (hs : ∀ (env : Env) x, foldedSetIterable iter env x = pure x)
    (h : Starts w hb n sc iter target ρ τ fun H ps K τ₁ => ps.length ≤ 1000 ∧ CompI w (hb.hide H) n (relabelS scope sc) target ifs elt K ps [] (freeOf scope ρ) τ₁ fun ys τ₂ => Q (.adr τ₂.length) (τ₂ ++ [ys])) :
    EV w hb n sc (.ListComp elt [⟨target, iter, ifs, 0⟩] scope pos) ρ τ Q := by
  intro H A env m μ s hA hE hI
  obtain ⟨hc, hf⟩ := Bool.and_eq_true_iff.mp hc
  have hc := compOk.to hc
  rw [eval_ListComp]
  refine wpAny_comprehension_free (use := none) rfl (hs env) (closureFor_eq fun x q => hE.cells x (hc.free x q)) hk hc.names (wpAny_mono (h H A env m μ s hA hE hI) (fun x s₁ h₁ => wpAny_mono h₁ (fun it s₂ h₂ => ?_) fun _ _ e => e) fun _ _ e => e)
  refine comp_block (RR := fun acc C => compPost (model PR w) A NoE none (Post hb env.locals s μ Q) acc C) H hA hE hf hc hk ht hI.hasL h₂ ?_
  intro C D s' m' μ' τ' ys hn nC nbC nCL nCc T hl e q
  refine ⟨m', hn, fun h' sb => ?_⟩
  have S' := T.store.dict hn (SameBut.only sb)
  refine ⟨μ' ++ [D], τ' ++ [ys], .adr τ'.length, T.only (SameBut.only sb) nC S', ?_, e, q⟩
  simp only [Rep]
  exact ⟨D, hl, rfl⟩

theorem Inv.bindLocal {x : Str} {p : PV} {v : Value} {m : Str → Option Value} {μ : List Addr} {h h' : Heap} (hE : EnvOk env sc) (hl : Loc sc x = true) (I : Inv hb env m μ ρ τ h) (hn : h'.Ns env.locals fun z => if z = x then some v else m z) (k : OnlyL env.locals h h')
    (r : Rep hb env.locals μ h p v) : Inv hb env (fun z => if z = x then some v else m z) μ ((x, p) :: ρ) τ h' := by
  have hl : sc.names.lookup x = some .local := eq_of_beq hl
  have hkind : env.kindOf x = sc.names.lookup x := by show env.scope.names.lookup x = _; rw [hE.scope]
  obtain ⟨oL, esL, epL, hoL, hdL, hrL⟩ := id I.ns
  have lk : ∀ {y : Str} {q : PV}, ((x, p) :: ρ).lookup y = some q → (y = x ∧ q = p) ∨ (y ≠ x ∧ ρ.lookup y = some q) := by
    intro y q e
    rw [List.lookup_cons] at e
    by_cases hy : y = x
    · subst hy; simp at e; exact .inl ⟨rfl, e.symm⟩
    · rw [beq_false_of_ne hy] at e; exact .inr ⟨hy, e⟩
  have nL : ∀ a o, h.get? a = some o → (∀ es j, o.data ≠ .dict es j) → a ≠ env.locals := fun a o e nd q => by subst q; rw [hoL] at e; cases e; exact nd _ _ hdL
  have frz : ∀ a o, h.get? a = some o → Frz hb.hid env.locals a o → h'.get? a = some o := by
    intro a o e f
    refine k a o e ?_
    rcases f with (⟨_, ⟨_, _, d⟩, _⟩ | ⟨_, _, d⟩) | ⟨_, d⟩ | ⟨_, _, f⟩
    · exact nL a o e (by rw [d]; intro _ _ q; cases q)
    · exact nL a o e (by rw [d]; intro _ _ q; cases q)
    · exact nL a o e (by rw [d]; intro _ _ q; cases q)
    · exact f
  have cellk : ∀ c v, h.IsCell c v → h'.IsCell c v := fun c v ⟨o, e, d⟩ => ⟨o, k c o e (nL c o e (by rw [d]; intro _ _ q; cases q)), d⟩
  have rp : ∀ q u, Rep hb env.locals μ h q u → Rep hb env.locals μ h' q u := fun q u => Rep.mono frz (List.prefix_refl _) q u
  refine ⟨⟨fun b o e => k b o (I.base.up b o e) (fun q => by rw [q, I.freshL] at e; cases e), fun a ha => let ⟨o, e, c, d⟩ := I.base.hid a ha; ⟨o, k a o e (nL a o e (by obtain ⟨_, _, d⟩ := d; rw [d]; intro _ _ q; cases q)), c, d⟩, I.base.new⟩, hn,
    fun y c' mm => let ⟨v₀, q⟩ := I.cells y c' mm; ⟨v₀, cellk _ _ q⟩, I.apart, I.freshL, I.freshC, fun y q e => ?_, I.store.dict I.ns k⟩
  rcases lk e with ⟨rfl, rfl⟩ | ⟨hy, e⟩
  · exact ⟨v, .inl ⟨hkind.trans hl, by simp⟩, rp _ _ r⟩
  · obtain ⟨u, hu, ru⟩ := I.vars y q e
    refine ⟨u, ?_, rp _ _ ru⟩
    rcases hu with ⟨h1, h2⟩ | ⟨h1, c', h2, h3⟩
    · exact .inl ⟨h1, by simp only [if_neg hy]; exact h2⟩
    · exact .inr ⟨h1, c', h2, cellk _ _ h3⟩

theorem EX_AssignComp {x : Str} {px : Pos} {elt target iter : Expr} {ifs : List Expr} {cpos pos : Pos} (hx : Loc sc x = true) (hc : (compOk scope sc && few ifs) = true) (hk : scope.kind = .function) (ht : targetLoc (relabelS scope sc) target = true)
    (hs : ∀ (env : Env) x, foldedSetIterable iter env x = pure x) (hsw : ∀ env : Env, env.scope = sc → swapsWith (.ListComp elt [⟨target, iter, ifs, 0⟩] scope cpos) (some (.Name x px)) pos.line env = pure true)
    (h : Starts w hb n sc iter target ρ τ fun H ps K τ₁ => ps.length ≤ 1000 ∧ CompI w (hb.hide H) n (relabelS scope sc) target ifs elt K ps [] (freeOf scope ρ) τ₁ fun ys τ₂ => C.nx ((x, .adr τ₂.length) :: ρ) (τ₂ ++ [ys])) :
    EX w hb n sc (.Assign [.Name x px] (.ListComp elt [⟨target, iter, ifs, 0⟩] scope cpos) pos) ρ τ C := by
  intro H A env m μ s hA hE hI
  obtain ⟨hc, hf⟩ := Bool.and_eq_true_iff.mp hc
  have hc := compOk.to hc
  rw [exec_Assign_Name_used _ _ _ _ (hsw env hE.scope)]
  refine wpAny_bind (wpAny_standAt (wpAny_bind ?_))
  show wpAny _ A (do let _ ← comprehension (.ListComp elt [⟨target, iter, ifs, 0⟩] scope cpos) scope env _ (newList []) false (eval iter env) (some (assign (.Name x px) env))) _ _ s
  refine wpAny_bind (wpAny_mono (wpAny_comprehension_free (use := some (assign (.Name x px) env)) (Q := fun _ s' => PostS hb env s μ C .next s') rfl (hs env) (closureFor_eq fun x q => hE.cells x (hc.free x q)) hk hc.names
    (wpAny_mono (h H A env m μ s hA hE hI) (fun _ s₁ h₁ => wpAny_mono h₁ (fun it s₂ h₂ => ?_) fun _ _ e => e) fun _ _ e => e)) (fun _ s' hq => wpAny_pure (wpAny_pure hq)) fun _ _ e => e)
  refine comp_block (RR := fun acc C' => compPost (model PR w) A NoE (some (assign (.Name x px) env)) (fun _ s' => PostS hb env s μ C .next s') acc C') H hA hE hf hc hk ht hI.hasL h₂ ?_
  intro Ca D s' m' μ' τ' ys hn nC nbC nCL nCc T hl e q
  have I' : Inv hb env m (μ' ++ [D]) ρ (τ' ++ [ys]) s'.heap := hI.step T
  have hxl : sc.names.lookup x = some .local := eq_of_beq hx
  have hkind : env.kindOf x = some .local := by show env.scope.names.lookup x = _; rw [hE.scope]; exact hxl
  show wpAny _ A (assign (.Name x px) env (.ref D)) _ _ s'
  refine PyProof.Rows.assign_Name (wpAny_storeName_local hkind I'.ns (fun h₂ hn₂ hs₂ => ?_) (by rw [hE.scope, hE.kind]; rfl))
  obtain ⟨oC, esC, epC, hoC, hdC, hrC⟩ := id hn
  refine ⟨m', ⟨oC, esC, epC, hs₂.extBut _ _ nCL hoC, hdC, hrC⟩, fun h' sb => ?_⟩
  obtain ⟨oL, esL, epL, hoL, hdL, hrL⟩ := id I'.ns
  obtain ⟨oN, esN, epN, hoN, hdN, hrN⟩ := id hn₂
  have hN' : h'.get? env.locals = some oN := sb.extBut _ _ (Ne.symm nCL) hoN
  have frN : oL.isFreed = false := by cases oL; simp at hdL; subst hdL; rfl
  have g1 : (h'.update env.locals fun _ => oL).get? env.locals = some oL := Heap.get?_update_self _ hN' frN
  have g2 : Heap.SameBut env.locals h' (h'.update env.locals fun _ => oL) := Heap.SameBut.update ..
  have sbg : Heap.SameBut Ca s'.heap (h'.update env.locals fun _ => oL) := by
    refine ⟨by rw [g2.1, sb.1, hs₂.1], fun b nb => ?_⟩
    by_cases hbL : b = env.locals
    · rw [hbL]; exact g1.trans hoL.symm
    · rw [g2.2 b hbL, sb.2 b nb, hs₂.2 b hbL]
  have Tg : Stp hb μ s.heap (μ' ++ [D]) (τ' ++ [ys]) (h'.update env.locals fun _ => oL) := T.only (SameBut.only sbg) nC (T.store.dict hn (SameBut.only sbg))
  have Ig : Inv hb env m (μ' ++ [D]) ρ (τ' ++ [ys]) (h'.update env.locals fun _ => oL) := hI.step Tg
  have kg : OnlyL env.locals (h'.update env.locals fun _ => oL) h' := fun a o e ne => by rw [g2.2 a ne] at e; exact e
  have In := Ig.bindLocal (x := x) (p := .adr τ'.length) (v := .ref D) hE hx (by exact ⟨oN, esN, epN, hN', hdN, hrN⟩) kg (by simp only [Rep]; exact ⟨D, hl, rfl⟩)
  exact ⟨μ' ++ [D], τ' ++ [ys], ⟨fun a o e mm nl nc => kg a o (Tg.ext a o e mm) nl, Tg.pre, Tg.fresh, In.store⟩, e, _, _, In, q⟩
end
end Mine
namespace Mine

section
variable {w : World} {hb : Bs} {n : Nat} {sc : Scope} {ρ : List (Str × PV)} {τ : St} {Q : PV → St → Prop} {C : Co} {env : Env}

abbrev LO (its : Array Value) (n : Nat) : Obj := PySem.W.listOf its n

theorem Post.mk {L : Addr} {s s' : Shared} {μ μ' : List Addr} {τ' : St} {v : Value} {p : PV} (T : Stp hb μ s.heap μ' τ' s'.heap) (r : Rep hb L μ' s'.heap p v) (e : Same s s') (q : Q p τ') : Post hb L s μ Q v s' := ⟨μ', τ', p, T, r, e, q⟩
theorem Post.grown {L : Addr} {s s' : Shared} {μ : List Addr} {v : Value} {p : PV} (S : StoreOk hb μ τ s.heap) (k : ∀ a o, s.heap.get? a = some o → s'.heap.get? a = some o) (r : Rep hb L μ s'.heap p v) (e : Same s s') (q : Q p τ) : Post hb L s μ Q v s' :=
  ⟨μ, τ, p, Stp.grow S k, r, e, q⟩
theorem Post.turned {L : Addr} {s : Shared} {μ : List Addr} {i a m : Nat} {l l' : List PV} {items : Array Value} {vs' : List Value} {f : Array Value → Array Value} {v : Value} {p : PV} {tk : Nat} (S : StoreOk hb μ τ s.heap) (ei : μ[i]? = some a) (e : s.heap.get? a = some (LO items m))
    (hf : f items = vs'.toArray) (r : RepL hb L μ s.heap l' vs') (ne : noEllL l' = true) (rp : Rep hb L μ s.heap p v) (q : Q p (τ.set i l')) : Post hb L s μ Q v { s with heap := s.heap.update a (Obj.mapSeq f), toks := tk } := by
  have e2 := PySem.IsL.update (show PySem.IsL s.heap a items m from e) f
  rw [hf] at e2
  have sb : Heap.SameBut a s.heap (s.heap.update a (Obj.mapSeq f)) := Heap.SameBut.update ..
  have T : Stp hb μ s.heap μ (τ.set i l') (s.heap.update a (Obj.mapSeq f)) := Stp.set S ei (fun b o nb g => sb.extBut b o nb g) e2 r ne
  exact ⟨μ, _, p, T, Rep.mono (fun b o g z => sb.extBut b o (by rintro rfl; rw [e] at g; cases g; exact z.not_list ⟨rfl, _, _, rfl⟩) g) (List.prefix_refl _) _ _ rp, ⟨rfl, rfl, rfl⟩, q⟩

theorem adr_type {L : Addr} {μ : List Addr} {s : Shared} {i : Nat} {v : Value} (S : StoreOk hb μ τ s.heap) (r : Rep hb L μ s.heap (.adr i) v) : ∃ a, v = .ref a ∧ μ[i]? = some a ∧ s.TypeIs (.ref a) "list" ∧ ∃ vs n, s.heap.get? a = some (LO vs n) := by
  simp only [Rep] at r
  obtain ⟨a, ha, rfl⟩ := r
  obtain ⟨hi, _⟩ := List.getElem?_eq_some_iff.mp ha
  have hi' : i < τ.length := S.len ▸ hi
  obtain ⟨vs, k, g, _⟩ := S.at_ i a (τ[i]'hi') ha (by simp [hi'])
  exact ⟨a, rfl, ha, ⟨_, g, rfl⟩, _, _, g⟩
theorem adr_dict {s : Shared} {a : Addr} {vs : Array Value} {k : Nat} (g : s.heap.get? a = some (LO vs k)) : ∀ b, Value.ref a = .ref b → ∃ ob, s.heap.get? b = some ob ∧ ob.dict = none := fun b e => by cases e; exact ⟨_, g, rfl⟩
theorem sz {vs : List Value} {l : List PV} {L : Addr} {μ : List Addr} {h : Heap} (r : RepL hb L μ h l vs) (hl : l.length ≤ 1000) : vs.toArray.size ≤ sizeLine := by rw [List.size_toArray, r.length, sizeLine_eq]; omega

theorem EV_Append {o e : Expr} {apos pos : Pos} (hbase : ∀ env : Env, attributeBase o "append" env (eval o env) = eval o env) (hline : (apos.endLine == pos.line) = true) (hst : isStar e = false)
    (h : EV w hb n sc o ρ τ fun p τ₁ => ∃ i, p = .adr i ∧ EV w hb n sc e ρ τ₁ fun q τ₂ => ∃ l, τ₂[i]? = some l ∧ l.length ≤ 1000 ∧ noEll q = true ∧ Q .none (τ₂.set i (l ++ [q]))) :
    EV w hb n sc (.Call (.Attribute o "append" apos) [e] [] pos) ρ τ Q := by
  intro H A env m μ s hA hE hI
  refine wpAny_Call_method1_late (hbase env) hline (by rw [starEach_cons hst]; rfl) (h.bind1 H hA hE hI fun v s₁ μ₁ τ₁ p T₁ e₁ I₁ r q₁ => ?_)
  obtain ⟨i, rfl, q₁⟩ := q₁
  obtain ⟨a, rfl, ha, hT, vs, k, g⟩ := adr_type I₁.store r
  refine ⟨"list", "list.append", PySem.F.plainAttrs_list, PySem.F.slot_list_append, PySem.F.type_list_append, hT, adr_dict g, P.append_list (q₁.bind1 H hA hE I₁ fun v₂ s₂ μ₂ τ₂ p₂ T₂ e₂ I₂ r₂ q₂ => ?_)⟩
  obtain ⟨l, hl, hsz, ne, q⟩ := q₂
  have ha₂ := get_pre T₂.pre ha
  obtain ⟨us, j, g₂, rs, nel⟩ := I₂.store.at_ i a l ha₂ hl
  refine ⟨us.toArray, j, sz rs hsz, g₂, ?_⟩
  exact ((Post.turned (p := .none) (l := l) I₂.store ha₂ g₂ (vs' := us ++ [v₂]) (f := fun xs => xs.push v₂) (by simp) (RepL.append (rs.noL nel) (RepL.single r₂)) (noEllL_append nel (by simp [noEllL, ne])) rep_none q).trans T₂ e₂).trans T₁ e₁

theorem listTooLong_of {k : Nat} (h : k ≤ 3000) : Builtin.List.listTooLong k = false := by
  simp [Builtin.List.listTooLong, sizeLine]
  omega
theorem EV_Extend {o e : Expr} {apos pos : Pos} (hbase : ∀ env : Env, attributeBase o "extend" env (eval o env) = eval o env) (hline : (apos.endLine == pos.line) = true) (hst : isStar e = false)
    (h : EV w hb n sc o ρ τ fun p τ₁ => ∃ i, p = .adr i ∧ EV w hb n sc e ρ τ₁ fun q τ₂ => ∃ j l l', q = .adr j ∧ i ≠ j ∧ τ₂[i]? = some l ∧ τ₂[j]? = some l' ∧ l.length ≤ 1000 ∧ l'.length ≤ 1000 ∧ Q .none (τ₂.set i (l ++ l'))) :
    EV w hb n sc (.Call (.Attribute o "extend" apos) [e] [] pos) ρ τ Q := by
  intro H A env m μ s hA hE hI
  refine wpAny_Call_method1_late (hbase env) hline (by rw [starEach_cons hst]; rfl) (h.bind1 H hA hE hI fun v s₁ μ₁ τ₁ p T₁ e₁ I₁ r q₁ => ?_)
  obtain ⟨i, rfl, q₁⟩ := q₁
  obtain ⟨a, rfl, ha, hT, vs, k, g⟩ := adr_type I₁.store r
  refine ⟨"list", "list.extend", PySem.F.plainAttrs_list, PySem.F.slot_list_extend, PySem.F.type_list_extend, hT, adr_dict g, P.extend_list (q₁.bind1 H hA hE I₁ fun v₂ s₂ μ₂ τ₂ p₂ T₂ e₂ I₂ r₂ q₂ => ?_)⟩
  obtain ⟨j, l, l', rfl, hij, hl, hl', hsz, hsz', q⟩ := q₂
  have ha₂ := get_pre T₂.pre ha
  obtain ⟨us, k2, g₂, rs, nel⟩ := I₂.store.at_ i a l ha₂ hl
  simp only [Rep] at r₂
  obtain ⟨b, hb2, rfl⟩ := r₂
  obtain ⟨us', k3, g₃, rs', nel'⟩ := I₂.store.at_ j b l' hb2 hl'
  have z1 := rs.length
  have z2 := rs'.length
  refine ⟨b, us.toArray, us'.toArray, k2, k3, sz rs hsz, by simp only [List.size_toArray, sizeLine_eq]; omega, ?_, rfl, g₂, g₃, ?_⟩
  · rw [listTooLong_of (by simp only [List.size_toArray]; omega)]; simp
  exact ((Post.turned (p := .none) (l := l) I₂.store ha₂ g₂ (vs' := us ++ us') (f := fun xs => xs ++ us'.toArray) (by simp) (RepL.append (rs.noL nel) (rs'.noL nel')) (noEllL_append nel nel') rep_none q).trans T₂ e₂).trans T₁ e₁

theorem RepL.tail {L : Addr} {μ : List Addr} {h : Heap} {p : PV} {l : List PV} {vs : List Value} (r : RepL hb L μ h (p :: l) vs) : ∃ v u, vs = v :: u ∧ Rep hb L μ h p v ∧ RepL hb L μ h l u := by
  simpa only [RepL] using r

theorem EV_Pop0 {o e : Expr} {apos pos : Pos} (hbase : ∀ env : Env, attributeBase o "pop" env (eval o env) = eval o env) (hline : (apos.endLine == pos.line) = true) (hst : isStar e = false)
    (h : EV w hb n sc o ρ τ fun p τ₁ => ∃ i, p = .adr i ∧ EV w hb n sc e ρ τ₁ fun q τ₂ => ∃ x l, q = .int 0 ∧ τ₂[i]? = some (x :: l) ∧ l.length < 1000 ∧ Q x (τ₂.set i l)) :
    EV w hb n sc (.Call (.Attribute o "pop" apos) [e] [] pos) ρ τ Q := by
  intro H A env m μ s hA hE hI
  refine wpAny_Call_method1_late (hbase env) hline (by rw [starEach_cons hst]; rfl) (h.bind1 H hA hE hI fun v s₁ μ₁ τ₁ p T₁ e₁ I₁ r q₁ => ?_)
  obtain ⟨i, rfl, q₁⟩ := q₁
  obtain ⟨a, rfl, ha, hT, vs, k, g⟩ := adr_type I₁.store r
  refine ⟨"list", "list.pop", PySem.F.plainAttrs_list, PySem.F.slot_list_pop, PySem.F.type_list_pop, hT, adr_dict g, P.pop_at_list (q₁.bind1 H hA hE I₁ fun v₂ s₂ μ₂ τ₂ p₂ T₂ e₂ I₂ r₂ q₂ => ?_)⟩
  obtain ⟨x, l, rfl, hl, hsz, q⟩ := q₂
  have ha₂ := get_pre T₂.pre ha
  obtain ⟨us, k2, g₂, rs, nel⟩ := I₂.store.at_ i a _ ha₂ hl
  have hz := sz rs (by simp; omega)
  obtain ⟨y, us', rfl, ry, rs'⟩ := RepL.tail rs
  simp only [Rep] at r₂
  obtain ⟨t, rfl⟩ := r₂
  simp only [noEllL, Bool.and_eq_true] at nel
  refine ⟨(y :: us').toArray, k2, 0, t, 0, y, hz, rfl, g₂, rfl, by simp [seqIndex?], by simp, ?_⟩
  exact ((Post.turned (p := x) (l := x :: l) (v := y) I₂.store ha₂ g₂ (vs' := us') (f := fun xs => xs.eraseIdxIfInBounds 0) (by simp) (rs'.noL nel.2) nel.2 (ry.noL nel.1) q).trans T₂ e₂).trans T₁ e₁

theorem EX_SetItem {o i value : Expr} {pos' pos : Pos} (hs : ∀ env : Env, swapsWith value (some (.Subscript o i pos')) pos.line env = pure false)
    (h : EV w hb n sc value ρ τ fun p τ₁ => EV w hb n sc o ρ τ₁ fun q τ₂ => EV w hb n sc i ρ τ₂ fun r τ₃ => ∃ j k l, q = .adr j ∧ r = .int k ∧ τ₃[j]? = some l ∧ 0 ≤ k ∧ k < l.length ∧ l.length ≤ 1000 ∧ noEll p = true ∧ C.nx ρ (τ₃.set j (l.set k.toNat p))) :
    EX w hb n sc (.Assign [.Subscript o i pos'] value pos) ρ τ C := by
  intro H A env m μ s hA hE hI
  refine wpAny_Assign_Subscript (h.bind1 H hA hE hI fun v s₁ μ₁ τ₁ p T₁ e₁ I₁ r₁ q₁ => ?_) (hs env)
  refine q₁.bind1 H hA hE I₁ fun ov s₂ μ₂ τ₂ p₂ T₂ e₂ I₂ r₂ q₂ => ?_
  refine q₂.bind1 H hA hE I₂ fun iv s₃ μ₃ τ₃ p₃ T₃ e₃ I₃ r₃ q₃ => ?_
  obtain ⟨j, k, l, rfl, rfl, hl, h0, hk, hsz, ne, q⟩ := q₃
  simp only [Rep] at r₃
  obtain ⟨t, rfl⟩ := r₃
  have r₂' := r₂.step I₂.store T₃
  have r₁' := (r₁.step I₁.store T₂).step I₂.store T₃
  obtain ⟨a, us, c, rfl, ha, g, rs, _⟩ := list_at I₃.store r₂' hl
  have z := rs.length
  refine ki_setAt g h0 (by omega) (by rw [List.size_toArray]; omega) ?_
  obtain ⟨us', c', g', rs', nel⟩ := I₃.store.at_ j a l ha hl
  have T₀ : Stp hb μ s.heap μ₃ τ₃ s₃.heap := (T₁.trans T₂).trans T₃
  have e2 := PySem.IsL.update (show PySem.IsL s₃.heap a us.toArray c from g) (·.setIfInBounds k.toNat v)
  have sb : Heap.SameBut a s₃.heap (s₃.heap.update a (Obj.mapSeq (·.setIfInBounds k.toNat v))) := Heap.SameBut.update ..
  have hf : us.toArray.setIfInBounds k.toNat v = (us.set k.toNat v).toArray := by apply Array.toList_inj.mp; simp
  rw [hf] at e2
  have rset : ∀ {l : List PV} {us : List Value} (kk : Nat), RepL hb env.locals μ₃ s₃.heap l us → RepL hb env.locals μ₃ s₃.heap (l.set kk p) (us.set kk v) := by
    intro l
    induction l with
    | nil => intro us kk r; simp only [RepL] at r; subst r; simp [RepL]
    | cons x l ih =>
      intro us kk r
      obtain ⟨y, u, rfl, ry, ru⟩ := RepL.tail r
      cases kk with
      | zero => exact RepL.cons r₁' ru
      | succ kk => exact RepL.cons ry (ih kk ru)
  have neset : ∀ {l : List PV} (kk : Nat), noEllL l = true → noEllL (l.set kk p) = true := by
    intro l
    induction l with
    | nil => intro kk h; simpa using h
    | cons x l ih =>
      intro kk h
      simp only [noEllL, Bool.and_eq_true] at h
      cases kk with
      | zero => simp [noEllL, ne, h.2]
      | succ kk => simp [noEllL, h.1, ih kk h.2]
  have T₄ : Stp hb μ₃ s₃.heap μ₃ (τ₃.set j (l.set k.toNat p)) (s₃.heap.update a (Obj.mapSeq (·.setIfInBounds k.toNat v))) := Stp.set I₃.store ha (fun b o nb g => sb.extBut b o nb g) e2 (rset _ rs) (neset _ nel)
  exact ⟨μ₃, _, (T₀.trans T₄).toS, (e₁.trans e₂).trans (e₃.trans ⟨rfl, rfl, rfl⟩), m, ρ, hI.step (T₀.trans T₄), q⟩

theorem O2_lcat {i j : Nat} {l l' : List PV} (hi : τ[i]? = some l) (hj : τ[j]? = some l') (h1 : l.length ≤ 500) (h2 : l'.length ≤ 500) (q : Q (.adr τ.length) (τ ++ [l ++ l'])) : O2 w hb n (binaryOp .Add) (.adr i) (.adr j) τ Q := by
  intro H A L μ s x y hA hB S ra rb
  obtain ⟨a, us, k, rfl, ha, g, rs, _⟩ := list_at S ra hi
  obtain ⟨b, us', k', rfl, hb', g', rs', _⟩ := list_at S rb hj
  obtain ⟨_, _, _, _, nel⟩ := S.at_ i a l ha hi
  obtain ⟨_, _, _, _, nel'⟩ := S.at_ j b l' hb' hj
  have z := rs.length
  have z' := rs'.length
  refine P.add_list g g' ?_ (by simp only [List.size_toArray, sizeLine_eq]; omega)
  have kp : ∀ a o, s.heap.get? a = some o → (s.heap.push { cls := .type "list", data := .seq (us.toArray ++ us'.toArray) }).get? a = some o := fun a o e => Heap.get?_push_of_some _ e
  have e := Heap.get?_push_size s.heap (o := { cls := .type "list", data := .seq (us.toArray ++ us'.toArray) }) rfl
  have T := Stp.alloc (hb := hb) (l := l ++ l') (vs := us ++ us') (n := 0) S hB kp (fresh_size _) (by rw [e]; simp) (RepL.append rs rs') (noEllL_append nel nel')
  refine ⟨_, _, .adr τ.length, T, ?_, ⟨rfl, rfl, rfl⟩, q⟩
  simp only [Rep]
  exact ⟨_, by rw [← S.len]; simp, rfl⟩

theorem rep_foldl (items : List Value) : ∀ (k : Nat), (List.foldl (fun x1 x2 => x1 ++ x2) #[] (List.replicate k items.toArray)) = (List.replicate k items).flatten.toArray := by
  have main : ∀ (k : Nat) (acc : List Value), (List.foldl (fun x1 x2 => x1 ++ x2) acc.toArray (List.replicate k items.toArray)) = (acc ++ (List.replicate k items).flatten).toArray := by
    intro k
    induction k with
    | zero => intro acc; simp
    | succ k ih => intro acc; simp only [List.replicate_succ, List.foldl_cons, List.flatten_cons]; rw [show acc.toArray ++ items.toArray = (acc ++ items).toArray by simp, ih]; simp
  intro k
  simpa using main k []
theorem O2_lmul {i : Nat} {l : List PV} {k : Int} (hi : τ[i]? = some l) (h0 : 0 ≤ k) (hk : k ≤ 10) (h1 : l.length ≤ 50) (hne : l ≠ []) (q : Q (.adr τ.length) (τ ++ [(List.replicate k.toNat l).flatten])) : O2 w hb n (binaryOp .Mult) (.adr i) (.int k) τ Q := by
  intro H A L μ s x y hA hB S ra rb
  obtain ⟨a, us, c, rfl, ha, g, rs, _⟩ := list_at S ra hi
  obtain ⟨_, _, _, _, nel⟩ := S.at_ i a l ha hi
  simp only [Rep] at rb
  obtain ⟨u, rfl⟩ := rb
  have z := rs.length
  have une : us ≠ [] := by rintro rfl; simp at z; exact hne (List.eq_nil_of_length_eq_zero z.symm)
  have big : us.toArray.size * k.toNat ≤ 500 := by rw [List.size_toArray, z]; calc l.length * k.toNat ≤ 50 * 10 := Nat.mul_le_mul h1 (by omega)
    _ = 500 := rfl
  refine wpAny_binaryOp_repeat_ref (T := "list") (U := "int") (by decide) ⟨_, g, rfl⟩ (fun s' => typeIs_int s' k u) noFill_list_mul PySem.F.fills_int_mul PySem.F.slot_int_rmul repeat_list PySem.F.slot_int_index.lookup
    (call_meets PySem.F.slot_int_rmul (typeIs_int s k u) PySem.F.entry_int_rmul (PySem.F.args_int_rmul_2 _ _) (int___rmul___int_list k u a us.toArray c)
      ⟨g, rfl, ⟨_, g, rfl⟩, call_meets PySem.F.slot_list_mul ⟨_, g, rfl⟩ PySem.F.entry_list_mul (PySem.F.args_list_mul_2 _ _)
        (AutoListH.list___mul___list_int_3 a us.toArray c k u (by simp [Builtin.List.listFitsIndex]; omega) (by omega) (by rw [List.size_toArray] at big; simp [Builtin.List.listTooLong, sizeLine]; omega))
        ⟨g, ?_⟩⟩)
  have e0 : (if us.toArray.isEmpty = true then 0 else k.toNat) = k.toNat := if_neg (by simpa using une)
  have arr : (List.foldl (fun x1 x2 => x1 ++ x2) #[] (List.replicate (if us.toArray.isEmpty = true then 0 else k.toNat) us.toArray)) = (List.replicate k.toNat us).flatten.toArray := by rw [e0]; exact rep_foldl us k.toNat
  have kp : ∀ a o, s.heap.get? a = some o → (s.heap.push { cls := .type "list", data := .seq (List.foldl (fun x1 x2 => x1 ++ x2) #[] (List.replicate (if us.toArray.isEmpty = true then 0 else k.toNat) us.toArray)) }).get? a = some o := fun a o e => Heap.get?_push_of_some _ e
  have e := Heap.get?_push_size s.heap (o := { cls := .type "list", data := .seq (List.foldl (fun x1 x2 => x1 ++ x2) #[] (List.replicate (if us.toArray.isEmpty = true then 0 else k.toNat) us.toArray)) }) rfl
  have rr : ∀ kk : Nat, RepL hb L μ s.heap (List.replicate kk l).flatten (List.replicate kk us).flatten ∧ noEllL (List.replicate kk l).flatten = true := by
    intro kk
    induction kk with
    | zero => exact ⟨RepL.nil, rfl⟩
    | succ kk ih => simp only [List.replicate_succ, List.flatten_cons]; exact ⟨RepL.append rs ih.1, noEllL_append nel ih.2⟩
  have T := Stp.alloc (hb := hb) (l := (List.replicate k.toNat l).flatten) (vs := (List.replicate k.toNat us).flatten) (n := 0) S hB kp (fresh_size _) (by rw [e, ← arr]) (rr _).1 (rr _).2
  refine ⟨_, _, .adr τ.length, T, ?_, ⟨rfl, rfl, rfl⟩, q⟩
  simp only [Rep]
  exact ⟨_, by rw [← S.len]; simp, rfl⟩
end
end Mine
namespace Mine

noncomputable def toDs (f : PV → Option PyData) : List PV → Option (List PyData)
  | [] => some []
  | p :: ps => (f p).bind fun d => (toDs f ps).map fun ds => d :: ds
noncomputable def toD (τ : St) : Nat → PV → Option PyData
  | 0, _ => none
  | _ + 1, .none => some .none
  | _ + 1, .bool b => some (.bool b)
  | _ + 1, .int i => some (.int i)
  | k + 1, .tup l => (toDs (toD τ k) l).map .tuple
  | k + 1, .adr j => (τ[j]?).bind fun l => (toDs (toD τ k) l).map .list
  | _ + 1, .blist l => some (.list (l.map .int))
  | _ + 1, .ell .. => none
  | _ + 1, .rng .. => none
  | _ + 1, .raw _ => none

section
variable {w : World} {hb : Bs} {n : Nat} {sc : Scope} {ρ : List (Str × PV)} {τ : St} {Q : PV → St → Prop} {C : Co} {env : Env}

theorem reads_ints {h : Heap} : ∀ {vs : List Value} {l : List Int}, IntsAre vs l → ReadsAll h vs (l.map .int) []
  | _, _, .nil => .nil
  | _, _, .cons i t r => .cons (as := []) (bs := []) (.int i t) (reads_ints r)
theorem toD_reads {L : Addr} {μ : List Addr} {h : Heap} (S : StoreOk hb μ τ h) (B : Base hb h) : ∀ (k : Nat) (p : PV) (v : Value) (d : PyData), toD τ k p = some d → Rep hb L μ h p v → ∃ as, Reads h v d as
  | 0, _, _, _, e, _ => by simp [toD] at e
  | k + 1, p, v, d, e, r => by
    have ih := fun L p v d => toD_reads (L := L) S B k p v d
    have all : ∀ (L : Addr) (l : List PV) (vs : List Value) (ds : List PyData), toDs (toD τ k) l = some ds → RepL hb L μ h l vs → ∃ as, ReadsAll h vs ds as := by
      intro L l
      induction l with
      | nil => intro vs ds e r; simp only [toDs] at e; cases e; simp only [RepL] at r; subst r; exact ⟨[], .nil⟩
      | cons p ps ih2 =>
        intro vs ds e r
        simp only [toDs] at e
        obtain ⟨d, e1, e2⟩ := Option.bind_eq_some_iff.mp e
        obtain ⟨ds', e3, rfl⟩ := Option.map_eq_some_iff.mp e2
        obtain ⟨v, u, rfl, rv, ru⟩ := RepL.tail r
        obtain ⟨as, a1⟩ := ih L p v d e1 rv
        obtain ⟨bs, a2⟩ := ih2 u ds' e3 ru
        exact ⟨_, .cons a1 a2⟩
    cases p with
    | none => simp only [toD] at e; cases e; simp only [Rep] at r; subst r; exact ⟨_, .none⟩
    | bool b => simp only [toD] at e; cases e; simp only [Rep] at r; subst r; exact ⟨_, .bool b⟩
    | int i => simp only [toD] at e; cases e; simp only [Rep] at r; obtain ⟨t, rfl⟩ := r; exact ⟨_, .int i t⟩
    | tup l =>
      simp only [toD] at e
      obtain ⟨ds, e1, rfl⟩ := Option.map_eq_some_iff.mp e
      simp only [Rep] at r
      obtain ⟨a, vs, rfl, _, ⟨o, ho, hc, c, hd⟩, rs⟩ := r
      obtain ⟨as, q⟩ := all L l vs ds e1 rs
      exact ⟨as, .tuple ho hc hd (by simpa using q)⟩
    | adr j =>
      simp only [toD] at e
      obtain ⟨l, e0, e⟩ := Option.bind_eq_some_iff.mp e
      obtain ⟨ds, e1, rfl⟩ := Option.map_eq_some_iff.mp e
      simp only [Rep] at r
      obtain ⟨a, ha, rfl⟩ := r
      obtain ⟨vs, c, g, rs, ne⟩ := S.at_ j a l ha e0
      obtain ⟨as, q⟩ := all 0 l vs ds e1 rs
      exact ⟨_, .list g rfl rfl (by simpa using q)⟩
    | blist l =>
      simp only [toD] at e
      cases e
      simp only [Rep] at r
      obtain ⟨a, vs, rfl, ⟨o, ho, hc, c, hd⟩, hi⟩ := r
      exact ⟨_, .list (B.up _ _ ho) hc hd (by simpa using reads_ints hi)⟩
    | ell => simp [toD] at e
    | rng => simp [toD] at e
    | raw => simp [toD] at e

theorem O2_eqD {p q : PV} {dp dq : PyData} (k : Nat) (h1 : toD τ k p = some dp) (h2 : toD τ k q = some dq) (s1 : SeqAt.shaped dp = true) (s2 : SeqAt.shaped dq = true) (hq : Q (.bool (PyData.eqv dp dq)) τ) : O2 w hb n (compareOp .Eq) p q τ Q := by
  intro H A L μ s x y hA hB S ra rb
  obtain ⟨as, r1⟩ := toD_reads S hB k p x dp h1 ra
  obtain ⟨bs, r2⟩ := toD_reads S hB k q y dq h2 rb
  exact eq_dataH r1 r2 s1 s2 (by have := hA.units; omega) (Post.here S rfl (Same.refl s) rep_bool hq)
theorem O2_neD {p q : PV} {dp dq : PyData} (k : Nat) (h1 : toD τ k p = some dp) (h2 : toD τ k q = some dq) (s1 : SeqAt.shaped dp = true) (s2 : SeqAt.shaped dq = true) (hq : Q (.bool (!PyData.eqv dp dq)) τ) : O2 w hb n (compareOp .NotEq) p q τ Q := by
  intro H A L μ s x y hA hB S ra rb
  obtain ⟨as, r1⟩ := toD_reads S hB k p x dp h1 ra
  obtain ⟨bs, r2⟩ := toD_reads S hB k q y dq h2 rb
  exact ne_dataH r1 r2 s1 s2 (by have := hA.units; omega) (Post.here S rfl (Same.refl s) rep_bool hq)

theorem slice_core {L : Addr} {μ μ₁ : List Addr} {s s₁ : Shared} {A : Around} {l' : List PV} {a c : Addr} {us : List Value} {vl vu : Value} {lo hi : Option Int} {τ₁ : St} (S : StoreOk hb μ₁ τ₁ s₁.heap) (B : Base hb s₁.heap) (T : Stp hb μ s.heap μ₁ τ₁ s₁.heap) (e : Same s s₁)
    (g : s₁.heap.get? a = some (LO us.toArray c)) (pl : IsPart vl lo) (pu : IsPart vu hi) (hp : ∃ us', slicePick us.toArray lo hi none = List.toArray us' ∧ RepL hb L μ₁ s₁.heap l' us') (ne : noEllL l' = true) (hz : us.length ≤ 1000) (q : Q (.adr τ₁.length) (τ₁ ++ [l'])) :
    wpAny (model PR w) A (getItem (.ref a) (.ref s₁.heap.objs.size)) (Post hb L s μ Q) NoE { s₁ with heap := s₁.heap.push { cls := .type "slice", data := .fields #[vl, vu, .none] } } := by
  obtain ⟨us', e', r⟩ := hp
  have hL : s₁.heap.IsList a us.toArray := ⟨_, g, rfl, _, rfl⟩
  have T1 : Stp hb μ₁ s₁.heap μ₁ τ₁ (s₁.heap.push { cls := .type "slice", data := .fields #[vl, vu, .none] }) := Stp.grow S fun a o e => Heap.get?_push_of_some _ e
  have B1 : Base hb (s₁.heap.push { cls := .type "slice", data := .fields #[vl, vu, .none] }) := B.grow fun a o e => Heap.get?_push_of_some _ e
  refine wpAny_getItem_list_slice (hL.push _) (Heap.IsSliceOf.new ..) pl pu .none (by simp) ?_ (by rw [List.size_toArray, sizeLine_eq]; omega)
  have kp : ∀ (b : Addr) (o : Obj), (s₁.heap.push { cls := .type "slice", data := .fields #[vl, vu, .none] }).get? b = some o → ((s₁.heap.push { cls := .type "slice", data := .fields #[vl, vu, .none] }).push { cls := .type "list", data := .seq (slicePick us.toArray lo hi none) }).get? b = some o := fun b o e => Heap.get?_push_of_some _ e
  have ee := Heap.get?_push_size (s₁.heap.push { cls := .type "slice", data := .fields #[vl, vu, .none] }) (o := { cls := .type "list", data := .seq (slicePick us.toArray lo hi none) }) rfl
  have T2 := Stp.alloc (hb := hb) (l := l') (vs := us') (n := 0) T1.store B1 kp (fresh_size _) (by rw [ee, e']) (r.step S T1) ne
  refine ⟨_, _, .adr τ₁.length, (T.trans T1).trans T2, ?_, e.trans ⟨rfl, rfl, rfl⟩, q⟩
  simp only [Rep]
  exact ⟨_, by rw [← S.len]; simp, rfl⟩

theorem RepL.take {L : Addr} {μ : List Addr} {h : Heap} : ∀ {l : List PV} {vs : List Value} (k : Nat), RepL hb L μ h l vs → RepL hb L μ h (l.take k) (vs.take k)
  | [], vs, k, r => by simp only [RepL] at r; subst r; simp [RepL]
  | p :: ps, vs, 0, r => by simp [RepL]
  | p :: ps, vs, k + 1, r => by
    obtain ⟨v, u, rfl, rv, ru⟩ := RepL.tail r
    exact RepL.cons rv (RepL.take k ru)
theorem RepL.drop {L : Addr} {μ : List Addr} {h : Heap} : ∀ {l : List PV} {vs : List Value} (k : Nat), RepL hb L μ h l vs → RepL hb L μ h (l.drop k) (vs.drop k)
  | [], vs, k, r => by simp only [RepL] at r; subst r; simp [RepL]
  | p :: ps, vs, 0, r => r
  | p :: ps, vs, k + 1, r => by
    obtain ⟨v, u, rfl, rv, ru⟩ := RepL.tail r
    exact RepL.drop k ru
theorem noEllL_take : ∀ {l : List PV} (k : Nat), noEllL l = true → noEllL (l.take k) = true
  | [], k, h => by simp [noEllL]
  | p :: ps, 0, h => by simp [noEllL]
  | p :: ps, k + 1, h => by simp only [noEllL, Bool.and_eq_true, List.take_succ_cons] at h ⊢; exact ⟨h.1, noEllL_take k h.2⟩
theorem noEllL_drop : ∀ {l : List PV} (k : Nat), noEllL l = true → noEllL (l.drop k) = true
  | [], k, h => by simp [noEllL]
  | p :: ps, 0, h => h
  | p :: ps, k + 1, h => by simp only [noEllL, Bool.and_eq_true, List.drop_succ_cons] at h ⊢; exact noEllL_drop k h.2

theorem EV_SliceFrom {value lo : Expr} {p pos : Pos} (ht : ∀ o r, letTemporaryGo value o r = pure ())
    (h : EV w hb n sc value ρ τ fun x τ₁ => EV w hb n sc lo ρ τ₁ fun y τ₂ => ∃ i l k, x = .adr i ∧ y = .int k ∧ 0 ≤ k ∧ τ₂[i]? = some l ∧ l.length ≤ 1000 ∧ Q (.adr τ₂.length) (τ₂ ++ [l.drop k.toNat])) :
    EV w hb n sc (.Subscript value (.Slice (some lo) none none p) pos) ρ τ Q := by
  intro H A env m μ s hA hE hI
  refine wpAny_Subscript_Slice list_getitem_lookup (h.bind1 H hA hE hI fun v s₁ μ₁ τ₁ px T₁ e₁ I₁ r₁ q₁ => ?_) ht
  refine wpAny_Slice ?_
  refine q₁.bind1 H hA hE I₁ fun v₂ s₂ μ₂ τ₂ py T₂ e₂ I₂ r₂ q₂ => wpAny_pure (wpAny_pure ?_)
  obtain ⟨i, l, k, rfl, rfl, h0, hl, hz, q⟩ := q₂
  obtain ⟨a, us, c, rfl, ha, g, rs, hL⟩ := list_at I₂.store (r₁.step I₁.store T₂) hl
  obtain ⟨_, _, _, _, nel⟩ := I₂.store.at_ i a l ha hl
  simp only [Rep] at r₂
  obtain ⟨t, rfl⟩ := r₂
  refine ⟨Heap.IsList.typeIs (s := { s₂ with heap := s₂.heap.push { cls := .type "slice", data := .fields #[.int k t, .none, .none] } }) (hL.push _), ?_⟩
  refine slice_core I₂.store I₂.base (T₁.trans T₂) (e₁.trans e₂) g (.int k t) .none ⟨us.drop k.toNat, ?_, RepL.drop _ rs⟩ (noEllL_drop _ nel) (by rw [rs.length]; exact hz) q
  have e : sliceBounds (some k) none none us.toArray.size = (((min k.toNat us.toArray.size : Nat) : Int), ((us.toArray.size : Nat) : Int), 1) := by
    simp only [sliceBounds, Option.getD_none, show (1 : Int) > 0 by decide, if_true, if_neg (show ¬ (k < 0) by omega)]
    congr 1
    omega
  rw [kmk_pick_nat _ e]
  show ((us.drop (min k.toNat us.toArray.size)).take (us.toArray.size - min k.toNat us.toArray.size)).toArray = _
  rw [List.size_toArray, kmk_drop_min, List.take_of_length_le (by rw [List.length_drop]; omega)]

theorem CL_lenL {i : Nat} {l : List PV} (hi : τ[i]? = some l) (hz : l.length ≤ 1000) (q : Q (.int (l.length : Int)) τ) : CL w hb n (.builtin "len") [.adr i] τ Q := by
  intro H A L μ s vs hA hB hL S rs
  obtain ⟨v, u, rfl, rv, ru⟩ := RepL.tail rs
  simp only [RepL] at ru
  subst ru
  obtain ⟨a, us, c, rfl, ha, g, rs', hl⟩ := list_at S rv hi
  have z := rs'.length
  refine PyProof.Rows.len_list hl (by rw [List.size_toArray]; omega) (Post.here S rfl ⟨rfl, rfl, rfl⟩ (p := .int (l.length : Int)) ?_ q)
  simp only [Rep, List.size_toArray, z]
  exact ⟨_, rfl⟩
theorem CL_lenT {l : List PV} (hz : l.length ≤ 1000) (q : Q (.int (l.length : Int)) τ) : CL w hb n (.builtin "len") [.tup l] τ Q := by
  intro H A L μ s vs hA hB hL S rs
  obtain ⟨v, u, rfl, rv, ru⟩ := RepL.tail rs
  simp only [RepL] at ru
  subst ru
  simp only [Rep] at rv
  obtain ⟨a, us, rfl, _, ht, rs'⟩ := rv
  have z := rs'.length
  refine PyProof.Rows.len_tuple ht (by rw [List.size_toArray]; omega) (Post.here S rfl ⟨rfl, rfl, rfl⟩ (p := .int (l.length : Int)) ?_ q)
  simp only [Rep, List.size_toArray, z]
  exact ⟨_, rfl⟩
theorem CL_abs {a : Int} (q : Q (.int (if a < 0 then -a else a)) τ) : CL w hb n (.builtin "abs") [.int a] τ Q := by
  intro H A L μ s vs hA hB hL S rs
  obtain ⟨v, u, rfl, rv, ru⟩ := RepL.tail rs
  simp only [RepL] at ru
  subst ru
  simp only [Rep] at rv
  obtain ⟨t, rfl⟩ := rv
  exact call_abs_int fun u tk => Post.here S rfl ⟨rfl, rfl, rfl⟩ rep_int q
theorem rep2 {L : Addr} {μ : List Addr} {h : Heap} {a b : Int} {vs : List Value} (r : RepL hb L μ h [.int a, .int b] vs) : ∃ t u, vs = [.int a t, .int b u] := by
  obtain ⟨v, u, rfl, rv, ru⟩ := RepL.tail r
  obtain ⟨v2, u2, rfl, rv2, ru2⟩ := RepL.tail ru
  simp only [RepL] at ru2
  subst ru2
  simp only [Rep] at rv rv2
  obtain ⟨t, rfl⟩ := rv
  obtain ⟨t2, rfl⟩ := rv2
  exact ⟨t, t2, rfl⟩
theorem CL_max {a b : Int} (q : Q (.int (if b > a then b else a)) τ) : CL w hb n (.builtin "max") [.int a, .int b] τ Q := by
  intro H A L μ s vs hA hB hL S rs
  obtain ⟨t, u, rfl⟩ := rep2 rs
  refine max_two_ints hA.hd fun h' tk k => ⟨μ, τ, .int (if b > a then b else a), Stp.grow S k, ?_, ⟨rfl, rfl, rfl⟩, q⟩
  split <;> exact rep_int
theorem CL_min {a b : Int} (q : Q (.int (if b < a then b else a)) τ) : CL w hb n (.builtin "min") [.int a, .int b] τ Q := by
  intro H A L μ s vs hA hB hL S rs
  obtain ⟨t, u, rfl⟩ := rep2 rs
  refine min_two_ints hA.hd fun h' tk k => ⟨μ, τ, .int (if b < a then b else a), Stp.grow S k, ?_, ⟨rfl, rfl, rfl⟩, q⟩
  split <;> exact rep_int
theorem CL_intb {b : Bool} (q : Q (.int (if b then 1 else 0)) τ) : CL w hb n (.type "int") [.bool b] τ Q := by
  intro H A L μ s vs hA hB hL S rs
  obtain ⟨v, u, rfl, rv, ru⟩ := RepL.tail rs
  simp only [RepL] at ru
  subst ru
  simp only [Rep] at rv
  subst rv
  exact call_int_bool (Post.here S rfl ⟨rfl, rfl, rfl⟩ rep_int q)
theorem CL_boolb {b : Bool} (q : Q (.bool b) τ) : CL w hb n (.type "bool") [.bool b] τ Q := by
  intro H A L μ s vs hA hB hL S rs
  obtain ⟨v, u, rfl, rv, ru⟩ := RepL.tail rs
  simp only [RepL] at ru
  subst ru
  simp only [Rep] at rv
  subst rv
  exact call_bool_bool (Post.here S rfl ⟨rfl, rfl, rfl⟩ rep_bool q)
theorem CL_range {k : Int} (q : Q (.rng 0 k 1) τ) : CL w hb n (.type "range") [.int k] τ Q := by
  intro H A L μ s vs hA hB hL S rs
  obtain ⟨v, u, rfl, rv, ru⟩ := RepL.tail rs
  simp only [RepL] at ru
  subst ru
  simp only [Rep] at rv
  obtain ⟨t, rfl⟩ := rv
  refine call_range_1 (Post.grown S (fun a o e => Heap.get?_push_of_some _ e) (p := .rng 0 k 1) ?_ ⟨rfl, rfl, rfl⟩ q)
  simp only [Rep]
  exact ⟨_, _, _, _, rfl, Heap.get?_push_size _ rfl⟩
theorem CL_tupleL {i : Nat} {l : List PV} (hi : τ[i]? = some l) (hz : l.length ≤ 1000) (q : Q (.tup l) τ) : CL w hb n (.type "tuple") [.adr i] τ Q := by
  intro H A L μ s vs hA hB hL S rs
  obtain ⟨v, u, rfl, rv, ru⟩ := RepL.tail rs
  simp only [RepL] at ru
  subst ru
  obtain ⟨a, us, c, rfl, ha, g, rs', hl⟩ := list_at S rv hi
  have z := rs'.length
  refine call_tuple_list hl (fun h' k => ?_) (by rw [List.size_toArray, sizeLine_eq]; omega)
  have k2 : ∀ b o, s.heap.get? b = some o → (h'.push { cls := .type "tuple", data := .seq us.toArray }).get? b = some o := fun b o e => Heap.get?_push_of_some _ (k b o e)
  refine Post.grown S k2 (p := .tup l) ?_ ⟨rfl, rfl, rfl⟩ q
  simp only [Rep]
  exact ⟨_, us, rfl, (hB.grow k).fresh (fresh_size _), ⟨_, Heap.get?_push_size _ rfl, rfl, _, rfl⟩, RepL.mono (fun a o e _ => k2 a o e) (List.prefix_refl _) _ _ rs'⟩

theorem EX_AssignTL {elts : List Expr} {xs : List Str} {k : Nat} {tpos pos : Pos} {value : Expr} (hn : namesOf elts = some xs) (hx : (xs.all (Stores sc)) = true)
    (hs : ∀ env : Env, env.scope = sc → swapsWithSole [.Tuple elts k tpos] value pos.line env = pure false) (hw : ∀ env : Env, env.scope = sc → swappedStores [.Tuple elts k tpos] value env = pure none)
    (h : EV w hb n sc value ρ τ fun p τ₁ => ∃ i ps, p = .adr i ∧ τ₁[i]? = some ps ∧ xs.length = ps.length ∧ C.nx (binds xs ps ρ) τ₁) : EX w hb n sc (.Assign [.Tuple elts k tpos] value pos) ρ τ C := by
  intro H A env m μ s hA hE hI
  refine PyProof.Rows.Assign_Tuple (h.bind1 H hA hE hI fun a s₁ μ₁ τ₁ pa T₁ e₁ I₁ ra q₁ => ?_) (hs env hE.scope) (hw env hE.scope)
  obtain ⟨i, ps, rfl, hi, hl, q⟩ := q₁
  obtain ⟨t, vs, c, rfl, ha, g, rs, hL⟩ := list_at I₁.store ra hi
  obtain ⟨ts, l1, l2⟩ := namesOf_TS (w := w) (env := env) hn
  rw [arm_assign_Tuple]
  refine wpAny_bind (wpAny_standAt ?_)
  unfold unpack
  rw [l2, l1, hl, ← rs.length, show vs.length = vs.toArray.size by simp]
  refine wpAny_bind (wpAny_holding (kun_itemsOf hA.hd hL fun h' he => ?_))
  have T : Stp hb μ₁ s₁.heap μ₁ τ₁ h' := Stp.grow I₁.store fun b o e => he b o (Nat.ne_of_lt (Heap.lt_size e)) e
  have I₂ := I₁.step T
  refine store_names (s := { s₁ with heap := h' }) hE _ xs ps vs ρ m μ₁ _ ts (fun x hm => List.all_eq_true.mp hx x hm) hl I₂ (rs.step I₁.store T) fun m' s' I' T' e' => ?_
  exact ⟨μ₁, τ₁, (T₁.trans T).toS.then I₂ T', e₁.trans e', m', _, I', q⟩
end
end Mine
namespace Mine

section
variable {w : World} {hb : Bs} {n : Nat} {sc : Scope} {ρ : List (Str × PV)} {τ : St} {Q : PV → St → Prop} {C : Co} {env : Env}

theorem EV_gpair {x : Str} {pos : Pos} {a : Addr} {i j : Int} {t u : Tok} {k : Nat} {d : Option Addr} {sl : Array (Option Value)} (hx : sc.names.lookup x = some .globalImplicit) (e : nsIn (KK w) mainGlobals x = some (some (.ref a)))
    (hl : (KK w).lookup a = some ⟨.type "tuple", d, .seq #[.int i t, .int j u] k, sl⟩) (q : Q (.tup [.int i, .int j]) τ) : EV w hb n sc (.Name x pos) ρ τ Q := by
  intro H A env m μ s hA hE hI
  have g := H.kin _ _ hl
  have g' := hI.base.up _ _ g
  refine wp_global H hE hI hx e (Post.here hI.store rfl (Same.refl s) (p := .tup [.int i, .int j]) ?_ q)
  simp only [Rep, RepL]
  exact ⟨a, [.int i t, .int j u], rfl, (fun m => by rw [hI.base.new a m] at g; cases g), ⟨_, g', rfl, _, rfl⟩, _, _, rfl, ⟨t, rfl⟩, _, _, rfl, ⟨u, rfl⟩, rfl⟩

noncomputable def ellF (a : Str) (rx ry c s : Int) : Option Int :=
  if a = ("rx" : Str) then some rx else if a = ("ry" : Str) then some ry else if a = ("cosine" : Str) then some c else if a = ("sine" : Str) then some s else none

theorem EllAt.inst {L x : Addr} {h : Heap} {rx ry c s : Int} (e : EllAt L h x rx ry c s) : ∃ dx es k, InstAt h x (instObj ellC dx) ellC (some (dictOf es k)) ∧ (∀ a i, ellF a rx ry c s = some i → ∃ t, getL a es = some (some (.int i t))) ∧
    getL (Str.ofString "led") es = some none ∧ getL (Str.ofString "back") es = some none := by
  obtain ⟨dx, es, n, t1, t2, t3, t4, _, hx, hd, g1, g2, g3, g4, g5, g6⟩ := e
  refine ⟨dx, es, n, ⟨hx, rfl, rfl, hd⟩, fun a i q => ?_, g5, g6⟩
  unfold ellF at q
  split at q
  · rename_i ha; cases q; exact ⟨t1, ha ▸ g1⟩
  · split at q
    · rename_i ha; cases q; exact ⟨t2, ha ▸ g2⟩
    · split at q
      · rename_i ha; cases q; exact ⟨t3, ha ▸ g3⟩
      · split at q
        · rename_i ha; cases q; exact ⟨t4, ha ▸ g4⟩
        · cases q

theorem EV_Attr {x attr : Str} {np pos : Pos} (hg : plainGet (KK w) ellC attr = true) (hh : hasDictIn (KK w) ellC = true) (ha : findIn (KK w) (.ref ellC) attr = some none)
    (h : EV w hb n sc (.Name x np) ρ τ fun p τ₁ => ∃ rx ry c s i, p = .ell rx ry c s ∧ ellF attr rx ry c s = some i ∧ Q (.int i) τ₁) : EV w hb n sc (.Attribute (.Name x np) attr pos) ρ τ Q := by
  intro H A env m μ s hA hE hI
  refine PyProof.Rows.Attribute_name (h.bind1 H hA hE hI fun v s₁ μ₁ τ₁ p T₁ e₁ I₁ r q => ?_)
  obtain ⟨rx, ry, c, sn, i, rfl, hi, q⟩ := q
  simp only [Rep] at r
  obtain ⟨y, rfl, r⟩ := r
  obtain ⟨dx, es, k, II, fl, _, _⟩ := r.inst
  obtain ⟨t, ht⟩ := fl _ _ hi
  exact get_value (H.kin.keeps I₁.base.up) II (plainGet_of hg).1 (findObj_own hh ha rfl ht) rfl ⟨μ₁, τ₁, .int i, T₁, rep_int, e₁.trans ⟨rfl, rfl, rfl⟩, q⟩

theorem EV_Meth {o : Expr} {e₀ : Expr} {name : Str} {apos pos : Pos} {f : Addr} {pl : Env → Sem Bool} (hg : plainGet (KK w) ellC name = true) (hf : findIn (KK w) (.ref ellC) name = some (some (.ref f))) (ht : isFn (KK w) (.ref f) = true) (hk : keepIn (KK w) (.ref f) = true)
    (hn : name = ("led" : Str) ∨ name = ("back" : Str)) (hst : isStar e₀ = false)
    (he : ∀ env : Env, eval (.Call (.Attribute o name apos) [e₀] [] pos) env = (do
      let ov ← eval o env
      standAt apos.atName
      let (f, first) ← holding [ov] (getMethod ov name (pl env))
      callWith pos f first (backTo pos (starEach [e₀] env)) (backToKw pos (keywordEach [] env))))
    (h : EV w hb n sc o ρ τ fun p τ₁ => ∃ rx ry c s, p = .ell rx ry c s ∧ EVs w hb n sc [e₀] ρ τ₁ fun ps τ₂ => CL w hb n (.ref f) (p :: ps) τ₂ Q) : EV w hb n sc (.Call (.Attribute o name apos) [e₀] [] pos) ρ τ Q := by
  intro H A env m μ s hA hE hI
  refine methodCall_KW (h.bind1 H hA hE hI fun v s₁ μ₁ τ₁ p T₁ e₁ I₁ r q => ?_) (he env)
  obtain ⟨rx, ry, c, sn, rfl, q⟩ := q
  have r0 := r
  simp only [Rep] at r
  obtain ⟨y, rfl, r⟩ := r
  obtain ⟨dx, es, k, II, _, gl, gb⟩ := r.inst
  refine method_fn (H.kin.keeps I₁.base.up) II (plainGet_of hg).1 (plainGet_of hg).2 hf (beq_iff_eq.mp ht) (by
    show (lookIn name (dictOf es k)).map _ = _
    rw [lookIn_dict]
    rcases hn with rfl | rfl
    · rw [gl]; rfl
    · rw [gb]; rfl) ?_
  refine callWith_K H.kin hk (wpAny_mono (q H A env m μ₁ s₁ pos hA hE I₁) (fun vs s₂ hp => ?_) fun _ _ x => x) (starEach_cons hst) rfl
  obtain ⟨μ₂, τ₂, ps, T₂, rs, e₂, q₂⟩ := hp
  have I₂ := I₁.step T₂
  exact ⟨H.kin.keeps I₂.base.up, wpAny_mono (q₂ H A env.locals μ₂ s₂ (.ref y :: vs) hA I₂.base I₂.hasL I₂.store (RepL.cons (r0.step I₁.store T₂) rs)) (fun _ _ p => (p.trans T₂ e₂).trans T₁ e₁) fun _ _ x => x⟩
end
end Mine
namespace Mine

section
variable {w : World} {hb : Bs} {n : Nat} {sc : Scope} {ρ : List (Str × PV)} {τ : St} {Q : PV → St → Prop} {C : Co} {env : Env}

theorem code_fn {A : Around} {L f : Addr} {μ : List Addr} {s : Shared} {vs : List Value} {bs : List (Str × Value)} {name qual : Str} {params : Arguments} {body : List Stmt} {scope : Scope} {dV kV doc pm cdv ct oc : Value} {an od : Option Addr} {osl : Array (Option Value)} {R : Result → Shared → Prop}
    (H : HB w hb) (hA : AOk (n + 1) A) (hB : Base hb s.heap) (hS : StoreOk hb μ τ s.heap)
    (ho : (KK w).lookup f = some ⟨oc, od, .func (fnOf name qual params body scope dV kV doc pm an cdv ct), osl⟩) (hcd : codeIn (KK w) cdv qual = true)
    (hbind : BindsTo s (fnOf name qual params body scope dV kV doc pm an cdv ct) ⟨vs, []⟩ bs) (rb0 : RB hb L μ s.heap ρ bs)
    (hst : ((ρ.map (·.1)).all (Stores scope)) = true) (hnd : (ρ.map (·.1)).Nodup) (hcn : ((cellsFrom 0 scope.names []).map (·.1)).Nodup)
    (hcs : ∀ L, (scope.names.all fun x => x.2 != .cell || ((cellsFrom L scope.names []).lookup x.1).isSome) = true)
    (h : ∀ (A' : Around) (env' : Env) m' (s' : Shared), AOk n A' → EnvOk env' scope → Inv hb env' m' μ ρ τ s'.heap → (∀ a o, s.heap.get? a = some o → s'.heap.get? a = some o) →
      (∀ a o, s.heap.get? a = some o → a ≠ env'.locals ∧ ∀ x c, (x, c) ∈ env'.cells → a ≠ c) → Same s s' →
      wpAny (model PR w) A' (execs body env') (fun fl s'' => match fl with | .next => R (.ok (.ret .none)) s'' | .ret v => R (.ok (.ret v)) s'' | _ => False) NoE s')
    (hdb : scope.names.lookup ("__debug__" : Str) = none) (hco : scope.isCoroutine = false) (hgen : scope.isGenerator = false) (hk : scope.kind = .function) : codeAny (model PR w) A (.call (.ref f) ⟨vs, []⟩) R s := by
  obtain ⟨p, loose, mean, mg, mb, T⟩ := H.top
  have X : (KK w).In s.heap := H.kin.keeps hB.up
  have cellkind : ∀ (L' : Addr) (x : Str), scope.names.lookup x = some .cell → ∃ c, (cellsFrom L' scope.names []).lookup x = some c := fun L' x e => by
    rcases Bool.or_eq_true_iff.mp (List.all_eq_true.mp (hcs L') (x, .cell) (mem_of_lookup e)) with q | q
    · have q2 : (NameKind.cell != NameKind.cell) = true := q
      exact absurd q2 (by decide)
    · exact Option.isSome_iff_exists.mp q
  have nm := RB.names rb0
  refine codeAny_call_function (by have := hA.depth; omega) (X _ _ ho) rfl hco hgen rfl (codeRec_of X hcd) (hbind _ _ _ _ ?_)
  refine wpAny_newFunctionEnv_cells hk (fun x hx => ?_) fun env' he s' x => ?_
  · have hx' : x.1 ∈ ρ.map (·.1) := nm ▸ List.mem_map_of_mem hx
    have := List.all_eq_true.mp hst x.1 hx'
    unfold Stores at this
    rcases Bool.or_eq_true_iff.mp this with q | q
    · exact .inl (eq_of_beq q)
    · obtain ⟨c, hc⟩ := cellkind (s.heap.objs.size + 1) x.1 (eq_of_beq q)
      exact .inr ⟨eq_of_beq q, by rw [hc]; rfl⟩
  · subst he
    refine ⟨(T.nolimit.keeps hB.up).keeps x.toInCall.keep, codeAny_func ?_⟩
    obtain ⟨h₁, tk, e₁, _⟩ := x.done
    have keep := x.toInCall.keep
    have newL : ∀ a o, s.heap.get? a = some o → a < s.heap.objs.size := fun a o e => Heap.lt_size e
    have frz : ∀ p v, Rep hb L μ s.heap p v → Rep hb s.heap.objs.size μ s'.heap p v := fun p v r => Rep.monoL (fun a o e _ => keep a o e) (fun a o e _ => Nat.ne_of_lt (newL a o e)) (List.prefix_refl _) p v r
    have rb : RB hb s.heap.objs.size μ s'.heap ρ bs := RB.mono frz rb0
    have memlk : ∀ n c, (n, c) ∈ (cellsFrom (s.heap.objs.size + 1) scope.names []) → (cellsFrom (s.heap.objs.size + 1) scope.names []).lookup n = some c := fun n c m =>
      lookup_of_mem_nodup (cellsFrom_names scope.names 0 (s.heap.objs.size + 1) [] [] rfl ▸ hcn) m
    have base0 : ∀ a, s.heap.objs.size ≤ a → hb.hp.get? a = none := fun a ha => by
      cases e : hb.hp.get? a with
      | none => rfl
      | some o => exact absurd (newL a o (hB.up a o e)) (Nat.not_lt.mpr ha)
    have hE : EnvOk (newEnv scope s.heap.objs.size mainGlobals (cellsFrom (s.heap.objs.size + 1) scope.names []) (qual ++ ".<locals>.") (some f) cdv none builtinsNs) scope := ⟨rfl, rfl, rfl, hk, cellkind _, hdb⟩
    have hI : Inv hb (newEnv scope s.heap.objs.size mainGlobals (cellsFrom (s.heap.objs.size + 1) scope.names []) (qual ++ ".<locals>.") (some f) cdv none builtinsNs) _ μ ρ τ s'.heap := {
      base := hB.grow keep
      ns := x.toInCall.ns
      cells := fun n c m => ⟨_, x.cell n c (memlk n c m)⟩
      apart := x.apart
      freshL := base0 _ (Nat.le_refl _)
      freshC := fun n c m => base0 c (Nat.le_of_lt (x.above n c m))
      vars := fun y q e => by
        obtain ⟨v, rv, h1, h2⟩ := RB.var (k := (newEnv scope s.heap.objs.size mainGlobals (cellsFrom (s.heap.objs.size + 1) scope.names []) (qual ++ ".<locals>.") (some f) cdv none builtinsNs).kindOf) (m := fun _ => none) (cm := fun _ => none) rb hnd e
        refine ⟨v, ?_, rv⟩
        have hy : y ∈ ρ.map (·.1) := List.mem_map_of_mem (f := (·.1)) (mem_of_lookup e)
        have := List.all_eq_true.mp hst y hy
        unfold Stores at this
        rcases Bool.or_eq_true_iff.mp this with q | q
        · exact .inl ⟨eq_of_beq q, h1 (eq_of_beq q)⟩
        · obtain ⟨c, hc⟩ := cellkind (s.heap.objs.size + 1) y (eq_of_beq q)
          have hcell := x.cell y c hc
          rw [h2 (by show scope.names.lookup y ≠ _; rw [eq_of_beq q]; simp)] at hcell
          exact .inr ⟨.inl (eq_of_beq q), c, hc, hcell⟩
      store := hS.grow keep }
    refine wpAny_mono (h _ _ _ s' ⟨hA.hd, by show A.depth + 1 + n < _; have := hA.depth; omega, by show A.units + 3 + 8 * n + 80 < _; have := hA.units; omega⟩ hE hI keep (fun a o e => ⟨Nat.ne_of_lt (newL a o e), fun n c m q => by
      have h1 := x.above n c m
      have h2 := newL a o e
      rw [q] at h2
      exact absurd h2 (Nat.not_lt.mpr (Nat.le_of_lt h1))⟩) (by rw [e₁]; exact ⟨rfl, rfl, rfl⟩)) (fun fl s'' hp => ?_) fun _ _ z => z.elim
    cases fl with
    | next => exact hp
    | brk => exact hp.elim
    | cont => exact hp.elim
    | ret v => exact hp

end
section
variable {w : World} {A : Around} {E : Value → Shared → Prop}
theorem no_ref {name : Str} {es : List DictEntry} (h : (getL name es).isSome = true) : aRefKeyMayBeTheName name es.toArray = false := by
  rw [aRefKeyMayBeTheName_at, List.any_toArray, List.any_toArray]
  unfold getL at h
  cases f : es.find? (·.key.isStr name) with
  | some e =>
    have y := List.find?_some f
    rw [List.any_eq_true.mpr ⟨e, List.mem_of_find?_eq_some f, y⟩]
    rfl
  | none =>
    cases r : es.any (·.refKey) with
    | false => simp
    | true => rw [f, r] at h; cases h

theorem put_few {s : Shared} {dx : Addr} {name : Str} {v : Value} {es : List DictEntry} {k : Nat} {Q : Unit → Shared → Prop} (hd : s.heap.get? dx = some (dictOf es k)) (hl : (getL name es).isSome = true)
    (q : ∀ h', Heap.SameBut dx s.heap h' → h'.get? dx = some (dictOf (putL name (PyData.keyHash w.params name) (.str name s.toks) v es) (putN name es k)) → Q () { s with heap := h', toks := s.toks + 1 }) :
    wpAny (model PR w) A (nsSet dx name v) Q E s := by
  have new := Heap.get?_update_self (h := s.heap) (Obj.putName name (PyData.keyHash w.params name) (.str name s.toks) v) hd (by rw [putName_dict]; rfl)
  rw [putName_dict] at new
  wp_walk using wpAny_askSetting, wpAny_mkText, wpAny_loadPart hd
  simp only [no_ref hl]
  wp_walk using wpAny_updatePart hd
  exact q _ (Heap.SameBut.update ..) new

theorem set_own {s : Shared} {x dx Ca : Addr} {name : Str} {v : Value} {es : List DictEntry} {k : Nat} {R : Unit → Shared → Prop} (X : (KK w).In s.heap) (hx : s.heap.get? x = some (instObj Ca dx)) (hd : s.heap.get? dx = some (dictOf es k))
    (hs : findIn (KK w) (.ref Ca) "__setattr__" = some (some (.builtin "object.__setattr__"))) (hp : plainOver (KK w) Ca = true) (ht : takerIn (KK w) Ca name = some none) (hh : hasDictIn (KK w) Ca = true) (hl : (getL name es).isSome = true)
    (hz : (putL name (PyData.keyHash w.params name) (.str name (s.toks + 1)) v es).length ≤ 1000)
    (h : ∀ h', Heap.SameBut dx s.heap h' → h'.get? dx = some (dictOf (putL name (PyData.keyHash w.params name) (.str name (s.toks + 1)) v es) (putN name es k)) → R () { s with heap := h', toks := s.toks + 2 }) :
    wpAny (model PR w) A (setAttr (.ref x) name v) R E s := by
  have I : InstAt s.heap x (instObj Ca dx) Ca (some (dictOf es k)) := ⟨hx, rfl, rfl, hd⟩
  refine set_plain X I hs (osa_open (s := { s with toks := s.toks + 1 }) X I hp ht fun b => ?_)
  obtain ⟨cd, hc, dd⟩ := any_some hh
  have look := fun Q E => Looks.here (M := model PR w) (A := A.in1) (Q := Q) (E := E) (s := { s with toks := s.toks + 1 }) (looks_clsIn X hc)
  have put := fun Q E => put_few (w := w) (v := v) (A := A.in1) (Q := Q) (E := E) (s := { s with toks := s.toks + 1 }) hd hl
  wp_walk using wpAny_loadPart hx, look, put
  exact fun h' sb new => wpAny_bind (wpAny_lookBehind new (pastItsLine_dict (by rw [List.size_toArray]; exact Nat.le_trans hz (by rw [sizeLine_eq]; decide))) (wpAny_pure (h h' sb new)))
end
end Mine
namespace Mine

section
variable {w : World} {hb : Bs} {n : Nat} {sc : Scope} {ρ : List (Str × PV)} {τ : St} {Q : PV → St → Prop} {C : Co} {env : Env}

theorem Inv.offDict {m : Str → Option Value} {μ : List Addr} {h h' : Heap} {dx : Addr} {es : List DictEntry} {k : Nat} (I : Inv hb env m μ ρ τ h) (ne : ∀ x p, ρ.lookup x = some p → noEll p = true) (hd : h.get? dx = some (dictOf es k)) (sb : Heap.SameBut dx h h')
    (nL : dx ≠ env.locals) (nb : hb.hp.get? dx = none) : Inv hb env m μ ρ τ h' := by
  have kk : ∀ a o, h.get? a = some o → a ≠ dx → h'.get? a = some o := fun a o e n => sb.extBut a o n e
  have fz : ∀ a o, h.get? a = some o → FrzN hb.hid a o → h'.get? a = some o := fun a o e f => kk a o e (by
    rintro rfl
    rw [hd] at e; cases e
    rcases f with ⟨c, _⟩ | ⟨c, _⟩ <;> simp at c)
  have st : StoreOk hb μ τ h' := I.store.keep fz fun a o e m => kk a o e (by
    rintro rfl
    obtain ⟨o', e', c, _⟩ := I.store.mem_list m
    rw [hd] at e'; cases e'; simp at c)
  refine ⟨⟨fun b o q => kk _ _ (I.base.up b o q) (by rintro rfl; rw [nb] at q; cases q), fun a q => let ⟨o, g, c, d⟩ := I.base.hid a q; ⟨o, kk _ _ g (by rintro rfl; rw [hd] at g; cases g; simp at c), c, d⟩, I.base.new⟩, ?_, ?_, I.apart, I.freshL, I.freshC, ?_, st⟩
  · obtain ⟨o, es, ep, ho, hd', r⟩ := I.ns
    exact ⟨o, es, ep, kk _ _ ho (Ne.symm nL), hd', r⟩
  · intro x c mm
    obtain ⟨v, o, g, d⟩ := I.cells x c mm
    exact ⟨v, o, kk _ _ g (by rintro rfl; rw [hd] at g; cases g; cases d), d⟩
  · intro x p q
    obtain ⟨v, hv, r⟩ := I.vars x p q
    refine ⟨v, ?_, Rep.monoN fz (List.prefix_refl _) _ _ (ne x p q) r⟩
    rcases hv with q | ⟨q, c, hc, o, g, d⟩
    · exact .inl q
    · exact .inr ⟨q, c, hc, o, kk _ _ g (by rintro rfl; rw [hd] at g; cases g; cases d), d⟩

structure Making (hb : Bs) (s : Shared) (env : Env) (x dx : Addr) (es : List DictEntry) (h : Heap) : Prop where
  inst : h.get? x = some (instObj ellC dx)
  dict : ∃ k, h.get? dx = some (dictOf es k)
  new : s.heap.get? dx = none
  newx : s.heap.get? x = none
  nb : hb.hp.get? dx = none
  nL : dx ≠ env.locals

theorem Making.step {s : Shared} {x dx : Addr} {es : List DictEntry} {μ μ' : List Addr} {τ' : St} {h h' : Heap} (M : Making hb s env x dx es h) (S : StoreOk hb μ τ h) (T : Stp hb μ h μ' τ' h') : Making hb s env x dx es h' := by
  obtain ⟨k, hd⟩ := M.dict
  exact ⟨T.ext _ _ M.inst (S.not_memD M.inst (by intro _ _ e; cases e)), ⟨k, T.ext _ _ hd (S.not_memD hd (by intro _ _ e; cases e))⟩, M.new, M.newx, M.nb, M.nL⟩

structure EllK (w : World) : Prop where
  set : findIn (KK w) (.ref ellC) "__setattr__" = some (some (.builtin "object.__setattr__"))
  plain : plainOver (KK w) ellC = true
  dict : hasDictIn (KK w) ellC = true

theorem init_store {A : Around} {m : Str → Option Value} {μ μ₀ : List Addr} {s s₀ : Shared} {x dx : Addr} {es : List DictEntry} {attr : Str} {np pos' pos : Pos} {value : Expr} {Qv : Int → St → Prop} {R : Flow → Shared → Prop} (E : EllK w) (ht : takerIn (KK w) ellC attr = some none)
    (H : HB w hb) (hA : AOk n A) (hE : EnvOk env sc) (hI : Inv hb env m μ ρ τ s.heap) (ne : ∀ x p, ρ.lookup x = some p → noEll p = true) (hself : ρ.lookup ("self" : Str) = some (.raw x)) (T₀ : Stp hb μ₀ s₀.heap μ τ s.heap) (e₀ : Same s₀ s) (M : Making hb s₀ env x dx es s.heap)
    (hl : (getL attr es).isSome = true) (hz : ∀ tk v, (putL attr (PyData.keyHash w.params attr) (.str attr tk) v es).length ≤ 1000)
    (hs : ∀ env : Env, swapsWith value (some (.Attribute (.Name "self" np) attr pos')) pos.line env = pure false)
    (h : EV w hb n sc value ρ τ fun p τ₁ => ∃ i, p = .int i ∧ Qv i τ₁)
    (k : ∀ s' μ' τ' i t tk, Inv hb env m μ' ρ τ' s'.heap → Stp hb μ₀ s₀.heap μ' τ' s'.heap → Same s₀ s' → Making hb s₀ env x dx (putL attr (PyData.keyHash w.params attr) (.str attr tk) (.int i t) es) s'.heap → Qv i τ' → R .next s') :
    wpAny (model PR w) A (exec (.Assign [.Attribute (.Name "self" np) attr pos'] value pos) env) R NoE s := by
  refine plainObj_wpAny_Assign_Attribute (h.bind1 H hA hE hI fun v s₁ μ₁ τ₁ p T₁ e₁ I₁ r₁ q₁ => ?_) (hs env)
  obtain ⟨i, rfl, q⟩ := q₁
  simp only [Rep] at r₁
  obtain ⟨t, rfl⟩ := r₁
  have M₁ := M.step hI.store T₁
  refine (EV_var (Q := fun p τ' => p = .raw x ∧ τ' = τ₁) hself ⟨rfl, rfl⟩).bind1 H hA hE I₁ fun u s₂ μ₂ τ₂ p T₂ e₂ I₂ r₂ q₂ => ?_
  obtain ⟨rfl, rfl⟩ := q₂
  simp only [Rep] at r₂
  subst r₂
  have M₂ := M₁.step I₁.store T₂
  obtain ⟨kk, hd⟩ := M₂.dict
  refine set_own (H.kin.keeps I₂.base.up) M₂.inst hd E.set E.plain ht E.dict hl (hz _ _) fun h' sb hd' => ?_
  have I₃ : Inv hb env m μ₂ ρ τ₂ h' := I₂.offDict ne hd sb M₂.nL M₂.nb
  have T₃ : Stp hb μ₀ s₀.heap μ₂ τ₂ h' := ((T₀.trans T₁).trans T₂).only (SameBut.only sb) M₂.new I₃.store
  refine k _ μ₂ τ₂ i t _ I₃ T₃ ((e₀.trans e₁).trans (e₂.trans ⟨rfl, rfl, rfl⟩)) ⟨sb.extBut _ _ ?_ M₂.inst, ⟨_, hd'⟩, M₂.new, M₂.newx, M₂.nb, M₂.nL⟩ q
  rintro rfl
  have := M₂.inst
  rw [hd] at this; cases this

theorem CL_Ell {turn : PV} {a b : Int} {name qual : Str} {params : Arguments} {st1 : Stmt} {e1 e2 e3 e4 : Expr} {q1 q2 q3 q4 q5 q6 q7 q8 q9 q10 q11 q12 : Pos} {scope : Scope} {dV kV doc pm cdv ct oc : Value} {an od : Option Addr} {osl : Array (Option Value)}
    (E : EllK w) (hm : makesIn (KK w) ellC = true) (hi : findIn (KK w) (.ref ellC) "__init__" = some (some (.ref 218))) (hf : typeIn (KK w) (.ref 218) = some (.type "function"))
    (t1 : takerIn (KK w) ellC "rx" = some none) (t2 : takerIn (KK w) ellC "ry" = some none) (t3 : takerIn (KK w) ellC "cosine" = some none) (t4 : takerIn (KK w) ellC "sine" = some none)
    (ho : (KK w).lookup 218 = some ⟨oc, od, .func (fnOf name qual params [st1, .Assign [.Attribute (.Name "self" q1) "rx" q2] e1 q3, .Assign [.Attribute (.Name "self" q4) "ry" q5] e2 q6, .Assign [.Attribute (.Name "self" q7) "cosine" q8] e3 q9, .Assign [.Attribute (.Name "self" q10) "sine" q11] e4 q12] scope dV kV doc pm an cdv ct), osl⟩) (hcd : codeIn (KK w) cdv qual = true)
    (hbind : ∀ (s : Shared) (v0 v1 v2 v3 : Value), BindsTo s (fnOf name qual params [st1, .Assign [.Attribute (.Name "self" q1) "rx" q2] e1 q3, .Assign [.Attribute (.Name "self" q4) "ry" q5] e2 q6, .Assign [.Attribute (.Name "self" q7) "cosine" q8] e3 q9, .Assign [.Attribute (.Name "self" q10) "sine" q11] e4 q12] scope dV kV doc pm an cdv ct) ⟨[v0, v1, v2, v3], []⟩
      [("self", v0), ("rx", v1), ("ry", v2), ("turn", v3)])
    (hst : (([("self" : Str), "rx", "ry", "turn"]).all (Stores scope)) = true) (hcn : ((cellsFrom 0 scope.names []).map (·.1)).Nodup)
    (hcs : ∀ L, (scope.names.all fun x => x.2 != .cell || ((cellsFrom L scope.names []).lookup x.1).isSome) = true)
    (s1 : ∀ env : Env, swapsWith e1 (some (.Attribute (.Name "self" q1) "rx" q2)) q3.line env = pure false) (s2 : ∀ env : Env, swapsWith e2 (some (.Attribute (.Name "self" q4) "ry" q5)) q6.line env = pure false)
    (s3 : ∀ env : Env, swapsWith e3 (some (.Attribute (.Name "self" q7) "cosine" q8)) q9.line env = pure false) (s4 : ∀ env : Env, swapsWith e4 (some (.Attribute (.Name "self" q10) "sine" q11)) q12.line env = pure false)
    (h : ∀ x, EX w hb n scope st1 [("self", .raw x), ("rx", .int a), ("ry", .int b), ("turn", turn)] τ ⟨fun ρ' τ' => (∀ y p, ρ'.lookup y = some p → noEll p = true) ∧ ρ'.lookup ("self" : Str) = some (.raw x) ∧
      EV w hb n scope e1 ρ' τ' fun p τ₁ => ∃ i, p = .int i ∧ EV w hb n scope e2 ρ' τ₁ fun p τ₂ => ∃ j, p = .int j ∧ EV w hb n scope e3 ρ' τ₂ fun p τ₃ => ∃ c, p = .int c ∧ EV w hb n scope e4 ρ' τ₃ fun p τ₄ => ∃ d, p = .int d ∧ Q (.ell i j c d) τ₄, fun _ _ => False, fun _ _ => False⟩)
    (hdb : scope.names.lookup ("__debug__" : Str) = none) (hco : scope.isCoroutine = false) (hgen : scope.isGenerator = false) (hk : scope.kind = .function) : CL w hb (n + 2) (.ref ellC) [.int a, .int b, turn] τ Q := by
  intro H A L μ s vs hA hB hL hS rs
  obtain ⟨v1, _, rfl, r1, rs⟩ := RepL.tail rs
  obtain ⟨v2, _, rfl, r2, rs⟩ := RepL.tail rs
  obtain ⟨v3, _, rfl, r3, rs⟩ := RepL.tail rs
  simp only [RepL] at rs
  subst rs
  have X : (KK w).In s.heap := H.kin.keeps hB.up
  refine wpAny_call ?_
  obtain ⟨hp, g, d, tk, os⟩ := s
  refine make_core (makes_of X hm) (looks_findIn X hi) (fun self => bind_fn X self hf) (.inl rfl) ?_
  have k1 : ∀ c o, hp.get? c = some o → ((hp.push emptyDict).push (instObj ellC hp.objs.size)).get? c = some o := fun c o e => Heap.get?_push_of_some _ (Heap.get?_push_of_some _ e)
  have hx : ((hp.push emptyDict).push (instObj ellC hp.objs.size)).get? (hp.objs.size + 1) = some (instObj ellC hp.objs.size) := by
    have := Heap.get?_push_size (hp.push emptyDict) (o := instObj ellC hp.objs.size) rfl
    rwa [Heap.size_push] at this
  have hdx : ((hp.push emptyDict).push (instObj ellC hp.objs.size)).get? hp.objs.size = some (dictOf [] 0) := Heap.get?_push_of_some _ (Heap.get?_push_size _ rfl)
  have hw : (Code.builtin "type.__call__" ⟨Value.ref ellC :: [v1, v2, v3], []⟩).weight = 1 := by rfl
  have hu : (Code.builtin "type.__call__" ⟨Value.ref ellC :: [v1, v2, v3], []⟩).cUnits = 1 := by rfl
  have hA' : AOk (n + 1) (A.under (.builtin "type.__call__" ⟨Value.ref ellC :: [v1, v2, v3], []⟩)) := ⟨hA.hd, by show A.depth + _ + (n + 1) < _; rw [hw]; have := hA.depth; omega, by show A.units + _ + 8 * (n + 1) + 80 < _; rw [hu]; have := hA.units; omega⟩
  refine code_fn (s := ⟨(hp.push emptyDict).push (instObj ellC hp.objs.size), g, d, tk, os⟩) (L := L) (μ := μ) (τ := τ) (ρ := [("self", .raw (hp.objs.size + 1)), ("rx", .int a), ("ry", .int b), ("turn", turn)]) H hA' (hB.grow k1) (hS.grow k1) ho hcd (hbind _ _ _ _ _) ?_ (by simpa using hst) (by show ([("self" : Str), "rx", "ry", "turn"]).Nodup; decide +kernel) hcn hcs ?_ hdb hco hgen hk
  · simp only [RB]
    exact ⟨_, _, rfl, rfl, _, _, rfl, Rep.mono (fun c o e _ => k1 c o e) (List.prefix_refl _) _ _ r1, _, _, rfl, Rep.mono (fun c o e _ => k1 c o e) (List.prefix_refl _) _ _ r2, _, _, rfl, Rep.mono (fun c o e _ => k1 c o e) (List.prefix_refl _) _ _ r3, rfl⟩
  · intro A' env' m' s' hA2 hE' hI' keep apart sm
    have M0 : Making hb ⟨hp, g, d, tk, os⟩ env' (hp.objs.size + 1) hp.objs.size [] s'.heap := ⟨keep _ _ hx, ⟨0, keep _ _ hdx⟩, fresh_size _, none_ge (Nat.le_succ _), hB.noneOf (fresh_size _), (apart _ _ hdx).1⟩
    refine wpAny_execs_cons (wpAny_mono (h _ H A' env' m' μ s' hA2 hE' hI') (fun fl s₁ hp₁ => ?_) fun _ _ x => x)
    obtain ⟨μ₁, τ₁, U, e₁, r⟩ := hp₁
    cases fl with
    | brk => obtain ⟨_, _, _, q⟩ := r; exact q.elim
    | cont => exact r.elim
    | ret v => obtain ⟨_, _, _, q⟩ := r; exact q.elim
    | next =>
      obtain ⟨m₁, ρ₁, I₁, ne, hself, q⟩ := r
      have kall : ∀ c o, hp.get? c = some o → s'.heap.get? c = some o := fun c o e => keep _ _ (k1 c o e)
      have T₁ : Stp hb μ hp μ₁ τ₁ s₁.heap := {
        ext := fun c o e nm => U.ext c o (kall c o e) nm (apart _ _ (k1 c o e)).1 (fun x y m q => (apart _ _ (k1 c o e)).2 x y m q)
        pre := U.pre
        fresh := fun c m => (U.fresh c m).imp id fun q => by
          cases e : hp.get? c with
          | none => rfl
          | some o => rw [kall c o e] at q; cases q
        store := U.store }
      have eU : Same (⟨hp, g, d, tk, os⟩ : Shared) s₁ := Same.trans (b := s') (show Same (⟨hp, g, d, tk, os⟩ : Shared) s' from ⟨sm.1, sm.2.1, sm.2.2⟩) e₁
      have M₁ : Making hb ⟨hp, g, d, tk, os⟩ env' (hp.objs.size + 1) hp.objs.size [] s₁.heap := by
        obtain ⟨kk, hd0⟩ := M0.dict
        refine ⟨U.ext _ _ M0.inst (hI'.store.not_memD M0.inst (by intro _ _ e; cases e)) (apart _ _ hx).1 (apart _ _ hx).2, ⟨kk, U.ext _ _ hd0 (hI'.store.not_memD hd0 (by intro _ _ e; cases e)) (apart _ _ hdx).1 (apart _ _ hdx).2⟩, M0.new, M0.newx, M0.nb, M0.nL⟩
      refine wpAny_execs_cons (init_store (s₀ := ⟨hp, g, d, tk, os⟩) E t1 H hA2 hE' I₁ ne hself T₁ eU M₁ rfl (fun _ _ => Nat.le_of_ble_eq_true rfl) s1 q fun s₂ μ₂ τ₂ i ti k₁ I₂ T₂ e₂ M₂ q₂ => ?_)
      refine wpAny_execs_cons (init_store (s₀ := ⟨hp, g, d, tk, os⟩) E t2 H hA2 hE' I₂ ne hself T₂ e₂ M₂ rfl (fun _ _ => Nat.le_of_ble_eq_true rfl) s2 q₂ fun s₃ μ₃ τ₃ j tj k₂ I₃ T₃ e₃ M₃ q₃ => ?_)
      refine wpAny_execs_cons (init_store (s₀ := ⟨hp, g, d, tk, os⟩) E t3 H hA2 hE' I₃ ne hself T₃ e₃ M₃ rfl (fun _ _ => Nat.le_of_ble_eq_true rfl) s3 q₃ fun s₄ μ₄ τ₄ cc tc k₃ I₄ T₄ e₄ M₄ q₄ => ?_)
      refine wpAny_execs_cons (init_store (s₀ := ⟨hp, g, d, tk, os⟩) E t4 H hA2 hE' I₄ ne hself T₄ e₄ M₄ rfl (fun _ _ => Nat.le_of_ble_eq_true rfl) s4 q₄ fun s₅ μ₅ τ₅ dd td k₄ I₅ T₅ e₅ M₅ q₅ => ?_)
      refine wpAny_execs_nil ?_
      obtain ⟨kk, hd5⟩ := M₅.dict
      refine ⟨rfl, μ₅, τ₅, .ell i j cc dd, T₅, ?_, e₅, q₅⟩
      simp only [Rep]
      refine ⟨_, rfl, hp.objs.size, _, kk, ti, tj, tc, td, ?_, M₅.inst, hd5, rfl, rfl, rfl, rfl, rfl, rfl⟩
      rintro rfl
      obtain ⟨o, e⟩ := hL
      rw [show (⟨hp, g, d, tk, os⟩ : Shared).heap = hp from rfl, fresh_size] at e; cases e
end
end Mine
namespace Mine

theorem CL.lift {w : World} {hb : Bs} {n m : Nat} {f : Value} {ps : List PV} {τ : St} {Q : PV → St → Prop} (h : CL w hb m f ps τ Q) (l : m ≤ n) : CL w hb n f ps τ Q := fun H A L μ s vs hA => h H A L μ s vs (hA.le l)
theorem CL.up {w : World} {hb : Bs} {n m : Nat} {f : Value} {ps : List PV} {τ : St} {Q : PV → St → Prop} (l : m + 1 ≤ n) (h : ∀ k, m ≤ k → CL w hb (k + 1) f ps τ Q) : CL w hb n f ps τ Q := by
  obtain ⟨k, rfl⟩ : ∃ k, n = k + 1 := ⟨n - 1, by omega⟩
  exact h k (by omega)
section
variable {w : World} {hb : Bs} {n : Nat} {sc : Scope} {ρ : List (Str × PV)} {τ : St} {Q : PV → St → Prop} {C : Co} {env : Env}
theorem EX_AssignW2 {elts : List Expr} {xs : List Str} {k : Nat} {tpos pos : Pos} {value : Expr} (hn : namesOf elts = some xs) (hx : (xs.all (Stores sc)) = true)
    (hs : ∀ env : Env, swapsWithSole [.Tuple elts k tpos] value pos.line env = pure false) (hw : ∀ env : Env, env.scope = sc → swappedStores [.Tuple elts k tpos] value env = pure (some xs))
    (h : EV w hb n sc value ρ τ fun p τ₁ => ∃ ps, p = .tup ps ∧ xs.length = ps.length ∧ C.nx (binds xs.reverse ps.reverse ρ) τ₁) : EX w hb n sc (.Assign [.Tuple elts k tpos] value pos) ρ τ C := let _ := hn; EX_AssignW hx hs hw h
theorem CL.imp {f : Value} {ps : List PV} {Q Q' : PV → St → Prop} (h : CL w hb n f ps τ Q') (k : ∀ p τ', Q' p τ' → Q p τ') : CL w hb n f ps τ Q := by
  intro H A L μ s vs hA hB hL S rs
  refine wpAny_mono (h H A L μ s vs hA hB hL S rs) (fun v s' hp => ?_) fun _ _ x => x
  obtain ⟨μ', τ', p, T, r, e, q⟩ := hp
  exact ⟨μ', τ', p, T, r, e, k _ _ q⟩
theorem EV_IfExpI {t a b : Expr} {pos : Pos} {x y : Int} {c : Bool} (ht : ET w hb n sc t ρ τ fun c' τ' => c' = c ∧ τ' = τ) (ha : EV w hb n sc a ρ τ fun p τ' => p = .int x ∧ τ' = τ) (hb' : EV w hb n sc b ρ τ fun p τ' => p = .int y ∧ τ' = τ)
    (q : Q (.int (if c = true then x else y)) τ) : EV w hb n sc (.IfExp t a b pos) ρ τ Q := by
  refine EV_IfExp ?_
  intro H A env m μ s hA hE hI
  refine wpAny_mono (ht H A env m μ s hA hE hI) (fun d s' hp => ?_) fun _ _ z => z
  obtain ⟨μ', τ', T, e, rfl, rfl⟩ := hp
  refine ⟨μ', _, T, e, fun h => ?_, fun h => ?_⟩
  · rw [if_pos h] at q
    exact ha.imp fun p τ2 ⟨h1, h2⟩ => by rw [h1, h2]; exact q
  · rw [if_neg (by rw [h]; decide)] at q
    exact hb'.imp fun p τ2 ⟨h1, h2⟩ => by rw [h1, h2]; exact q
theorem EX_WhileN {t : Expr} {body : List Stmt} {pos : Pos} (I : Nat → List (Str × PV) → St → Prop) (k0 : Nat) (h0 : I k0 ρ τ)
    (turn : ∀ k ρ₁ τ₁, I k ρ₁ τ₁ → ET w hb n sc t ρ₁ τ₁ fun b τ₂ => (b = true → ES w hb n sc body ρ₁ τ₂ ⟨fun ρ₃ τ₃ => ∃ k', k' < k ∧ I k' ρ₃ τ₃, C.rt, C.nx⟩) ∧ (b = false → C.nx ρ₁ τ₂)) :
    EX w hb n sc (.While t body [] pos) ρ τ C := by
  intro H A env m μ s hA hE hI
  refine wpAny_While ?_
  refine codeAny_whileLoop (fun k s' => ∃ m' μ' ρ' τ', Inv hb env m' μ' ρ' τ' s'.heap ∧ StpS hb env μ s.heap μ' τ' s'.heap ∧ Same s s' ∧ I k ρ' τ') ?_ k0 ⟨m, μ, ρ, τ, hI, StpS.refl hI.store, Same.refl s, h0⟩
  rintro k s' ⟨m', μ', ρ', τ', I', T', e', hI'⟩
  refine wpAny_mono (turn k ρ' τ' hI' H A env m' μ' s' hA hE I') (fun b s₁ hp => ?_) noted
  obtain ⟨μ₁, τ₁, T₁, e₁, q⟩ := hp
  have I₁ := I'.step T₁
  have T₀ := T'.then I' T₁.toS
  cases b
  · simp only [Bool.false_eq_true, if_false]
    exact wpAny_execs_nil ⟨μ₁, τ₁, T₀, e'.trans e₁, m', ρ', I₁, q.2 rfl⟩
  · simp only [if_true]
    refine wpAny_mono (q.1 rfl H A env m' μ₁ s₁ hA hE I₁) (fun f s₂ hp => ?_) noted
    obtain ⟨μ₂, τ₂, T₂, e₂, r⟩ := hp
    have T₀₂ := T₀.then I₁ T₂
    cases f with
    | next =>
      obtain ⟨m'', ρ'', I'', k', q1, q2⟩ := r
      exact ⟨k', q1, m'', μ₂, ρ'', τ₂, I'', T₀₂, (e'.trans e₁).trans e₂, q2⟩
    | cont => exact r.elim
    | brk => exact ⟨μ₂, τ₂, T₀₂, (e'.trans e₁).trans e₂, r⟩
    | ret v => exact ⟨μ₂, τ₂, T₀₂, (e'.trans e₁).trans e₂, r⟩
theorem ForI.inv {target : Expr} {body : List Stmt} {K : St → Prop} (I : List PV → List (Str × PV) → St → Prop) (hK : ∀ ps ρ τ, I ps ρ τ → K τ)
    (hx : ∀ p ps ρ τ, I (p :: ps) ρ τ → ∃ ρ₁, bindT target p ρ = some ρ₁ ∧ ES w hb n sc body ρ₁ τ ⟨fun ρ' τ' => I ps ρ' τ', C.rt, C.nx⟩) (h0 : ∀ ρ τ, I [] ρ τ → C.nx ρ τ) :
    ∀ ps ρ τ, I ps ρ τ → ForI w hb n sc target body K ps ρ τ C
  | [], ρ, τ, h => ⟨hK _ _ _ h, h0 _ _ h⟩
  | p :: ps, ρ, τ, h => by
    obtain ⟨ρ₁, hb', hes⟩ := hx p ps ρ τ h
    refine ⟨hK _ _ _ h, ρ₁, hb', ?_⟩
    intro H A env m μ s hA hE hI
    refine wpAny_mono (hes H A env m μ s hA hE hI) (fun f s' hp => ?_) fun _ _ x => x
    obtain ⟨μ', τ', T, e, r⟩ := hp
    refine ⟨μ', τ', T, e, ?_⟩
    cases f with
    | next =>
      obtain ⟨m', ρ', I', q⟩ := r
      exact ⟨m', ρ', I', ForI.inv I hK hx h0 ps ρ' τ' q⟩
    | brk => exact r
    | cont => exact r
    | ret v => exact r
end
section
variable {w : World} {hb : Bs} {n : Nat} {sc : Scope} {ρ : List (Str × PV)} {τ : St}
theorem ET.imp {e : Expr} {Q Q' : Bool → St → Prop} (h : ET w hb n sc e ρ τ Q') (k : ∀ b τ', Q' b τ' → Q b τ') : ET w hb n sc e ρ τ Q := by
  intro H A env m μ s hA hE hI
  refine wpAny_mono (h H A env m μ s hA hE hI) (fun b s' hp => ?_) fun _ _ x => x
  obtain ⟨μ', τ', T, e, q⟩ := hp
  exact ⟨μ', τ', T, e, k _ _ q⟩
theorem ETs.imp {ifs : List Expr} {Q Q' : Bool → St → Prop} (h : ETs w hb n sc ifs ρ τ Q') (k : ∀ b τ', Q' b τ' → Q b τ') : ETs w hb n sc ifs ρ τ Q := by
  match ifs, h with
  | [], h => exact k _ _ h
  | [c], h => exact ET.imp h k
theorem CompI.inv {target elt : Expr} {ifs : List Expr} {K : St → Prop} {Q : List PV → St → Prop} (I : List PV → List PV → List (Str × PV) → St → Prop) (hK : ∀ ps ys ρ τ, I ps ys ρ τ → K τ)
    (hx : ∀ p ps ys ρ τ, I (p :: ps) ys ρ τ → ∃ ρ₁, bindT target p ρ = some ρ₁ ∧ ETs w hb n sc ifs ρ₁ τ fun b τ₁ =>
      (b = true → EV w hb n sc elt ρ₁ τ₁ fun y τ₂ => noEll y = true ∧ I ps (ys ++ [y]) ρ₁ τ₂) ∧ (b = false → I ps ys ρ₁ τ₁))
    (h0 : ∀ ys ρ τ, I [] ys ρ τ → Q ys τ) : ∀ ps ys ρ τ, I ps ys ρ τ → CompI w hb n sc target ifs elt K ps ys ρ τ Q
  | [], ys, ρ, τ, h => ⟨hK _ _ _ _ h, h0 _ _ _ h⟩
  | p :: ps, ys, ρ, τ, h => by
    obtain ⟨ρ₁, hb', hes⟩ := hx p ps ys ρ τ h
    refine ⟨hK _ _ _ _ h, ρ₁, hb', hes.imp fun b τ₁ q => ⟨fun e => (q.1 e).imp fun y τ₂ z => ⟨z.1, ?_⟩, fun e => ?_⟩⟩
    · exact CompI.inv I hK hx h0 ps _ ρ₁ τ₂ z.2
    · exact CompI.inv I hK hx h0 ps _ ρ₁ τ₁ (q.2 e)
end
theorem bb_abs : bootBuiltins ("abs" : Str) = some (.builtin "abs") := by kernel_rfl
theorem bn_abs : ("abs" : Str) ≠ "__name__" := by decide +kernel
theorem bb_max : bootBuiltins ("max" : Str) = some (.builtin "max") := by kernel_rfl
theorem bn_max : ("max" : Str) ≠ "__name__" := by decide +kernel
theorem bb_min : bootBuiltins ("min" : Str) = some (.builtin "min") := by kernel_rfl
theorem bn_min : ("min" : Str) ≠ "__name__" := by decide +kernel
theorem bb_len : bootBuiltins ("len" : Str) = some (.builtin "len") := by kernel_rfl
theorem bn_len : ("len" : Str) ≠ "__name__" := by decide +kernel
theorem bb_range : bootBuiltins ("range" : Str) = some (.type "range") := by kernel_rfl
theorem bn_range : ("range" : Str) ≠ "__name__" := by decide +kernel
theorem bb_int : bootBuiltins ("int" : Str) = some (.type "int") := by kernel_rfl
theorem bn_int : ("int" : Str) ≠ "__name__" := by decide +kernel
theorem bb_bool : bootBuiltins ("bool" : Str) = some (.type "bool") := by kernel_rfl
theorem bn_bool : ("bool" : Str) ≠ "__name__" := by decide +kernel
theorem bb_tuple : bootBuiltins ("tuple" : Str) = some (.type "tuple") := by kernel_rfl
theorem bn_tuple : ("tuple" : Str) ≠ "__name__" := by decide +kernel
theorem bb_zip : bootBuiltins ("zip" : Str) = some (.type "zip") := by kernel_rfl
theorem bn_zip : ("zip" : Str) ≠ "__name__" := by decide +kernel
end Mine
namespace Mine
/- It proves nothing. It lets the library read this program's objects once, so that its k_is finds them below. -/
theorem warm : True := by
  first
    | (have h : PySem.Challenge.rw_pf0194_01.Holds := Mine.hd (by w_strict (k_fill); fail "kept")
       trivial)
    | trivial
local macro_rules | `(tactic| walk_at "bd") => `(tactic| first | exact BindsTo.of_eq rfl | exact binds_K (by assumption) rfl (by (show List.lookup _ (hd.heap_39 _) = _; k_is)) rfl rfl rfl)
local macro_rules | `(tactic| walk_at "enter") => `(tactic| (
  refine' CL_def ?ho ?hcd ?hb ?hl ?hst ?hnd ?hcn ?hcs ?h ?hdb ?hco ?hgen ?hk;
  (case ho => (show List.lookup _ (hd.heap_39 _) = _; k_is));
  (case hcd => (show codeIn (hd.heap_39 _) _ _ = _; k_is));
  (case hb => (intro s vs hX hl; first | (obtain ⟨v1, h9⟩ := len1 hl; subst h9; walk_at "bd") | (obtain ⟨v1, v2, h9⟩ := len2 hl; subst h9; walk_at "bd") | (obtain ⟨v1, v2, v3, h9⟩ := len3 hl; subst h9; walk_at "bd") | (obtain ⟨v1, v2, v3, v4, h9⟩ := len4 hl; subst h9; walk_at "bd") | (obtain ⟨v1, v2, v3, v4, v5, v6, v7, h9⟩ := len7 hl; subst h9; walk_at "bd") | (have h9 := List.eq_nil_of_length_eq_zero hl; subst h9; walk_at "bd")));
  (case hl => rfl); (case hst => decide +kernel); (case hnd => decide +kernel); (case hcn => decide +kernel); (case hcs => (intro L; rfl)); (case hdb => decide +kernel); (case hco => rfl); (case hgen => rfl); (case hk => rfl);
  dsimp only [List.map, List.zip, List.zipWith]))
local macro_rules | `(tactic| walk_at "gk") => `(tactic| first | (show nsIn (hd.heap_39 _) _ _ = _; k_is) | (show keepIn (hd.heap_39 _) _ = _; k_is))
local macro_rules | `(tactic| walk_at "sm") => `(tactic| first | with_reducible assumption | (simp only [MulOk, Sm] at *; omega) | omega)
local macro_rules | `(tactic| walk_at "lst") => `(tactic| first | exact rfl | (simp; done) | (simp; omega))
local macro_rules | `(tactic| walk_at "cl") => `(tactic| fail "no contract")
local macro_rules | `(tactic| walk_at "clb") => `(tactic| first
  | with_reducible refine' CL_abs ?_
  | with_reducible refine' CL_max ?_
  | with_reducible refine' CL_min ?_
  | with_reducible refine' CL_intb ?_
  | with_reducible refine' CL_boolb ?_
  | with_reducible refine' CL_range ?_
  | ((with_reducible refine' CL_lenT ?a ?_); (case a => exact Nat.le_of_ble_eq_true rfl)))
local macro_rules | `(tactic| walk_at "ex1") => `(tactic| first
  | with_reducible refine' ES_cons ?_
  | with_reducible refine' ES_nil ?_
  | with_reducible refine' EX_Return ?_
  | with_reducible refine' EX_If ?_
  | ((with_reducible refine' EX_AssignComp ?a ?b ?c ?d ?e ?f ?_); (case a => exact rfl); (case b => decide +kernel); (case c => exact rfl); (case d => exact rfl); (case e => exact fun _ _ => rfl); (case f => (intro env he; unfold swapsWith; simp only [Env.blockKind, Env.kindOf, he]; exact rfl)))
  | ((with_reducible refine' EX_Assign ?a ?b ?_); (case a => exact rfl); (case b => exact fun _ => rfl))
  | ((with_reducible refine' EX_AssignT ?a ?b ?c ?d ?_); (case a => exact rfl); (case b => exact rfl); (case c => exact fun _ => rfl); (case d => (intro env he; first | exact rfl | (unfold swappedStores; simp only [Env.blockKind, Env.kindOf, he]; rfl))))
  | ((with_reducible refine' EX_AssignW2 ?a ?b ?c ?d ?_); (case a => exact rfl); (case d => (intro env he; (unfold swappedStores; simp only [Env.blockKind, Env.kindOf, he]; exact rfl))); (case b => exact rfl); (case c => exact fun _ => rfl))
  | ((with_reducible refine' EX_Aug ?a ?b ?_); (case a => exact rfl); (case b => first | with_reducible assumption | exact rfl | assumption))
  | ((with_reducible refine' EX_SetItem ?a ?_); (case a => exact fun _ => rfl))
  | ((with_reducible refine' EX_Expr ?a ?_); (case a => exact fun _ => rfl))
  | with_reducible refine' EX_Break ?_
  | ((with_reducible refine' EX_For ?a ?b ?_); (case a => exact rfl); (case b => exact fun _ _ => rfl)))
local macro_rules | `(tactic| walk_at "ev1") => `(tactic| first
  | ((with_reducible refine' EV_var ?e ?_); (case e => first | with_reducible assumption | exact rfl | assumption))
  | with_reducible refine' EV_int ?_
  | with_reducible refine' EV_BinOp ?_
  | ((with_reducible refine' EV_Comp ?a ?b ?c ?d ?_); (case a => decide +kernel); (case b => exact rfl); (case c => exact rfl); (case d => exact fun _ _ => rfl))
  | with_reducible refine' EV_Sub ?_
  | with_reducible refine' EV_bool ?_
  | ((with_reducible refine' EV_Compare ?a ?_); (case a => exact rfl))
  | with_reducible refine' EV_UnaryOp ?_
  | with_reducible refine' EV_Tuple ?_
  | with_reducible refine' EV_List ?_
  | ((with_reducible refine' EV_IfExpI (a := Expr.Constant (Const.int _) _ _) ?mt ?mu ?mv ?_); (case mt => (walk_at "go"; exact ⟨rfl, rfl⟩)); (case mu => (walk_at "go"; exact ⟨rfl, rfl⟩)); (case mv => (walk_at "go"; exact ⟨rfl, rfl⟩)))
  | with_reducible refine' EV_IfExp ?_
  | with_reducible refine' EV_And ?_
  | ((with_reducible refine' EV_Call ?a ?b ?c ?_); (case a => exact rfl); (case b => (constructor <;> walk_at "gk")); (case c => exact rfl))
  | ((with_reducible refine' EV_Call0 ?a ?b ?_); (case a => exact rfl); (case b => (constructor <;> walk_at "gk")))
  | ((first
    | with_reducible refine' EV_CallB (f := "abs") (id := "abs") ?a ?b bb_abs bn_abs ?e ?_
    | with_reducible refine' EV_CallB (f := "max") (id := "max") ?a ?b bb_max bn_max ?e ?_
    | with_reducible refine' EV_CallB (f := "min") (id := "min") ?a ?b bb_min bn_min ?e ?_
    | with_reducible refine' EV_CallB (f := "len") (id := "len") ?a ?b bb_len bn_len ?e ?_
    | with_reducible refine' EV_CallT (f := "range") (T := "range") ?a ?b bb_range bn_range ?e ?_
    | with_reducible refine' EV_CallT (f := "int") (T := "int") ?a ?b bb_int bn_int ?e ?_
    | with_reducible refine' EV_CallT (f := "bool") (T := "bool") ?a ?b bb_bool bn_bool ?e ?_
    | with_reducible refine' EV_CallT (f := "tuple") (T := "tuple") ?a ?b bb_tuple bn_tuple ?e ?_); (case a => exact rfl); (case b => walk_at "gk"); (case e => exact rfl))
  | ((with_reducible refine' EV_Meth (f := 225) ?ma ?mb ?mc ?md ?mn ?mo ?mp ?_); (case mn => exact Or.inl rfl); (case mo => exact rfl); (case mp => exact fun _ => rfl); (case ma => (show plainGet (hd.heap_39 _) _ _ = _; k_is)); (case mb => (show findIn (hd.heap_39 _) _ _ = _; k_is)); (case mc => (show isFn (hd.heap_39 _) _ = _; k_is)); (case md => (show keepIn (hd.heap_39 _) _ = _; k_is)))
  | ((with_reducible refine' EV_Meth (f := 232) ?ma ?mb ?mc ?md ?mn ?mo ?mp ?_); (case mn => exact Or.inr rfl); (case mo => exact rfl); (case mp => exact fun _ => rfl); (case ma => (show plainGet (hd.heap_39 _) _ _ = _; k_is)); (case mb => (show findIn (hd.heap_39 _) _ _ = _; k_is)); (case mc => (show isFn (hd.heap_39 _) _ = _; k_is)); (case md => (show keepIn (hd.heap_39 _) _ = _; k_is)))
  | ((with_reducible refine' EV_Attr ?a ?b ?c ?_); (case a => (show plainGet (hd.heap_39 _) _ _ = _; k_is)); (case b => (show hasDictIn (hd.heap_39 _) _ = _; k_is)); (case c => (show findIn (hd.heap_39 _) _ _ = _; k_is)))
  | ((with_reducible refine' EV_gint ?a ?b ?_); (case a => exact rfl); (case b => walk_at "gk"))
  | ((with_reducible refine' EV_gpair ?a ?b ?c ?_); (case a => exact rfl); (case b => walk_at "gk"); (case c => (show List.lookup _ (hd.heap_39 _) = _; k_is))))
local macro_rules | `(tactic| walk_at "op1") => `(tactic| first
  | ((with_reducible refine' O2_itemT ?a ?b ?c ?d ?e ?_); (case a => exact rfl); (case b => decide); (case c => decide); (case d => exact rfl); (case e => exact rfl))
  | ((with_reducible refine' O2_itemLn ?a ?b ?c ?d ?e ?f ?_); (case a => exact rfl); (case b => first | with_reducible assumption | walk_at "lst"); (case c => decide); (case d => walk_at "lst"); (case e => decide); (case f => walk_at "lst"))
  | with_reducible refine' O2_sub ?_
  | with_reducible refine' O2_add ?_
  | with_reducible refine' O2_iadd ?_
  | ((with_reducible refine' O2_mul ?a ?_); (case a => walk_at "sm"))
  | ((with_reducible refine' O2_div ?a ?b ?_); (case a => walk_at "sm"); (case b => walk_at "sm"))
  | ((with_reducible refine' O2_mod ?a ?_); (case a => walk_at "sm"))
  | with_reducible refine' O2_lt ?_
  | with_reducible refine' O2_le ?_
  | with_reducible refine' O2_gt ?_
  | with_reducible refine' O2_ge ?_
  | with_reducible refine' O2_eq ?_
  | with_reducible refine' O2_ne ?_
  | with_reducible refine' O2_eqb ?_
  | with_reducible refine' O2_neb ?_
  | with_reducible refine' O1_neg ?_)
local macro_rules | `(tactic| walk_at "et1") => `(tactic| first
  | ((with_reducible refine' ET_Compare ?a ?_); (case a => exact rfl))
  | with_reducible refine' ET_Not ?_
  | with_reducible refine' ET_And ?_
  | with_reducible refine' ET_Or ?_
  | ((with_reducible refine' ET_value ?a ?_); (case a => exact fun _ _ => rfl)))
local macro_rules | `(tactic| walk_at "evs1") => `(tactic| first
  | ((with_reducible refine' EVs_cons ?a ?_); (case a => exact fun _ _ h => nomatch h))
  | with_reducible refine' EVs_nil ?_)
local macro_rules | `(tactic| walk_at "fin1") => `(tactic| first
  | ((with_reducible show (List.length _ ≤ 1000) ∧ _); refine' And.intro (Nat.le_of_ble_eq_true rfl) ?_)
  | ((with_reducible show (noEll _ = true) ∧ _); refine' And.intro rfl ?_)
  | ((with_reducible show (noEllL _ = true) ∧ _); refine' And.intro rfl ?_)
  | ((with_reducible show ∃ x, PV.bool _ = PV.bool x ∧ _); refine' Exists.intro _ (And.intro rfl ?_))
  | ((with_reducible show ∃ x, PV.tup _ = PV.tup x ∧ _ ∧ _); refine' Exists.intro _ (And.intro rfl (And.intro rfl ?_)))
  | ((with_reducible show ∃ rx ry c s i, PV.ell _ _ _ _ = PV.ell rx ry c s ∧ _); refine' ⟨_, _, _, _, _, rfl, rfl, ?_⟩)
  | ((with_reducible show ∃ rx ry c s, PV.ell _ _ _ _ = PV.ell rx ry c s ∧ _); refine' ⟨_, _, _, _, rfl, ?_⟩)
  | ((with_reducible show ∃ b, PV.bool _ = PV.bool b ∧ (b = true → _) ∧ _); refine' ⟨_, rfl, ?_⟩)
  | ((with_reducible show ∃ a b, PV.rng _ _ _ = PV.rng a b 1 ∧ _); refine' ⟨_, _, rfl, by decide, by decide, ?b1, ?b2, ?_⟩; (case b1 => walk_at "sm"); (case b2 => walk_at "sm")))
local macro_rules | `(tactic| walk_at "br") => `(tactic| (refine' And.intro ?_ ?_ <;> (intro hc; first | (exact absurd hc (by decide)) | skip)))
local macro_rules | `(tactic| walk_at "step") => `(tactic| first
  | ((with_reducible show EV _ _ _ _ _ _ _ _); walk_at "ev1")
  | ((with_reducible show O2 _ _ _ _ _ _ _ _); walk_at "op1")
  | ((with_reducible show EVs _ _ _ _ _ _ _ _); walk_at "evs1")
  | ((with_reducible show ES _ _ _ _ _ _ _ _); walk_at "ex1")
  | ((with_reducible show EX _ _ _ _ _ _ _ _); walk_at "ex1")
  | ((with_reducible show ET _ _ _ _ _ _ _ _); walk_at "et1")
  | ((with_reducible show O1 _ _ _ _ _ _ _); walk_at "op1")
  | ((with_reducible show CL _ _ _ _ _ _ _); first | walk_at "cl" | walk_at "clb")
  | ((with_reducible show Starts _ _ _ _ (Expr.Call (Expr.Name (Str.ofString "range") _) _ _ _) _ _ _ _); (with_reducible refine' Starts_R ?a ?_); (case a => exact rfl))
  | ((with_reducible show Starts _ _ _ _ (Expr.Name _ _) _ _ _ _); (with_reducible refine' Starts_L ?a ?_); (case a => exact rfl))
  | ((with_reducible show Starts _ _ _ _ (Expr.Call (Expr.Name (Str.ofString "zip") _) _ _ _) _ _ _ _); (with_reducible refine' Starts_Z ?a ?b ?c ?_); (case a => exact rfl); (case b => walk_at "gk"); (case c => exact rfl))
  | walk_at "fin1")
local macro_rules | `(tactic| walk_at "go") => `(tactic| repeat' walk_at "step")
section
section
variable {w : World} {hb : Bs} {n : Nat} {τ : St} {Q : PV → St → Prop}

theorem cross_ok (hn : 1 ≤ n) {x1 y1 x2 y2 : Int} (h1 : MulOk x1 y2) (h2 : MulOk y1 x2) (q : Q (.int (x1*y2 - y1*x2)) τ) : CL w hb n (.ref 204) [.tup [.int x1, .int y1], .tup [.int x2, .int y2]] τ Q := by
  refine CL.up hn fun k hk => ?_
  walk_at "enter"
  walk_at "go"
  exact q
theorem dot_ok (hn : 1 ≤ n) {x1 y1 x2 y2 : Int} (h1 : MulOk x1 x2) (h2 : MulOk y1 y2) (q : Q (.int (x1*x2 + y1*y2)) τ) : CL w hb n (.ref 197) [.tup [.int x1, .int y1], .tup [.int x2, .int y2]] τ Q := by
  refine CL.up hn fun k hk => ?_
  walk_at "enter"
  walk_at "go"
  exact q
theorem turned_ok (hn : 1 ≤ n) {x1 y1 : Int} (q : Q (.tup [.int (0 - y1), .int x1]) τ) : CL w hb n (.ref 190) [.tup [.int x1, .int y1]] τ Q := by
  refine CL.up hn fun k hk => ?_
  walk_at "enter"
  walk_at "go"
  exact q
theorem negated_ok (hn : 1 ≤ n) {x1 y1 : Int} (q : Q (.tup [.int (-x1), .int y1]) τ) : CL w hb n (.ref 96) [.tup [.int x1, .int y1]] τ Q := by
  refine CL.up hn fun k hk => ?_
  walk_at "enter"
  walk_at "go"
  exact q
theorem floor_of_ok (hn : 1 ≤ n) {x1 y1 : Int} (h0 : 0 < y1) (h : y1 < 2 ^ 250) (q : Q (.int (x1 / y1)) τ) : CL w hb n (.ref 117) [.tup [.int x1, .int y1]] τ Q := by
  refine CL.up hn fun k hk => ?_
  walk_at "enter"
  walk_at "go"
  exact q
theorem rounded_ok (hn : 1 ≤ n) {x1 y1 : Int} (h0 : 0 < 2 * y1) (h : 2 * y1 < 2 ^ 250) (q : Q (.int ((2 * x1 + y1) / (2 * y1))) τ) : CL w hb n (.ref 124) [.tup [.int x1, .int y1]] τ Q := by
  refine CL.up hn fun k hk => ?_
  walk_at "enter"
  walk_at "go"
  exact q

local macro_rules | `(tactic| walk_at "cl") => `(tactic| with_reducible refine' CL_abs ?_)
theorem gcd_turn {f s : Int} (hf : 0 ≤ f) (hs : 0 < s) : Int.gcd s (f % s) = Int.gcd f s := by
  obtain ⟨f', rfl⟩ := Int.eq_ofNat_of_zero_le hf
  obtain ⟨s', rfl⟩ := Int.eq_ofNat_of_zero_le (Int.le_of_lt hs)
  rw [← Int.natCast_emod, Int.gcd_natCast_natCast, Int.gcd_natCast_natCast, Nat.gcd_comm s', ← Nat.gcd_rec, Nat.gcd_comm]
theorem cd_ok (hn : 1 ≤ n) {a b : Int} (h0 : 0 ≤ b) (q : Q (.int (Int.gcd a b : Int)) τ) : CL w hb n (.ref 53) [.int a, .int b] τ Q := by
  refine CL.up hn fun k hk => ?_
  walk_at "enter"
  walk_at "go"
  refine EX_While (fun ρ' τ' => τ' = τ ∧ ∃ f s : Int, ρ'.lookup ("first" : Str) = some (.int f) ∧ ρ'.lookup ("second" : Str) = some (.int s) ∧ 0 ≤ f ∧ 0 ≤ s ∧ Int.gcd f s = Int.gcd a b)
    (fun ρ' _ => match ρ'.lookup ("second" : Str) with | some (.int s) => s.toNat | _ => 0) ⟨rfl, _, _, rfl, rfl, by split <;> omega, h0, by split <;> simp⟩ ?_
  rintro ρ' τ' ⟨rfl, f, s, hf, hs, f0, s0, hg⟩
  walk_at "go"
  refine ⟨fun hc => ?_, fun hc => ?_⟩
  · have hc : 0 < s := by simpa using hc
    walk_at "go"
    refine ⟨⟨rfl, _, _, rfl, rfl, s0, Int.emod_nonneg _ (by omega), by rw [gcd_turn f0 hc, hg]⟩, ?_⟩
    rw [hs]
    have := Int.emod_lt_of_pos f hc
    have := Int.emod_nonneg f (b := s) (by omega)
    show (f % s).toNat < s.toNat
    omega
  · have hc : ¬ 0 < s := by simpa using hc
    have s1 : s = 0 := by omega
    subst s1
    walk_at "go"
    have : (f : Int) = (Int.gcd a b : Int) := by rw [← hg]; simp; omega
    rw [this]
    exact q
end
end
section
section
variable {w : World} {hb : Bs} {n : Nat} {τ : St} {Q : PV → St → Prop}
local macro_rules | `(tactic| walk_at "cl") => `(tactic| with_reducible refine' cd_ok (by omega) (by omega) ?_)
theorem gcd_pos' {a b : Int} (h : 0 < b) : 0 < (Int.gcd a b : Int) := by
  have : 0 < Int.gcd a b := Int.gcd_pos_of_ne_zero_right a (by omega)
  omega
theorem gcd_le' {a b : Int} (h : 0 < b) : (Int.gcd a b : Int) ≤ b := Int.le_of_dvd h (Int.gcd_dvd_right ..)
theorem fraction_ok (hn : 2 ≤ n) {a b : Int} (h0 : 0 < b) (h1 : b < 2 ^ 250) (q : Q (.tup [.int (a / (Int.gcd a b : Int)), .int (b / (Int.gcd a b : Int))]) τ) : CL w hb n (.ref 61) [.int a, .int b] τ Q := by
  refine CL.up hn fun k hk => ?_
  have g0 := gcd_pos' (a := a) h0
  have g1 := gcd_le' (a := a) h0
  walk_at "enter"
  walk_at "go"
  refine ⟨fun hc => absurd hc (by simp; omega), fun hc => ?_⟩
  walk_at "go"
  refine ⟨fun hc => absurd hc (by simp; omega), fun hc => ?_⟩
  walk_at "go"
  exact q
theorem fraction1_ok (hn : 2 ≤ n) {a : Int} (q : Q (.tup [.int a, .int 1]) τ) : CL w hb n (.ref 61) [.int a] τ Q := by
  refine CL.up hn fun k hk => ?_
  refine' CL_fn (xs := ["top"]) (dρ := [("bottom", .int 1)]) (dv := [("bottom", .int 1 246)]) ?ho ?hcd ?hb ?hd ?hl ?hst ?hnd ?hcn ?hcs ?h ?hdb ?hco ?hgen ?hk
  case ho => (show List.lookup _ (hd.heap_39 _) = _; k_is)
  case hcd => (show codeIn (hd.heap_39 _) _ _ = _; k_is)
  case hb => (intro s vs hX hl; obtain ⟨v1, h9⟩ := len1 hl; subst h9; exact binds_K hX rfl (by (show List.lookup _ (hd.heap_39 _) = _; k_is)) rfl rfl rfl)
  case hl => rfl
  case hst => decide +kernel
  case hnd => decide +kernel
  case hcn => decide +kernel
  case hcs => (intro L; rfl)
  case hdb => decide +kernel
  case hco => rfl
  case hgen => rfl
  case hk => rfl
  case hd => (intro L μ h; simp only [RB]; exact ⟨_, _, rfl, rep_int, rfl⟩)
  dsimp only [List.zip, List.zipWith, List.append]
  walk_at "go"
  refine ⟨fun hc => absurd hc (by decide), fun hc => ?_⟩
  walk_at "go"
  refine ⟨fun hc => absurd hc (by decide), fun hc => ?_⟩
  have g0 := gcd_pos' (a := a) (b := 1) (by omega)
  have g1 := gcd_le' (a := a) (b := 1) (by omega)
  have g2 : (Int.gcd a 1 : Int) = 1 := by omega
  walk_at "go"
  rw [g2]
  simpa using q
end
end
section
section
variable {w : World} {hb : Bs} {n : Nat} {τ : St} {Q : PV → St → Prop}
local macro_rules | `(tactic| walk_at "cl") => `(tactic| first | (with_reducible refine' fraction_ok (by omega) ?a ?b ?_); (case a => walk_at "sm"); (case b => walk_at "sm"))
theorem minus_ok (hn : 3 ≤ n) {a b c d : Int} (h1 : MulOk a d) (h2 : MulOk c b) (h3 : MulOk b d) (h4 : 0 < b * d) (h5 : b * d < 2 ^ 250)
    (q : Q (.tup [.int ((a * d - c * b) / (Int.gcd (a * d - c * b) (b * d) : Int)), .int (b * d / (Int.gcd (a * d - c * b) (b * d) : Int))]) τ) : CL w hb n (.ref 75) [.tup [.int a, .int b], .tup [.int c, .int d]] τ Q := by
  refine CL.up hn fun k hk => ?_
  walk_at "enter"
  walk_at "go"
  exact q
theorem divided_ok (hn : 3 ≤ n) {a b c d : Int} (h1 : MulOk a d) (h3 : MulOk b c) (h4 : 0 < b * c) (h5 : b * c < 2 ^ 250) (h6 : c ≠ 0)
    (q : Q (.tup [.int (a * d / (Int.gcd (a * d) (b * c) : Int)), .int (b * c / (Int.gcd (a * d) (b * c) : Int))]) τ) : CL w hb n (.ref 89) [.tup [.int a, .int b], .tup [.int c, .int d]] τ Q := by
  refine CL.up hn fun k hk => ?_
  walk_at "enter"
  walk_at "go"
  refine ⟨fun hc => absurd hc (by simpa using h6), fun hc => ?_⟩
  walk_at "go"
  exact q
noncomputable def sgn (a : Int) : Int := if 0 < a then 1 else if a < 0 then -1 else 0
theorem sign_ok (hn : 1 ≤ n) {a b : Int} (q : Q (.int (sgn a)) τ) : CL w hb n (.ref 103) [.tup [.int a, .int b]] τ Q := by
  refine CL.up hn fun k hk => ?_
  unfold sgn at q
  walk_at "enter"
  walk_at "go"
  refine ⟨fun hc => ?_, fun hc => ?_⟩
  · rw [if_pos (by simpa using hc)] at q
    walk_at "go"
    exact q
  · rw [if_neg (by simpa using hc)] at q
    walk_at "go"
    refine ⟨fun hc => ?_, fun hc => ?_⟩
    · rw [if_pos (by simpa using hc)] at q
      walk_at "go"
      exact q
    · rw [if_neg (by simpa using hc)] at q
      walk_at "go"
      exact q
local macro_rules | `(tactic| walk_at "cl") => `(tactic| with_reducible refine' sign_ok (by omega) ?_)
theorem compare_ok (hn : 2 ≤ n) {a b c d : Int} (h1 : MulOk a d) (h2 : MulOk c b) (q : Q (.int (sgn (a * d - c * b))) τ) : CL w hb n (.ref 110) [.tup [.int a, .int b], .tup [.int c, .int d]] τ Q := by
  refine CL.up hn fun k hk => ?_
  walk_at "enter"
  walk_at "go"
  exact q

theorem sq_pos (a : Int) : 0 ≤ a * a := by
  rcases Int.le_total 0 a with h | h
  · exact Int.mul_nonneg h h
  · exact Int.mul_nonneg_of_nonpos_of_nonpos h h
theorem small_of_sq {f m : Int} (h0 : 0 < f) (h : f * f ≤ m) (hm : m < 2 ^ 120) : f < 2 ^ 60 := by
  rcases Int.lt_or_le f (2 ^ 60) with c | c
  · exact c
  · have := Int.mul_le_mul c c (by decide) (by omega)
    omega
theorem newton {f m : Int} (h0 : 0 < f) : m < ((f + m / f) / 2 + 1) * ((f + m / f) / 2 + 1) := by
  have e1 := Int.lt_mul_ediv_self_add (x := m) (k := f) h0
  have e2 : f + m / f ≤ 2 * ((f + m / f) / 2) + 1 := by omega
  generalize (f + m / f) / 2 = l at *
  generalize m / f = q at *
  have e3 : f * (q + 1) ≤ f * (2 * l + 2 - f) := Int.mul_le_mul_of_nonneg_left (by omega) (by omega)
  have := sq_pos (l + 1 - f)
  grind
theorem sq_le {f m : Int} (h0 : 0 < f) (h : f ≤ m / f) : f * f ≤ m := by
  have := Int.mul_le_mul_of_nonneg_left h (Int.le_of_lt h0)
  have e := Int.mul_ediv_self_le (x := m) (k := f) (by omega)
  omega

theorem root_ok (hn : 1 ≤ n) {m : Int} (h0 : 0 ≤ m) (hm : m < 2 ^ 120) (q : ∀ r, 0 ≤ r → r * r ≤ m → m < (r + 1) * (r + 1) → Q (.int r) τ) : CL w hb n (.ref 131) [.int m] τ Q := by
  refine CL.up hn fun k hk => ?_
  walk_at "enter"
  walk_at "go"
  refine ⟨fun hc => absurd hc (by simp; omega), fun hc => ?_⟩
  walk_at "go"
  refine ⟨fun hc => ?_, fun hc => ?_⟩
  · walk_at "go"
    have : m = 0 := by simpa using hc
    exact q 0 (by omega) (by omega) (by omega)
  have m0 : m ≠ 0 := by simpa using hc
  walk_at "go"
  refine EX_While (fun ρ' τ' => τ' = τ ∧ ∃ f : Int, ρ'.lookup ("found" : Str) = some (.int f) ∧ ρ'.lookup ("n" : Str) = some (.int m) ∧ 0 < f ∧ f < 2 ^ 62)
    (fun ρ' _ => match ρ'.lookup ("found" : Str) with | some (.int f) => (m + 1 - f).toNat | _ => 0) ⟨rfl, _, rfl, rfl, by decide, by decide⟩ ?_
  rintro ρ' τ' ⟨rfl, f, hf, hm', f0, f1⟩
  walk_at "go"
  refine ⟨fun hc => ?_, fun hc => ?_⟩
  · have hc : f * f ≤ m := by simpa using hc
    have f2 := small_of_sq f0 hc hm
    have f3 : f ≤ f * f := by
      have := Int.mul_le_mul_of_nonneg_left (show 1 ≤ f by omega) (Int.le_of_lt f0)
      omega
    walk_at "go"
    refine ⟨⟨rfl, _, rfl, hm', by omega, by omega⟩, ?_⟩
    rw [hf]
    show (m + 1 - f * 2).toNat < (m + 1 - f).toNat
    omega
  have hc : m < f * f := by simpa using hc
  walk_at "go"
  refine EX_While (fun ρ' τ'' => τ'' = τ' ∧ ∃ f : Int, ρ'.lookup ("found" : Str) = some (.int f) ∧ ρ'.lookup ("n" : Str) = some (.int m) ∧ ρ'.lookup ("lower" : Str) = some (.int ((f + m / f) / 2)) ∧ 0 < f ∧ f < 2 ^ 62 ∧ m < (f + 1) * (f + 1))
    (fun ρ' _ => match ρ'.lookup ("found" : Str) with | some (.int f) => f.toNat | _ => 0) ⟨rfl, _, hf, hm', rfl, f0, f1, by grind⟩ ?_
  rintro ρ2 τ2 ⟨rfl, f, hf, hm', hl, f0, f1, hr⟩
  walk_at "go"
  refine ⟨fun hc => ?_, fun hc => ?_⟩
  · have hc : (f + m / f) / 2 < f := by simpa using hc
    have l0 : 0 < (f + m / f) / 2 := by
      have q0 : 0 ≤ m / f := Int.ediv_nonneg h0 (by omega)
      rcases Int.lt_or_le 1 (f + m / f) with c | c
      · omega
      · have f1 : f = 1 := by omega
        subst f1
        simp at *
        omega
    walk_at "go"
    refine ⟨⟨rfl, _, rfl, hm', rfl, l0, by omega, newton f0⟩, ?_⟩
    rw [hf]
    show ((f + m / f) / 2).toNat < f.toNat
    omega
  · have hc : ¬ (f + m / f) / 2 < f := by simpa using hc
    walk_at "go"
    exact q f (by omega) (sq_le f0 (by omega)) hr
end
end
section
abbrev Fr2 := Int × Int
abbrev pv2 (p : Int × Int) : PV := .tup [.int p.1, .int p.2]
abbrev pv4 (p : Fr2 × Fr2) : PV := .tup [pv2 p.1, pv2 p.2]
abbrev PIT : Int := 314159265358979323846264338327950288419716939937510
abbrev PIB : Int := 100000000000000000000000000000000000000000000000000
noncomputable def frM (t b : Int) : Option Fr2 := if 0 < b ∧ b < 2 ^ 250 then some (t / (Int.gcd t b : Int), b / (Int.gcd t b : Int)) else none
noncomputable def minusM (p q : Fr2) : Option Fr2 := if MulOk p.1 q.2 ∧ MulOk q.1 p.2 ∧ MulOk p.2 q.2 then frM (p.1 * q.2 - q.1 * p.2) (p.2 * q.2) else none
noncomputable def dividedM (p q : Fr2) : Option Fr2 := if MulOk p.1 q.2 ∧ MulOk p.2 q.1 ∧ q.1 ≠ 0 then frM (p.1 * q.2) (p.2 * q.1) else none
noncomputable def radM (p : Fr2) (scale : Int) : Option Int := if Sm p.1 ∧ Sm scale ∧ 0 < p.2 ∧ p.2 < 2 ^ 50 then some (p.1 * PIT * scale / (180 * p.2 * PIB)) else none
noncomputable def serM (square scale : Int) : Nat → Int → Int → Int → Option Int
  | 0, _, _, _ => none
  | k + 1, total, term, step => if term = 0 then some total else if MulOk term square ∧ 0 < scale ∧ scale < 2 ^ 250 ∧ 0 < step ∧ step < 2 ^ 50 then serM square scale k (total + term) (-(term * square / scale / (step * (step + 1)))) (step + 2) else none
noncomputable def nearM (num scale bottom : Int) : Option Fr2 := if MulOk num bottom then (frM (num * bottom) scale).bind fun p => if 0 < 2 * p.2 ∧ 2 * p.2 < 2 ^ 250 then frM ((2 * p.1 + p.2) / (2 * p.2)) bottom else none else none
noncomputable def smallM (p : Fr2) (bottom : Int) : Option (Fr2 × Fr2) :=
  if 0 < bottom ∧ bottom < 2 ^ 40 then
    (radM p (bottom * 65536)).bind fun rad => if Sm rad then
      (serM (rad * rad / (bottom * 65536)) (bottom * 65536) 60 0 (bottom * 65536) 1).bind fun c => (serM (rad * rad / (bottom * 65536)) (bottom * 65536) 60 0 rad 2).bind fun s =>
        (nearM c (bottom * 65536) bottom).bind fun x => (nearM s (bottom * 65536) bottom).bind fun y => some (x, y)
    else none
  else none
noncomputable def quarterM (p : Fr2) (bottom : Int) : Option (Fr2 × Fr2) :=
  if MulOk 45 p.2 then
    if p.1 * 1 - 45 * p.2 < 0 then smallM p bottom
    else if p.1 * 1 - 45 * p.2 = 0 then (smallM p bottom).map fun r => (r.1, r.1)
    else (minusM (90, 1) p).bind fun q => (smallM q bottom).map fun r => (r.2, r.1)
  else none
noncomputable def rotM : Nat → Fr2 × Fr2 → Fr2 × Fr2
  | 0, x => x
  | k + 1, (c, s) => rotM k ((-s.1, s.2), c)
noncomputable def turnM (p : Fr2) (bottom : Int) : Option (Fr2 × Fr2) :=
  (dividedM p (90, 1)).bind fun d => if 0 < d.2 ∧ d.2 < 2 ^ 250 then
    (minusM p (90 * (d.1 / d.2), 1)).bind fun rest =>
      (if rest.1 = 0 then some ((1, 1), (0, 1)) else quarterM rest bottom).map fun r => rotM ((d.1 / d.2) % 4).toNat r
  else none

theorem frM_some {t b : Int} {r : Fr2} (h : frM t b = some r) : 0 < b ∧ b < 2 ^ 250 ∧ r = (t / (Int.gcd t b : Int), b / (Int.gcd t b : Int)) := by
  unfold frM at h
  split at h
  · rename_i c; cases h; exact ⟨c.1, c.2, rfl⟩
  · cases h
section
variable {w : World} {hb : Bs} {n : Nat} {τ : St} {Q : PV → St → Prop}

theorem fractionM_ok (hn : 2 ≤ n) {t b : Int} {r : Fr2} (h : frM t b = some r) (q : Q (pv2 r) τ) : CL w hb n (.ref 61) [.int t, .int b] τ Q := by
  obtain ⟨h1, h2, rfl⟩ := frM_some h
  exact fraction_ok hn h1 h2 q
theorem minusM_ok (hn : 3 ≤ n) {p1 p2 q1 q2 : Int} {r : Fr2} (h : minusM (p1, p2) (q1, q2) = some r) (k : Q (pv2 r) τ) : CL w hb n (.ref 75) [.tup [.int p1, .int p2], .tup [.int q1, .int q2]] τ Q := by
  unfold minusM at h
  split at h
  · rename_i c
    obtain ⟨h1, h2, rfl⟩ := frM_some h
    exact minus_ok hn c.1 c.2.1 c.2.2 h1 h2 k
  · cases h
theorem dividedM_ok (hn : 3 ≤ n) {p1 p2 q1 q2 : Int} {r : Fr2} (h : dividedM (p1, p2) (q1, q2) = some r) (k : Q (pv2 r) τ) : CL w hb n (.ref 89) [.tup [.int p1, .int p2], .tup [.int q1, .int q2]] τ Q := by
  unfold dividedM at h
  split at h
  · rename_i c
    obtain ⟨h1, h2, rfl⟩ := frM_some h
    exact divided_ok hn c.1 c.2.1 h1 h2 c.2.2 k
  · cases h
theorem radM_ok (hn : 1 ≤ n) {p1 p2 scale r : Int} (h : radM (p1, p2) scale = some r) (q : Q (.int r) τ) : CL w hb n (.ref 140) [.tup [.int p1, .int p2], .int scale] τ Q := by
  unfold radM at h
  split at h
  · rename_i c
    obtain ⟨c1, c2, c3, c4⟩ := c
    cases h
    refine CL.up hn fun k hk => ?_
    walk_at "enter"
    walk_at "go"
    exact q
  · cases h

theorem serM_ok (hn : 1 ≤ n) {first square scale begin r : Int} {fuel : Nat} (h : serM square scale fuel 0 first begin = some r) (q : Q (.int r) τ) : CL w hb n (.ref 147) [.int first, .int square, .int scale, .int begin] τ Q := by
  refine CL.up hn fun k hk => ?_
  walk_at "enter"
  walk_at "go"
  refine EX_WhileN (fun k ρ' τ' => τ' = τ ∧ ∃ total term step : Int, ρ'.lookup ("total" : Str) = some (.int total) ∧ ρ'.lookup ("term" : Str) = some (.int term) ∧ ρ'.lookup ("step" : Str) = some (.int step) ∧
    ρ'.lookup ("square" : Str) = some (.int square) ∧ ρ'.lookup ("scale" : Str) = some (.int scale) ∧ serM square scale k total term step = some r) fuel ⟨rfl, _, _, _, rfl, rfl, rfl, rfl, rfl, h⟩ ?_
  rintro j ρ' τ' ⟨rfl, total, term, step, e1, e2, e3, e4, e5, hs⟩
  walk_at "go"
  refine ⟨fun hc => ?_, fun hc => ?_⟩
  · have hc : term ≠ 0 := by simpa using hc
    cases j with
    | zero => simp [serM] at hs
    | succ j =>
      unfold serM at hs
      rw [if_neg hc] at hs
      split at hs
      · rename_i c
        obtain ⟨c1, c2, c3, c4, c5⟩ := c
        have c6 : 0 < step * (step + 1) := Int.mul_pos c4 (by omega)
        have c7 : step * (step + 1) < 2 ^ 250 := by
          have := Int.mul_lt_mul c5 (show step + 1 ≤ 2 ^ 51 by omega) (by omega) (by decide)
          omega
        walk_at "go"
        exact ⟨j, Nat.lt_succ_self _, rfl, _, _, _, rfl, rfl, rfl, e4, e5, hs⟩
      · cases hs
  · have hc : term = 0 := by simpa using hc
    walk_at "go"
    cases j with
    | zero => simp [serM] at hs
    | succ j =>
      unfold serM at hs
      rw [if_pos hc] at hs
      cases hs
      exact q
end
end
section
section
variable {w : World} {hb : Bs} {n : Nat} {τ : St} {Q : PV → St → Prop}
theorem nearM_ok (hn : 3 ≤ n) {num scale bottom : Int} {r : Fr2} (h : nearM num scale bottom = some r) (q : Q (pv2 r) τ) : CL w hb n (.ref 161) [.int num, .int scale, .int bottom] τ Q := by
  unfold nearM at h
  split at h
  · rename_i c
    obtain ⟨p, h1, h2⟩ := Option.bind_eq_some_iff.mp h
    split at h2
    · rename_i c2
      refine CL.up hn fun k hk => ?_
      walk_at "enter"
      walk_at "go"
      refine fractionM_ok (by omega) h1 ?_
      refine EVs_nil (rounded_ok (by omega) c2.1 c2.2 ?_)
      walk_at "go"
      exact fractionM_ok (by omega) h2 ⟨rfl, q⟩
    · cases h2
  · cases h

theorem smallM_ok (hn : 4 ≤ n) {p1 p2 bottom : Int} {r : Fr2 × Fr2} (h : smallM (p1, p2) bottom = some r) (q : Q (pv4 r) τ) : CL w hb n (.ref 154) [.tup [.int p1, .int p2], .int bottom] τ Q := by
  unfold smallM at h
  split at h
  · rename_i c
    obtain ⟨rad, h1, h2⟩ := Option.bind_eq_some_iff.mp h
    split at h2
    · rename_i c2
      obtain ⟨cc, h3, h4⟩ := Option.bind_eq_some_iff.mp h2
      obtain ⟨ss, h5, h6⟩ := Option.bind_eq_some_iff.mp h4
      obtain ⟨x, h7, h8⟩ := Option.bind_eq_some_iff.mp h6
      obtain ⟨y, h9, h10⟩ := Option.bind_eq_some_iff.mp h8
      cases h10
      refine CL.up hn fun k hk => ?_
      walk_at "enter"
      walk_at "go"
      refine radM_ok (by omega) h1 ?_
      walk_at "go"
      refine serM_ok (by omega) h3 ?_
      walk_at "go"
      refine serM_ok (by omega) h5 ?_
      walk_at "go"
      refine nearM_ok (by omega) h7 ?_
      walk_at "go"
      refine nearM_ok (by omega) h9 ?_
      walk_at "go"
      exact q
    · cases h2
  · cases h
theorem quarterM_ok (hn : 5 ≤ n) {p1 p2 bottom : Int} {r : Fr2 × Fr2} (h : quarterM (p1, p2) bottom = some r) (q : Q (pv4 r) τ) : CL w hb n (.ref 168) [.tup [.int p1, .int p2], .int bottom] τ Q := by
  unfold quarterM at h
  split at h
  · rename_i c
    refine CL.up hn fun k hk => ?_
    walk_at "enter"
    walk_at "go"
    refine compare_ok (by omega) (by walk_at "sm") c ?_
    walk_at "go"
    dsimp only at h
    refine ⟨fun hc => ?_, fun hc => ?_⟩
    · rw [if_pos (by unfold sgn at hc; revert hc; split <;> (try split) <;> simp <;> omega)] at h
      walk_at "go"
      exact smallM_ok (by omega) h ⟨rfl, q⟩
    · rw [if_neg (by unfold sgn at hc; revert hc; split <;> (try split) <;> simp <;> omega)] at h
      walk_at "go"
      refine ⟨fun hc => ?_, fun hc => ?_⟩
      · rw [if_pos (by unfold sgn at hc; revert hc; split <;> (try split) <;> simp <;> omega)] at h
        obtain ⟨r', h1, h2⟩ := Option.map_eq_some_iff.mp h
        subst h2
        walk_at "go"
        refine smallM_ok (by omega) h1 ?_
        walk_at "go"
        exact q
      · rw [if_neg (by unfold sgn at hc; revert hc; split <;> (try split) <;> simp <;> omega)] at h
        obtain ⟨p', h1, h2⟩ := Option.bind_eq_some_iff.mp h
        obtain ⟨r', h3, h4⟩ := Option.map_eq_some_iff.mp h2
        subst h4
        walk_at "go"
        refine minusM_ok (by omega) h1 ?_
        walk_at "go"
        refine smallM_ok (by omega) h3 ?_
        walk_at "go"
        exact q
  · cases h
theorem turnM_ok (hn : 6 ≤ n) {p1 p2 bottom : Int} {r : Fr2 × Fr2} (h : turnM (p1, p2) bottom = some r) (q : Q (pv4 r) τ) : CL w hb n (.ref 176) [.tup [.int p1, .int p2], .int bottom] τ Q := by
  unfold turnM at h
  obtain ⟨d, h1, h2⟩ := Option.bind_eq_some_iff.mp h
  split at h2
  · rename_i c
    obtain ⟨rest, h3, h4⟩ := Option.bind_eq_some_iff.mp h2
    obtain ⟨x, h5, h6⟩ := Option.map_eq_some_iff.mp h4
    refine CL.up hn fun k hk => ?_
    walk_at "enter"
    walk_at "go"
    refine dividedM_ok (by omega) h1 ?_
    walk_at "go"
    refine floor_of_ok (by omega) c.1 c.2 ?_
    walk_at "go"
    refine minusM_ok (by omega) h3 ?_
    walk_at "go"
    have b1 : 0 ≤ d.1 / d.2 % 4 := Int.emod_nonneg _ (by decide)
    have b2 : d.1 / d.2 % 4 < 4 := Int.emod_lt_of_pos _ (by decide)
    have hm : (d.1 / d.2 % 4 - 0).toNat = (d.1 / d.2 % 4).toNat := by omega
    refine ⟨fun hc => ?_, fun hc => ?_⟩
    · rw [if_neg (by simpa using hc)] at h5
      walk_at "go"
      refine quarterM_ok (by omega) h5 ?_
      walk_at "go"
      refine ForI.inv (fun ps ρ' τ' => τ' = τ ∧ ∃ c s, ρ'.lookup ("cosine" : Str) = some (pv2 c) ∧ ρ'.lookup ("sine" : Str) = some (pv2 s) ∧ rotM ps.length (c, s) = r) (fun _ _ _ _ => trivial) ?_ ?_ _ _ _ ⟨rfl, _, _, rfl, rfl, by rw [rngFrom_length, hm]; exact h6⟩
      · rintro p ps ρ' τ' ⟨rfl, c, s, e1, e2, e3⟩
        refine ⟨_, rfl, ?_⟩
        walk_at "go"
        refine negated_ok (by omega) ?_
        walk_at "go"
        exact ⟨rfl, _, _, rfl, rfl, e3⟩
      · rintro ρ' τ' ⟨rfl, c, s, e1, e2, rfl⟩
        walk_at "go"
        exact q
    · rw [if_pos (by simpa using hc)] at h5
      cases h5
      walk_at "go"
      refine ForI.inv (fun ps ρ' τ' => τ' = τ ∧ ∃ c s, ρ'.lookup ("cosine" : Str) = some (pv2 c) ∧ ρ'.lookup ("sine" : Str) = some (pv2 s) ∧ rotM ps.length (c, s) = r) (fun _ _ _ _ => trivial) ?_ ?_ _ _ _ ⟨rfl, (1, 1), (0, 1), rfl, rfl, by rw [rngFrom_length, hm]; exact h6⟩
      · rintro p ps ρ' τ' ⟨rfl, c, s, e1, e2, e3⟩
        refine ⟨_, rfl, ?_⟩
        walk_at "go"
        refine negated_ok (by omega) ?_
        walk_at "go"
        exact ⟨rfl, _, _, rfl, rfl, e3⟩
      · rintro ρ' τ' ⟨rfl, c, s, e1, e2, rfl⟩
        walk_at "go"
        exact q
  · cases h2
end
end
section
abbrev PTS : Int := 1048576
noncomputable def inP (p : Fr2) : Int := (2 * (p.1 * 1048576) + p.2) / (2 * p.2)
section
variable {w : World} {hb : Bs} {n : Nat} {τ : St} {Q : PV → St → Prop}
theorem in_parts_ok (hn : 2 ≤ n) {a b : Int} (h0 : 0 < 2 * b) (h : 2 * b < 2 ^ 250) (q : Q (.int (inP (a, b))) τ) : CL w hb n (.ref 183) [.tup [.int a, .int b]] τ Q := by
  refine CL.up hn fun k hk => ?_
  walk_at "enter"
  walk_at "go"
  exact rounded_ok (by omega) h0 h ⟨rfl, q⟩

theorem ellK : EllK w := ⟨by (show findIn (hd.heap_39 _) _ _ = _; k_is), by (show plainOver (hd.heap_39 _) _ = _; k_is), by (show hasDictIn (hd.heap_39 _) _ = _; k_is)⟩
theorem Ell_ok (hn : 8 ≤ n) {rx ry p1 p2 : Int} {r : Fr2 × Fr2} (h : turnM (p1, p2) 1048576 = some r) (h1 : 0 < 2 * r.1.2 ∧ 2 * r.1.2 < 2 ^ 250) (h2 : 0 < 2 * r.2.2 ∧ 2 * r.2.2 < 2 ^ 250) (q : Q (.ell rx ry (inP r.1) (inP r.2)) τ) :
    CL w hb n (.ref 235) [.int rx, .int ry, .tup [.int p1, .int p2]] τ Q := by
  obtain ⟨k, rfl⟩ : ∃ k, n = k + 2 := ⟨n - 2, by omega⟩
  refine' CL_Ell ellK ?hm ?hi ?hf ?t1 ?t2 ?t3 ?t4 ?ho ?hcd ?hbind ?hst ?hcn ?hcs ?s1 ?s2 ?s3 ?s4 ?h ?hdb ?hco ?hgen ?hk
  case ho => (show List.lookup _ (hd.heap_39 _) = _; k_is)
  case hm => (show makesIn (hd.heap_39 _) _ = _; k_is)
  case hi => (show findIn (hd.heap_39 _) _ _ = _; k_is)
  case hf => (show typeIn (hd.heap_39 _) _ = _; k_is)
  case t1 => (show takerIn (hd.heap_39 _) _ _ = _; k_is)
  case t2 => (show takerIn (hd.heap_39 _) _ _ = _; k_is)
  case t3 => (show takerIn (hd.heap_39 _) _ _ = _; k_is)
  case t4 => (show takerIn (hd.heap_39 _) _ _ = _; k_is)
  case hcd => (show codeIn (hd.heap_39 _) _ _ = _; k_is)
  case hbind => exact fun _ _ _ _ _ => BindsTo.of_eq rfl
  case hst => decide +kernel
  case hcn => decide +kernel
  case hcs => (intro L; rfl)
  case s1 => exact fun _ => rfl
  case s2 => exact fun _ => rfl
  case s3 => exact fun _ => rfl
  case s4 => exact fun _ => rfl
  case hdb => decide +kernel
  case hco => rfl
  case hgen => rfl
  case hk => rfl
  intro x
  walk_at "go"
  refine turnM_ok (by omega) h ?_
  walk_at "go"
  refine ⟨?_, rfl, ?_⟩
  · intro y p e
    have ne : ([("sine", pv2 r.2), ("cosine", pv2 r.1), ("self", .raw x), ("rx", .int rx), ("ry", .int ry), ("turn", .tup [.int p1, .int p2])] : List (Str × PV)).all (fun q => noEll q.2) = true := rfl
    exact List.all_eq_true.mp ne (y, p) (mem_of_lookup e)
  walk_at "go"
  refine ⟨_, rfl, ?_⟩
  walk_at "go"
  refine ⟨_, rfl, ?_⟩
  walk_at "go"
  refine in_parts_ok (by omega) h1.1 h1.2 ⟨_, rfl, ?_⟩
  walk_at "go"
  exact in_parts_ok (by omega) h2.1 h2.2 ⟨_, rfl, q⟩

noncomputable def ledM (rx ry c s v0 v1 : Int) : Fr2 := ((c * (v0 * rx / 1048576) - s * (v1 * ry / 1048576)) / 1048576, (s * (v0 * rx / 1048576) + c * (v1 * ry / 1048576)) / 1048576)
theorem led_ok (hn : 1 ≤ n) {rx ry c s v0 v1 : Int} (h1 : Sm rx) (h2 : Sm ry) (h3 : Sm c) (h4 : Sm s) (q : Q (pv2 (ledM rx ry c s v0 v1)) τ) : CL w hb n (.ref 225) [.ell rx ry c s, .tup [.int v0, .int v1]] τ Q := by
  refine CL.up hn fun k hk => ?_
  walk_at "enter"
  walk_at "go"
  exact q
noncomputable def backM (rx ry c s v0 v1 : Int) : Fr2 := ((c * v0 + s * v1) / rx, (c * v1 - s * v0) / ry)
theorem back_ok (hn : 1 ≤ n) {rx ry c s v0 v1 : Int} (h1 : 0 < rx ∧ rx < 2 ^ 250) (h2 : 0 < ry ∧ ry < 2 ^ 250) (h3 : Sm c) (h4 : Sm s) (q : Q (pv2 (backM rx ry c s v0 v1)) τ) : CL w hb n (.ref 232) [.ell rx ry c s, .tup [.int v0, .int v1]] τ Q := by
  refine CL.up hn fun k hk => ?_
  obtain ⟨h1, h1'⟩ := h1
  obtain ⟨h2, h2'⟩ := h2
  walk_at "enter"
  walk_at "go"
  exact q
noncomputable def qon (v : Fr2) (b : Bool) : Fr2 := if b = true then (0 - v.2, v.1) else (v.2, 0 - v.1)
theorem quarter_on_ok (hn : 2 ≤ n) {x y : Int} {b : Bool} (q : Q (pv2 (qon (x, y) b)) τ) : CL w hb n (.ref 260) [.tup [.int x, .int y], .bool b] τ Q := by
  refine CL.up hn fun k hk => ?_
  walk_at "enter"
  walk_at "go"
  refine ⟨fun hc => ?_, fun hc => ?_⟩
  · subst hc
    walk_at "go"
    exact turned_ok (by omega) ⟨rfl, q⟩
  · subst hc
    walk_at "go"
    exact q
noncomputable def inq (u v : Fr2) (b : Bool) : Bool := decide (0 ≤ (if b = true then u.1 * v.2 - u.2 * v.1 else v.1 * u.2 - v.2 * u.1)) && decide (0 ≤ u.1 * v.1 + u.2 * v.2)
theorem within_ok (hn : 2 ≤ n) {x y a c : Int} {b : Bool} (h1 : Sm x) (h2 : Sm y) (q : Q (.bool (inq (x, y) (a, c) b)) τ) : CL w hb n (.ref 253) [.tup [.int x, .int y], .tup [.int a, .int c], .bool b] τ Q := by
  refine CL.up hn fun k hk => ?_
  walk_at "enter"
  walk_at "go"
  unfold inq at q
  refine ⟨fun hc => ?_, fun hc => ?_⟩
  · subst hc
    walk_at "go"
    refine cross_ok (by omega) (.inl h1) (.inl h2) ?_
    walk_at "go"
    refine ⟨fun hc => ?_, fun hc => ?_⟩
    · simp only [if_true, hc, Bool.true_and] at q
      walk_at "go"
      refine dot_ok (by omega) (.inl h1) (.inl h2) ?_
      walk_at "go"
      exact q
    · simp only [if_true, hc, Bool.false_and] at q
      exact ⟨rfl, q⟩
  · subst hc
    walk_at "go"
    refine cross_ok (by omega) (.inr h2) (.inr h1) ?_
    walk_at "go"
    refine ⟨fun hc => ?_, fun hc => ?_⟩
    · simp only [Bool.false_eq_true, if_false, hc, Bool.true_and] at q
      walk_at "go"
      refine dot_ok (by omega) (.inl h1) (.inl h2) ?_
      walk_at "go"
      exact q
    · simp only [Bool.false_eq_true, if_false, hc, Bool.false_and] at q
      exact ⟨rfl, q⟩
end
end
section
section
variable {w : World} {hb : Bs} {n : Nat} {τ : St} {Q : PV → St → Prop}
noncomputable def vecM (b : Bool) (other : Fr2) : Nat → Fr2 → List Fr2
  | 0, v => [v]
  | k + 1, v => if inq v other b = true then [v] else v :: vecM b other k (qon v b)
theorem sm_qon {v : Fr2} {b : Bool} (h : Sm v.1 ∧ Sm v.2) : Sm (qon v b).1 ∧ Sm (qon v b).2 := by
  unfold qon
  cases b <;> simp [Sm] at * <;> omega
theorem noEllL_pv2 : ∀ (l : List Fr2), noEllL (l.map pv2) = true
  | [] => rfl
  | _ :: r => by simp [noEllL, noEll, noEllL_pv2 r]

theorem vecM_succ (b : Bool) (o : Fr2) (k : Nat) (v : Fr2) : vecM b o (k + 1) v = if inq v o b = true then [v] else v :: vecM b o k (qon v b) := rfl
theorem get_last' (τ : St) (l : List PV) : (τ ++ [l])[τ.length]? = some l := by simp
theorem set_last' (τ : St) (l l' : List PV) : (τ ++ [l]).set τ.length l' = τ ++ [l'] := by
  rw [List.set_append_right _ _ (Nat.le_refl _)]; simp
theorem item_last (pre : List Fr2) (v : Fr2) : ((pre ++ [v]).map pv2)[((-1 : Int) + (((pre ++ [v]).map pv2).length : Int)).toNat]? = some (pv2 v) := by
  have : ((-1 : Int) + (((pre ++ [v]).map pv2).length : Int)).toNat = pre.length := by simp; omega
  rw [this]; simp
theorem vectors_ok (hn : 3 ≤ n) {x y a c : Int} {b : Bool} (h1 : Sm x) (h2 : Sm y)
    (q : Q (.adr (τ.length + 2)) (τ ++ [(vecM b (a, c) 3 (x, y)).map pv2] ++ [[pv2 (a, c)]] ++ [(vecM b (a, c) 3 (x, y)).map pv2 ++ [pv2 (a, c)]])) : CL w hb n (.ref 281) [.tup [.int x, .int y], .tup [.int a, .int c], .bool b] τ Q := by
  refine CL.up hn fun k hk => ?_
  walk_at "enter"
  walk_at "go"
  generalize hV : vecM b (a, c) 3 (x, y) = V at q
  refine ForI.inv (fun ps ρ' τ' => ∃ (pre : List Fr2) (v : Fr2), τ' = τ ++ [(pre ++ [v]).map pv2] ∧ pre ++ vecM b (a, c) ps.length v = V ∧ (Sm v.1 ∧ Sm v.2) ∧ pre.length + ps.length ≤ 3 ∧
    ρ'.lookup ("found" : Str) = some (.adr τ.length) ∧ ρ'.lookup ("other" : Str) = some (pv2 (a, c)) ∧ ρ'.lookup ("is_sweep" : Str) = some (.bool b)) (fun _ _ _ _ => trivial) ?_ ?_ _ _ _ ⟨[], (x, y), rfl, by rw [rngFrom_length]; exact hV, ⟨h1, h2⟩, by simp [rngFrom_length], rfl, rfl, rfl⟩
  · rintro p ps ρ' τ' ⟨pre, v, rfl, e1, sv, hl, e2, e3, e4⟩
    refine ⟨_, rfl, ?_⟩
    have lim : ((pre ++ [v]).map pv2).length ≤ 1000 := by simp at *; omega
    walk_at "go"
    refine O2_itemLn rfl (get_last' _ _) (by decide) (by simp; omega) (by decide) (item_last pre v) ?_
    walk_at "go"
    refine within_ok (by omega) sv.1 sv.2 ?_
    walk_at "go"
    refine ⟨fun hc => ?_, fun hc => ?_⟩
    · walk_at "go"
      rw [List.length_cons, vecM_succ, if_pos hc] at e1
      refine O2_lcat (l := (pre ++ [v]).map pv2) (l' := [pv2 (a, c)]) (by simp) (by simp) (by simp at *; omega) (by simp) ?_
      refine ⟨rfl, ?_⟩
      rw [← e1] at q
      simpa using q
    · walk_at "go"
      refine EV_Append (fun _ => rfl) rfl rfl ?_
      walk_at "go"
      refine ⟨_, rfl, ?_⟩
      walk_at "go"
      refine O2_itemLn rfl (get_last' _ _) (by decide) (by simp; omega) (by decide) (item_last pre v) ?_
      walk_at "go"
      refine quarter_on_ok (by omega) ?_
      refine ⟨_, get_last' _ _, lim, rfl, ?_⟩
      walk_at "go"
      rw [set_last']
      have hc' : ¬ inq v (a, c) b = true := by rw [show inq v (a, c) b = false from hc]; decide
      rw [List.length_cons, vecM_succ, if_neg hc'] at e1
      refine ⟨pre ++ [v], qon v b, by simp, by simpa using e1, sm_qon sv, by simp at *; omega, e2, e3, e4⟩
  · rintro ρ' τ' ⟨pre, v, rfl, e1, sv, hl, e2, e3, e4⟩
    walk_at "go"
    refine O2_lcat (l := (pre ++ [v]).map pv2) (l' := [pv2 (a, c)]) (by simp) (by simp) (by simp at *; omega) (by simp) ?_
    refine ⟨rfl, ?_⟩
    have e1 : pre ++ [v] = V := e1
    rw [← e1] at q
    simpa using q
end
end
section
section
variable {w : World} {hb : Bs} {n : Nat} {τ : St} {Q : PV → St → Prop}
theorem share_ok (hn : 2 ≤ n) {x y a c : Int} (h1 : Sm x) (h2 : Sm y) (h3 : 0 < x * x + y * y) (h4 : x * x + y * y < 2 ^ 250) (h5 : -1048576 ≤ (x * a + y * c) * 1048576 / (x * x + y * y))
    (q : ∀ r, Sm r → Q (.int r) τ) : CL w hb n (.ref 267) [.tup [.int x, .int y], .tup [.int a, .int c]] τ Q := by
  refine CL.up hn fun k hk => ?_
  walk_at "enter"
  walk_at "go"
  refine dot_ok (by omega) (.inl h1) (.inl h2) ?_
  walk_at "go"
  refine dot_ok (by omega) (.inl h1) (.inl h2) ?_
  walk_at "go"
  generalize hC : (if (x * a + y * c) * 1048576 / (x * x + y * y) < 1048576 then (x * a + y * c) * 1048576 / (x * x + y * y) else 1048576) = C
  have c1 : -1048576 ≤ C := by rw [← hC]; split <;> omega
  have c2 : C ≤ 1048576 := by rw [← hC]; split <;> omega
  clear hC
  walk_at "go"
  refine root_ok (by omega) (by omega) (by omega) fun r r0 r1 r2 => ?_
  walk_at "go"
  refine root_ok (by omega) (by omega) (by omega) fun t t0 t1 t2 => ?_
  have rb : r ≤ 1048576 := by
    rcases Int.lt_or_le 1048576 r with h | h
    · have := Int.mul_le_mul (show 1048577 ≤ r by omega) (show 1048577 ≤ r by omega) (by decide) (by omega)
      omega
    · exact h
  have tb : t ≤ 1048576 := by
    rcases Int.lt_or_le 1048576 t with h | h
    · have := Int.mul_le_mul (show 1048577 ≤ t by omega) (show 1048577 ≤ t by omega) (by decide) (by omega)
      omega
    · exact h
  walk_at "go"
  refine q _ ?_
  have e0 : 0 ≤ 4 * r * 1048576 / (3 * (1048576 + t)) := Int.ediv_nonneg (by omega) (by omega)
  have e1 : 4 * r * 1048576 / (3 * (1048576 + t)) ≤ 4 * r * 1048576 := Int.ediv_le_self _ (by omega)
  constructor <;> omega

theorem piece_ok (hn : 3 ≤ n) {x y a c : Int} {b : Bool} (h1 : Sm x) (h2 : Sm y) (h3 : 0 < x * x + y * y) (h4 : x * x + y * y < 2 ^ 250) (h5 : -1048576 ≤ (x * a + y * c) * 1048576 / (x * x + y * y))
    (q : ∀ i j u v, Q (.tup [.tup [.int i, .int j], .tup [.int u, .int v]]) τ) : CL w hb n (.ref 274) [.tup [.int x, .int y], .tup [.int a, .int c], .bool b] τ Q := by
  refine CL.up hn fun k hk => ?_
  walk_at "enter"
  walk_at "go"
  refine share_ok (by omega) h1 h2 h3 h4 h5 fun r hr => ?_
  walk_at "go"
  refine quarter_on_ok (by omega) ?_
  walk_at "go"
  refine quarter_on_ok (by omega) ?_
  walk_at "go"
  exact q _ _ _ _

noncomputable def apartM (p q : Fr2) : Fr2 := (q.1 - p.1, q.2 - p.2)
noncomputable def midM (p q : Fr2) : Fr2 := ((p.1 + q.1) / 2, (p.2 + q.2) / 2)
noncomputable def sizeM (p q : Fr2) : Int := (apartM p q).1 * (apartM p q).1 + (apartM p q).2 * (apartM p q).2
noncomputable def cenM (p q : Fr2) (r : Int) : Fr2 := ((midM p q).1 + r * (0 - (apartM p q).2) / 2097152, (midM p q).2 + r * (apartM p q).1 / 2097152)
theorem centre_ok (hn : 2 ≤ n) {p1 p2 q1 q2 : Int} {lg sw : Bool} (h1 : Sm (q1 - p1)) (h2 : Sm (q2 - p2)) (h3 : 0 < sizeM (p1, p2) (q1, q2)) (h4 : sizeM (p1, p2) (q1, q2) < 2 ^ 250) (h5 : (4 * 1048576 * 1048576 - sizeM (p1, p2) (q1, q2)) * 1048576 * 1048576 / sizeM (p1, p2) (q1, q2) < 2 ^ 120)
    (k1 : 4 * 1048576 * 1048576 ≤ sizeM (p1, p2) (q1, q2) → Q (pv2 (midM (p1, p2) (q1, q2))) τ)
    (k2 : sizeM (p1, p2) (q1, q2) < 4 * 1048576 * 1048576 → ∀ r, 0 ≤ r → r * r ≤ (4 * 1048576 * 1048576 - sizeM (p1, p2) (q1, q2)) * 1048576 * 1048576 / sizeM (p1, p2) (q1, q2) → (4 * 1048576 * 1048576 - sizeM (p1, p2) (q1, q2)) * 1048576 * 1048576 / sizeM (p1, p2) (q1, q2) < (r + 1) * (r + 1) →
      Q (pv2 (cenM (p1, p2) (q1, q2) (if lg = sw then 0 - r else r))) τ) : CL w hb n (.ref 246) [.tup [.int p1, .int p2], .tup [.int q1, .int q2], .bool lg, .bool sw] τ Q := by
  refine CL.up hn fun k hk => ?_
  walk_at "enter"
  walk_at "go"
  refine dot_ok (by omega) (.inl h1) (.inl h2) ?_
  rw [show (q1 - p1) * (q1 - p1) + (q2 - p2) * (q2 - p2) = sizeM (p1, p2) (q1, q2) from rfl]
  generalize hS : sizeM (p1, p2) (q1, q2) = S at *
  walk_at "go"
  refine ⟨fun hc => ?_, fun hc => ?_⟩
  · walk_at "go"
    exact k1 (by simpa using hc)
  · have hc : S < 4 * 1048576 * 1048576 := by simpa using hc
    walk_at "go"
    refine root_ok (by omega) (Int.ediv_nonneg (by omega) (by omega)) h5 fun r r0 r1 r2 => ?_
    have rb : r < 2 ^ 60 := by
      rcases Int.lt_or_le r (2 ^ 60) with h | h
      · exact h
      · have := Int.mul_le_mul h h (by decide) r0
        omega
    have := k2 hc r r0 r1 r2
    walk_at "go"
    refine ⟨fun hc => ?_, fun hc => ?_⟩
    · rw [if_pos (by simpa using hc)] at this
      walk_at "go"
      refine turned_ok (by omega) ?_
      walk_at "go"
      exact this
    · rw [if_neg (by simpa using hc)] at this
      walk_at "go"
      refine turned_ok (by omega) ?_
      walk_at "go"
      exact this

noncomputable def toldM (rx ry c s : Int) (cen v : Fr2) : Fr2 := ledM rx ry c s (cen.1 + v.1) (cen.2 + v.2)
noncomputable def frP (x : Int) : Fr2 := (x / (Int.gcd x 1048576 : Int), 1048576 / (Int.gcd x 1048576 : Int))
theorem point_ok (hn : 3 ≤ n) {rx ry c s : Int} {a b u v : Int} (h1 : Sm rx) (h2 : Sm ry) (h3 : Sm c) (h4 : Sm s)
    (q : Q (pv4 (frP (toldM rx ry c s (a, b) (u, v)).1, frP (toldM rx ry c s (a, b) (u, v)).2)) τ) : CL w hb n (.ref 295) [.ell rx ry c s, .tup [.int a, .int b], .tup [.int u, .int v]] τ Q := by
  refine CL.up hn fun k hk => ?_
  walk_at "enter"
  walk_at "go"
  refine led_ok (by omega) h1 h2 h3 h4 ?_
  walk_at "go"
  refine fraction_ok (by omega) (by decide) (by decide) ?_
  walk_at "go"
  refine fraction_ok (by omega) (by decide) (by decide) ?_
  walk_at "go"
  exact q
end
end
section
noncomputable def oneOf (W H x y : Int) : Fr2 := backM W H 1048576 0 (inP (x, 1)) (inP (y, 1))
noncomputable def cenOf (o1 o2 : Fr2) (lg sw : Bool) : Fr2 := cenM o1 o2 (if lg = sw then 0 - 1048576 else 1048576)
noncomputable def sub2 (p c : Fr2) : Fr2 := (p.1 - c.1, p.2 - c.2)
abbrev absI (a : Int) : Int := if a < 0 then -a else a
noncomputable def PieceOk (u v : Fr2) : Prop := (Sm u.1 ∧ Sm u.2) ∧ 0 < u.1 * u.1 + u.2 * u.2 ∧ u.1 * u.1 + u.2 * u.2 < 2 ^ 250 ∧ -1048576 ≤ (u.1 * v.1 + u.2 * v.2) * 1048576 / (u.1 * u.1 + u.2 * u.2)
noncomputable def ptOf (W H : Int) (cen v : Fr2) : PV := pv4 (frP (toldM W H 1048576 0 cen v).1, frP (toldM W H 1048576 0 cen v).2)
structure ArcPre (W H : Int) (o1 o2 cen : Fr2) : Prop where
  w0 : 0 < W
  w1 : W < 2 ^ 60
  h0 : 0 < H
  h1 : H < 2 ^ 60
  a1 : Sm (o2.1 - o1.1)
  a2 : Sm (o2.2 - o1.2)
  size : sizeM o1 o2 = 2199023255552
  ne : ¬ (o1.1 = o2.1 ∧ o1.2 = o2.2)
  b1 : Sm (o1.1 - cen.1)
  b2 : Sm (o1.2 - cen.2)
section
variable {w : World} {hb : Bs} {n : Nat} {τ : St} {Q : PV → St → Prop}
theorem in_parts1_ok (hn : 2 ≤ n) {a : Int} (q : Q (.int (inP (a, 1))) τ) : CL w hb n (.ref 183) [.tup [.int a, .int 1]] τ Q := in_parts_ok hn (by decide) (by decide) q
theorem arc_ok (hn : 10 ≤ n) {x0 y0 x1 y1 a b : Int} {W H : Int} {lg sw : Bool} {o1 o2 cen u0 uE : Fr2} (hW : absI (inP (a, 1)) = W) (hH : absI (inP (b, 1)) = H) (ho1 : oneOf W H x0 y0 = o1) (ho2 : oneOf W H x1 y1 = o2) (hc : cenOf o1 o2 lg sw = cen)
    (hu0 : sub2 o1 cen = u0) (huE : sub2 o2 cen = uE) (pre : ArcPre W H o1 o2 cen) (hne : ¬ (x0 = x1 ∧ y0 = y1))
    (hV : (vecM sw uE 3 u0 = [u0] ∧ PieceOk u0 uE ∧ ∀ (X Y Z : List PV) (i j : Fr2 × Fr2), Q (.adr (τ.length + 3)) (τ ++ [X] ++ [Y] ++ [Z] ++ [[.tup [pv4 ((x0, 1), (y0, 1)), pv4 i, pv4 j, pv4 ((x1, 1), (y1, 1))]]])) ∨
      (∃ u1 u2, vecM sw uE 3 u0 = [u0, u1, u2] ∧ PieceOk u0 u1 ∧ PieceOk u1 u2 ∧ PieceOk u2 uE ∧ ∀ (X Y Z : List PV) (i j k l m p : Fr2 × Fr2), Q (.adr (τ.length + 3)) (τ ++ [X] ++ [Y] ++ [Z] ++
        [[.tup [pv4 ((x0, 1), (y0, 1)), pv4 i, pv4 j, ptOf W H cen u1], .tup [ptOf W H cen u1, pv4 k, pv4 l, ptOf W H cen u2], .tup [ptOf W H cen u2, pv4 m, pv4 p, pv4 ((x1, 1), (y1, 1))]]]))) :
    CL w hb n (.ref 302) [pv4 ((x0, 1), (y0, 1)), pv2 (a, 1), pv2 (b, 1), pv2 (0, 1), .bool lg, .bool sw, pv4 ((x1, 1), (y1, 1))] τ Q := by
  have pw0 := pre.w0
  have pw1 := pre.w1
  have ph0 := pre.h0
  have ph1 := pre.h1
  refine CL.up hn fun k hk => ?_
  walk_at "enter"
  walk_at "go"
  refine O2_eqD 8 rfl rfl rfl rfl ?_
  refine ⟨_, rfl, fun hc => ?_, fun hc' => ?_⟩
  · exfalso
    simp [PyData.eqv, PyData.eqvAll] at hc
    exact hne hc
  clear hc'
  walk_at "go"
  refine in_parts1_ok (by omega) ?_
  walk_at "go"
  refine in_parts1_ok (by omega) ?_
  walk_at "go"
  rw [show (if inP (a, 1) < 0 then -inP (a, 1) else inP (a, 1)) = W from hW, show (if inP (b, 1) < 0 then -inP (b, 1) else inP (b, 1)) = H from hH]
  refine ⟨fun hc => absurd hc (by simp; omega), fun hc' => ?_⟩
  clear hc'
  walk_at "go"
  refine ⟨fun hc => absurd hc (by simp; omega), fun hc' => ?_⟩
  clear hc'
  walk_at "go"
  refine Ell_ok (r := ((1, 1), (0, 1))) (by omega) (by decide +kernel) (by decide) (by decide) ?_
  rw [show inP ((1, 1) : Fr2) = 1048576 from rfl, show inP ((0, 1) : Fr2) = 0 from rfl]
  walk_at "go"
  refine in_parts1_ok (by omega) ?_
  walk_at "go"
  refine in_parts1_ok (by omega) ?_
  walk_at "go"
  refine back_ok (by omega) ⟨pw0, by omega⟩ ⟨ph0, by omega⟩ (by decide) (by decide) ?_
  rw [show backM W H 1048576 0 (inP (x0, 1)) (inP (y0, 1)) = o1 from ho1]
  walk_at "go"
  refine in_parts1_ok (by omega) ?_
  walk_at "go"
  refine in_parts1_ok (by omega) ?_
  walk_at "go"
  refine back_ok (by omega) ⟨pw0, by omega⟩ ⟨ph0, by omega⟩ (by decide) (by decide) ?_
  rw [show backM W H 1048576 0 (inP (x1, 1)) (inP (y1, 1)) = o2 from ho2]
  walk_at "go"
  refine O2_eqD 8 rfl rfl rfl rfl ?_
  refine ⟨_, rfl, fun hc => ?_, fun hc' => ?_⟩
  · exfalso
    simp [PyData.eqv, PyData.eqvAll] at hc
    exact pre.ne hc
  clear hc'
  walk_at "go"
  have hm : (4 * 1048576 * 1048576 - sizeM (o1.1, o1.2) (o2.1, o2.2)) * 1048576 * 1048576 / sizeM (o1.1, o1.2) (o2.1, o2.2) = 1099511627776 := by
    rw [show sizeM (o1.1, o1.2) (o2.1, o2.2) = 2199023255552 from pre.size]; rfl
  refine centre_ok (by omega) pre.a1 pre.a2 (by rw [show sizeM (o1.1, o1.2) (o2.1, o2.2) = 2199023255552 from pre.size]; decide) (by rw [show sizeM (o1.1, o1.2) (o2.1, o2.2) = 2199023255552 from pre.size]; decide) (by rw [hm]; decide) ?_ ?_
  · rw [show sizeM (o1.1, o1.2) (o2.1, o2.2) = 2199023255552 from pre.size]
    intro hh
    exact absurd hh (by decide)
  rw [hm]
  intro _ r r0 r1 r2
  have hr : r = 1048576 := by
    have l1 : r ≤ 1048576 := by
      rcases Int.lt_or_le 1048576 r with h | h
      · have := Int.mul_le_mul (show 1048577 ≤ r by omega) (show 1048577 ≤ r by omega) (by decide) r0
        omega
      · exact h
    have l2 : 1048576 ≤ r := by
      rcases Int.lt_or_le r 1048576 with h | h
      · have := Int.mul_le_mul (show r + 1 ≤ 1048576 by omega) (show r + 1 ≤ 1048576 by omega) (by omega) (by decide)
        omega
      · exact h
    omega
  subst hr
  rw [show cenM (o1.1, o1.2) (o2.1, o2.2) (if lg = sw then 0 - 1048576 else 1048576) = cen from hc]
  walk_at "go"
  have sW : Sm W := by constructor <;> omega
  have sH : Sm H := by constructor <;> omega
  refine vectors_ok (by omega) pre.b1 pre.b2 ?_
  rw [show vecM sw (o2.1 - cen.1, o2.2 - cen.2) 3 (o1.1 - cen.1, o1.2 - cen.2) = vecM sw uE 3 u0 by rw [← hu0, ← huE]; rfl, show ((o2.1 - cen.1, o2.2 - cen.2) : Fr2) = uE from huE]
  rcases hV with ⟨e1, PP, q⟩ | ⟨u1, u2, e1, P1, P2, P3, q⟩
  · rw [e1]
    generalize hT : τ ++ [List.map pv2 [u0]] ++ [[pv2 uE]] ++ [List.map pv2 [u0] ++ [pv2 uE]] = T
    have hvl : ∀ L, (T ++ [L])[τ.length + 2]? = some [pv2 u0, pv2 uE] := fun L => by rw [← hT]; simp
    have hv0 : T[τ.length + 2]? = some [pv2 u0, pv2 uE] := by rw [← hT]; simp
    have hTl : τ.length + 3 = T.length := by rw [← hT]; simp
    rw [hTl] at q
    walk_at "go"
    refine CL_lenL (hvl _) (Nat.le_of_ble_eq_true rfl) ?_
    rw [show (([pv2 u0, pv2 uE] : List PV).length : Int) = 2 from rfl]
    walk_at "go"
    rw [show ((2 : Int) - 1 - 0).toNat = 1 from rfl]
    refine ⟨trivial, _, rfl, ?_⟩
    walk_at "go"
    refine O2_itemL rfl (hvl _) (by decide) (by decide) rfl ?_
    walk_at "go"
    refine O2_itemL rfl (hvl _) (by decide) (by decide) rfl ?_
    walk_at "go"
    refine piece_ok (by omega) PP.1.1 PP.1.2 PP.2.1 PP.2.2.1 PP.2.2.2 (fun i j u v => ?_)
    walk_at "go"
    refine CL_lenL (hvl _) (Nat.le_of_ble_eq_true rfl) ?_
    walk_at "go"
    refine ⟨fun _ => ?_, fun hc => absurd hc (by simp)⟩
    walk_at "go"
    refine EV_Append (fun _ => rfl) rfl rfl ?_
    walk_at "go"
    refine ⟨_, rfl, ?_⟩
    walk_at "go"
    refine point_ok (by omega) sW sH (by decide) (by decide) ?_
    walk_at "go"
    refine point_ok (by omega) sW sH (by decide) (by decide) ?_
    walk_at "go"
    refine ⟨_, get_last' _ _, Nat.le_of_ble_eq_true rfl, rfl, ?_⟩
    walk_at "go"
    rw [set_last']
    refine ⟨trivial, ?_⟩
    walk_at "go"
    have := q (List.map pv2 [u0]) [pv2 uE] (List.map pv2 [u0] ++ [pv2 uE])
    rw [hT] at this
    exact this _ _
  · rw [e1]
    generalize hT : τ ++ [List.map pv2 [u0, u1, u2]] ++ [[pv2 uE]] ++ [List.map pv2 [u0, u1, u2] ++ [pv2 uE]] = T
    have hvl : ∀ L, (T ++ [L])[τ.length + 2]? = some [pv2 u0, pv2 u1, pv2 u2, pv2 uE] := fun L => by rw [← hT]; simp
    have hTl : τ.length + 3 = T.length := by rw [← hT]; simp
    rw [hTl] at q
    walk_at "go"
    refine CL_lenL (hvl _) (Nat.le_of_ble_eq_true rfl) ?_
    rw [show (([pv2 u0, pv2 u1, pv2 u2, pv2 uE] : List PV).length : Int) = 4 from rfl]
    walk_at "go"
    rw [show ((4 : Int) - 1 - 0).toNat = 3 from rfl]
    refine ⟨trivial, _, rfl, ?_⟩
    walk_at "go"
    refine O2_itemL rfl (hvl _) (by decide) (by decide) rfl ?_
    walk_at "go"
    refine O2_itemL rfl (hvl _) (by decide) (by decide) rfl ?_
    walk_at "go"
    refine piece_ok (by omega) P1.1.1 P1.1.2 P1.2.1 P1.2.2.1 P1.2.2.2 (fun i j u v => ?_)
    walk_at "go"
    refine CL_lenL (hvl _) (Nat.le_of_ble_eq_true rfl) ?_
    walk_at "go"
    refine ⟨fun hc => absurd hc (by simp), fun _ => ?_⟩
    walk_at "go"
    refine O2_itemL rfl (hvl _) (by decide) (by decide) rfl ?_
    walk_at "go"
    refine point_ok (by omega) sW sH (by decide) (by decide) ?_
    walk_at "go"
    refine EV_Append (fun _ => rfl) rfl rfl ?_
    walk_at "go"
    refine ⟨_, rfl, ?_⟩
    walk_at "go"
    refine point_ok (by omega) sW sH (by decide) (by decide) ?_
    walk_at "go"
    refine point_ok (by omega) sW sH (by decide) (by decide) ?_
    walk_at "go"
    refine ⟨_, get_last' _ _, Nat.le_of_ble_eq_true rfl, rfl, ?_⟩
    walk_at "go"
    rw [set_last']
    refine ⟨trivial, _, rfl, ?_⟩
    walk_at "go"
    refine O2_itemL rfl (hvl _) (by decide) (by decide) rfl ?_
    walk_at "go"
    refine O2_itemL rfl (hvl _) (by decide) (by decide) rfl ?_
    walk_at "go"
    refine piece_ok (by omega) P2.1.1 P2.1.2 P2.2.1 P2.2.2.1 P2.2.2.2 (fun i j u v => ?_)
    walk_at "go"
    refine CL_lenL (hvl _) (Nat.le_of_ble_eq_true rfl) ?_
    walk_at "go"
    refine ⟨fun hc => absurd hc (by simp), fun _ => ?_⟩
    walk_at "go"
    refine O2_itemL rfl (hvl _) (by decide) (by decide) rfl ?_
    walk_at "go"
    refine point_ok (by omega) sW sH (by decide) (by decide) ?_
    walk_at "go"
    refine EV_Append (fun _ => rfl) rfl rfl ?_
    walk_at "go"
    refine ⟨_, rfl, ?_⟩
    walk_at "go"
    refine point_ok (by omega) sW sH (by decide) (by decide) ?_
    walk_at "go"
    refine point_ok (by omega) sW sH (by decide) (by decide) ?_
    walk_at "go"
    refine ⟨_, get_last' _ _, Nat.le_of_ble_eq_true rfl, rfl, ?_⟩
    walk_at "go"
    rw [set_last']
    refine ⟨trivial, _, rfl, ?_⟩
    walk_at "go"
    refine O2_itemL rfl (hvl _) (by decide) (by decide) rfl ?_
    walk_at "go"
    refine O2_itemL rfl (hvl _) (by decide) (by decide) rfl ?_
    walk_at "go"
    refine piece_ok (by omega) P3.1.1 P3.1.2 P3.2.1 P3.2.2.1 P3.2.2.2 (fun i j u v => ?_)
    walk_at "go"
    refine CL_lenL (hvl _) (Nat.le_of_ble_eq_true rfl) ?_
    walk_at "go"
    refine ⟨fun _ => ?_, fun hc => absurd hc (by simp)⟩
    walk_at "go"
    refine EV_Append (fun _ => rfl) rfl rfl ?_
    walk_at "go"
    refine ⟨_, rfl, ?_⟩
    walk_at "go"
    refine point_ok (by omega) sW sH (by decide) (by decide) ?_
    walk_at "go"
    refine point_ok (by omega) sW sH (by decide) (by decide) ?_
    walk_at "go"
    refine ⟨_, get_last' _ _, Nat.le_of_ble_eq_true rfl, rfl, ?_⟩
    walk_at "go"
    rw [set_last']
    refine ⟨trivial, ?_⟩
    walk_at "go"
    have := q (List.map pv2 [u0, u1, u2]) [pv2 uE] (List.map pv2 [u0, u1, u2] ++ [pv2 uE])
    rw [hT] at this
    exact this _ _ _ _ _ _
end
end
section
noncomputable def SrcS (τ : St) (i j : Nat) : Prop := ∃ (a b : Int) (l : List Int), τ[i]? = some [.int a, .int b, .adr j] ∧ τ[j]? = some (l.map PV.int) ∧ i ≠ j ∧ 0 ≤ b ∧ b < 2 ^ 31 ∧ l.length ≤ 100
noncomputable def Grow (τ τ' : St) (i j : Nat) : Prop := τ.length ≤ τ'.length ∧ ∀ x l, x ≠ i → x ≠ j → τ[x]? = some l → τ'[x]? = some l
theorem Grow.refl {τ : St} {i j : Nat} : Grow τ τ i j := ⟨Nat.le_refl _, fun _ _ _ _ e => e⟩
theorem Grow.trans {τ τ₁ τ₂ : St} {i j : Nat} (a : Grow τ τ₁ i j) (b : Grow τ₁ τ₂ i j) : Grow τ τ₂ i j := ⟨Nat.le_trans a.1 b.1, fun x l h1 h2 e => b.2 x l h1 h2 (a.2 x l h1 h2 e)⟩
theorem get_app {τ X : St} {x : Nat} {l : List PV} (e : τ[x]? = some l) : (τ ++ X)[x]? = some l := by
  rw [List.getElem?_append_left (List.getElem?_eq_some_iff.mp e).1]; exact e
theorem Grow.app {τ X : St} {i j : Nat} : Grow τ (τ ++ X) i j := ⟨by simp, fun _ _ _ _ e => get_app e⟩
theorem SrcS.app {τ X : St} {i j : Nat} (h : SrcS τ i j) : SrcS (τ ++ X) i j := let ⟨a, b, l, h1, h2, r⟩ := h; ⟨a, b, l, get_app h1, get_app h2, r⟩
theorem Grow.set1 {τ : St} {i j : Nat} {l : List PV} : Grow τ (τ.set i l) i j := ⟨by simp, fun x m h1 _ e => by rw [List.getElem?_set_ne (Ne.symm h1)]; exact e⟩
theorem Grow.set2 {τ : St} {i j : Nat} {l : List PV} : Grow τ (τ.set j l) i j := ⟨by simp, fun x m _ h2 e => by rw [List.getElem?_set_ne (Ne.symm h2)]; exact e⟩
theorem get_set_self {τ : St} {i : Nat} {l l' : List PV} (e : τ[i]? = some l) : (τ.set i l')[i]? = some l' := List.getElem?_set_self (List.getElem?_eq_some_iff.mp e).1
theorem get_set_ne {τ : St} {i x : Nat} {l l' : List PV} (e : τ[x]? = some l) (h : x ≠ i) : (τ.set i l')[x]? = some l := by rw [List.getElem?_set_ne (Ne.symm h)]; exact e

theorem toDs_ints (τ : St) (k : Nat) : ∀ l : List Int, toDs (toD τ (k + 1)) (l.map PV.int) = some (l.map PyData.int)
  | [] => rfl
  | a :: l => by simp [toDs, toD, toDs_ints τ k l]
theorem toD_ints {τ : St} {j : Nat} {l : List Int} (k : Nat) (e : τ[j]? = some (l.map PV.int)) : toD τ (k + 2) (.adr j) = some (.list (l.map PyData.int)) := by
  unfold toD; rw [e, Option.bind_some, toDs_ints]; rfl
theorem eqv_nil (l : List Int) : PyData.eqv (.list (l.map PyData.int)) (.list []) = decide (l = []) := by
  cases l <;> simp [PyData.eqv, PyData.eqvAll]
section
variable {w : World} {hb : Bs} {n : Nat} {τ : St} {Q : PV → St → Prop}
theorem O2_neNil {j k : Nat} {l : List Int} (hj : τ[j]? = some (l.map PV.int)) (hk : τ[k]? = some []) (q : Q (.bool (!decide (l = []))) τ) : O2 w hb n (compareOp .NotEq) (.adr j) (.adr k) τ Q :=
  O2_neD 8 (toD_ints 6 hj) (toD_ints (l := []) 6 hk) (ke_shaped_ints _) (ke_shaped_ints []) (by rw [show ([] : List Int).map PyData.int = [] from rfl, eqv_nil]; exact q)
theorem O2_neNilB {k : Nat} {l : List Int} (hk : τ[k]? = some []) (q : Q (.bool (!decide (l = []))) τ) : O2 w hb n (compareOp .NotEq) (.blist l) (.adr k) τ Q :=
  O2_neD 8 rfl (toD_ints (l := []) 6 hk) (ke_shaped_ints _) (ke_shaped_ints []) (by rw [show ([] : List Int).map PyData.int = [] from rfl, eqv_nil]; exact q)
theorem O2_eqNilB {k : Nat} {l : List Int} (hk : τ[k]? = some []) (q : Q (.bool (decide (l = []))) τ) : O2 w hb n (compareOp .Eq) (.blist l) (.adr k) τ Q :=
  O2_eqD 8 rfl (toD_ints (l := []) 6 hk) (ke_shaped_ints _) (ke_shaped_ints []) (by rw [show ([] : List Int).map PyData.int = [] from rfl, eqv_nil]; exact q)
theorem O2_itemB0 {value slice : Expr} {a : Int} {l : List Int} (hp : plainIdx slice = true) (q : Q (.int a) τ) : O2 w hb n (subscriptTail value slice) (.blist (a :: l)) (.int 0) τ Q := by
  intro H A L μ s x y hA hB hS ra rb
  simp only [Rep] at ra rb
  obtain ⟨b, vs, rfl, hl, hi⟩ := ra
  obtain ⟨t, rfl⟩ := rb
  cases hi with
  | cons _ t' hi =>
    have hL : s.heap.IsList b (Value.int a t' :: _).toArray := hl.at fun o e => hB.up _ _ e
    exact tail_any hL.typeIs slot_list_getitem.lookup (wpAny_getItem_list hL (by decide) (by decide) (x := .int a t') (by simp) (Post.here hS rfl (Same.refl s) rep_int q)) (subscripted_plain hp _ _)

theorem take_ok (hn : 1 ≤ n) {i j : Nat} {top : Int} (h : SrcS τ i j) (t0 : 0 < top) (t1 : top < 2 ^ 62) (q : ∀ r τ', 0 ≤ r → r < top → SrcS τ' i j → Grow τ τ' i j → Q (.int r) τ') : CL w hb n (.ref 316) [.adr i, .int top] τ Q := by
  obtain ⟨a, b, l, h1, h2, hij, b0, b1, hl⟩ := h
  refine CL.up hn fun k hk => ?_
  walk_at "enter"
  walk_at "go"
  refine O2_itemL rfl h1 (by decide) (by decide) rfl ?_
  walk_at "go"
  refine O2_neNil (get_app h2) (by simp) ?_
  walk_at "go"
  refine ⟨fun hc => ?_, fun hc => ?_⟩
  · cases l with
    | nil => simp at hc
    | cons x l =>
      walk_at "go"
      refine EV_Pop0 (fun _ => rfl) rfl rfl ?_
      walk_at "go"
      refine O2_itemL rfl (get_app h1) (by decide) (by decide) rfl ?_
      refine ⟨_, rfl, ?_⟩
      walk_at "go"
      refine ⟨_, _, rfl, get_app h2, by simp at *; omega, ?_⟩
      walk_at "go"
      refine q _ _ (Int.emod_nonneg _ (by omega)) (Int.emod_lt_of_pos _ t0) ?_ (Grow.app.trans Grow.set2)
      exact ⟨a, b, l, get_set_ne (get_app h1) hij, get_set_self (get_app h2), hij, b0, b1, by simp at *; omega⟩
  · walk_at "go"
    refine O2_itemL rfl (get_app h1) (by decide) (by decide) rfl ?_
    walk_at "go"
    refine ⟨fun hc => ?_, fun hc => ?_⟩
    · walk_at "go"
      refine O2_itemL rfl (get_app h1) (by decide) (by decide) rfl ?_
      walk_at "go"
      refine O2_itemL rfl (get_app h1) (by decide) (by decide) rfl ?_
      walk_at "go"
      refine ⟨_, _, _, rfl, rfl, get_app h1, by decide, by simp, Nat.le_of_ble_eq_true rfl, rfl, ?_⟩
      walk_at "go"
      refine q _ _ (Int.emod_nonneg _ (by omega)) (Int.emod_lt_of_pos _ t0) ?_ (Grow.app.trans Grow.set1)
      exact ⟨a / top, b, l, get_set_self (get_app h1), get_set_ne (get_app h2) (Ne.symm hij), hij, b0, b1, hl⟩
    · walk_at "go"
      refine O2_itemL rfl (get_app h1) (by decide) (by decide) rfl ?_
      walk_at "go"
      refine ⟨_, _, _, rfl, rfl, get_app h1, by decide, by simp, Nat.le_of_ble_eq_true rfl, rfl, ?_⟩
      have e0 : 0 ≤ (b * 39373 + 7) % 2147483647 := Int.emod_nonneg _ (by decide)
      have e1 : (b * 39373 + 7) % 2147483647 < 2147483647 := Int.emod_lt_of_pos _ (by decide)
      walk_at "go"
      refine O2_itemL rfl (get_set_self (get_app h1)) (by decide) (by decide) rfl ?_
      walk_at "go"
      refine O2_itemL rfl (get_set_self (get_app h1)) (by decide) (by decide) rfl ?_
      walk_at "go"
      refine q _ _ (Int.emod_nonneg _ (by omega)) (Int.emod_lt_of_pos _ t0) ?_ (Grow.app.trans Grow.set1)
      exact ⟨a, _, l, get_set_self (get_app h1), get_set_ne (get_app h2) (Ne.symm hij), hij, e0, by omega, hl⟩
end
end
section
section
variable {w : World} {hb : Bs} {n : Nat} {τ : St} {Q : PV → St → Prop}
theorem one_ok (hn : 2 ≤ n) {i j k : Nat} {l : List PV} (h : SrcS τ i j) (hk : τ[k]? = some l) (ki : k ≠ i) (kj : k ≠ j) (l0 : 0 < l.length) (l1 : l.length ≤ 1000) (hne : noEllL l = true)
    (q : ∀ x τ', x ∈ l → SrcS τ' i j → Grow τ τ' i j → Q x τ') : CL w hb n (.ref 323) [.adr i, .adr k] τ Q := by
  refine CL.up hn fun d hd => ?_
  walk_at "enter"
  walk_at "go"
  refine CL_lenL hk l1 ?_
  walk_at "go"
  refine take_ok (by omega) h (by omega) (by omega) fun r τ' r0 r1 h' g => ?_
  have hr : r.toNat < l.length := by omega
  refine O2_itemL rfl (g.2 k l ki kj hk) r0 (by omega) (List.getElem?_eq_getElem hr) ?_
  exact ⟨noEllL_get hne (List.getElem?_eq_getElem hr), q _ _ (List.getElem_mem hr) h' g⟩

theorem pool_ok (hn : 1 ≤ n) {s : List Int} {row : List Int} {j : Nat} (hj : τ[j]? = some (row.map PV.int)) (hr : row.length ≤ 100)
    (q : ∀ i j' τ', SrcS τ' i j' → Q (.adr i) τ') : CL w hb n (.ref 309) [.blist s, .adr j] τ Q := by
  have m31 : ∀ x : Int, 0 ≤ x % 2147483647 ∧ x % 2147483647 < 2 ^ 31 := fun x => ⟨Int.emod_nonneg _ (by decide), by have := Int.emod_lt_of_pos x (show (0 : Int) < 2147483647 by decide); omega⟩
  refine CL.up hn fun k hk => ?_
  walk_at "enter"
  walk_at "go"
  refine O2_neNilB (by simp) ?_
  walk_at "go"
  refine ⟨fun hc => ?_, fun hc => ?_⟩
  · cases s with
    | nil => simp at hc
    | cons a s =>
      walk_at "go"
      refine O2_itemB0 rfl ?_
      walk_at "go"
      refine O2_pow (k := 18) (by decide) (by decide) ?_
      walk_at "go"
      refine O2_eqNilB (by simp) ?_
      walk_at "go"
      refine ⟨fun hc => absurd hc (by simp), fun _ => ?_⟩
      walk_at "go"
      exact q _ _ _ ⟨_, _, [], get_last' _ _, get_app (get_last' _ _), by simp, (m31 _).1, (m31 _).2, by simp⟩
  · cases s with
    | cons a s => simp at hc
    | nil =>
      walk_at "go"
      refine O2_pow (k := 18) (by decide) (by decide) ?_
      walk_at "go"
      refine O2_eqNilB (by simp) ?_
      walk_at "go"
      refine ⟨fun _ => ?_, fun hc => absurd hc (by simp)⟩
      walk_at "go"
      have jl := (List.getElem?_eq_some_iff.mp hj).1
      exact q _ _ _ ⟨_, _, row, get_last' _ _, get_app (get_app (get_app hj)), by simp; omega, (m31 _).1, (m31 _).2, hr⟩
end
end
section
section
variable {w : World} {hb : Bs} {n : Nat} {τ : St} {Q : PV → St → Prop}
noncomputable def rotv (v : Fr2) : Fr2 := (0 - v.2, v.1)
noncomputable def rounds : Nat → List Fr2 → List Fr2
  | 0, _ => []
  | k + 1, f => f ++ rounds k (f.map rotv)
noncomputable def four0 : List Fr2 := [(8000, 0), (7400, 3000), (5600, 5700), (2900, 7300)]
noncomputable def round16 : List Fr2 := rounds 4 four0
theorem set_mid (τ X : St) (A A' F : List PV) : (τ ++ [A] ++ X ++ [F]).set τ.length A' = τ ++ [A'] ++ X ++ [F] := by
  rw [List.append_assoc, List.append_assoc, List.set_append_right _ _ (Nat.le_refl _)]
  simp
theorem round_ok (hn : 1 ≤ n) (q : ∀ X : St, Q (.adr τ.length) (τ ++ [round16.map pv2] ++ X)) : CL w hb n (.ref 328) [] τ Q := by
  refine CL.up hn fun k hk => ?_
  walk_at "enter"
  walk_at "go"
  refine ForI.inv (fun ps ρ' τ' => ∃ (acc four : List Fr2) (X : St), τ' = τ ++ [acc.map pv2] ++ X ++ [four.map pv2] ∧ ρ'.lookup ("found" : Str) = some (.adr τ.length) ∧ ρ'.lookup ("four" : Str) = some (.adr (τ.length + 1 + X.length)) ∧ four.length = 4 ∧ acc.length + 4 * ps.length = 16 ∧ acc ++ rounds ps.length four = round16)
    (fun _ _ _ _ => trivial) ?_ ?_ _ _ _ ⟨[], four0, [], by simp [four0], rfl, by simp; rfl, rfl, by simp [rngFrom_length], rfl⟩
  · rintro p ps ρ' τ' ⟨acc, four, X, rfl, e1, e2, e3, e4, e5⟩
    refine ⟨_, rfl, ?_⟩
    have hfi : ∀ A F : List PV, (τ ++ [A] ++ X ++ [F])[τ.length]? = some A := fun A F => get_app (get_app (get_last' _ _))
    have hfo : ∀ A F : List PV, (τ ++ [A] ++ X ++ [F])[τ.length + 1 + X.length]? = some F := fun A F => by
      have := get_last' (τ ++ [A] ++ X) F
      simpa only [List.length_append, List.length_cons, List.length_nil, Nat.zero_add] using this
    walk_at "go"
    refine EV_Extend (fun _ => rfl) rfl rfl ?_
    walk_at "go"
    refine ⟨_, rfl, ?_⟩
    walk_at "go"
    refine ⟨_, _, _, rfl, by omega, hfi _ _, hfo _ _, by simp at *; omega, by simp at *; omega, ?_⟩
    rw [set_mid]
    walk_at "go"
    refine ⟨_, _, rfl, hfo _ _, by simp at *; omega, ?_⟩
    generalize hT : τ ++ [List.map pv2 acc ++ List.map pv2 four] ++ X ++ [List.map pv2 four] = T
    refine CompI.inv (fun ps ys ρ2 τ2 => τ2 = T ∧ ∃ d r : List Fr2, ps = r.map pv2 ∧ ys = (d.map rotv).map pv2 ∧ d ++ r = four) (fun _ _ _ τ2 h => by rw [h.1, ← hT]; exact hfo _ _) ?_ ?_ _ _ _ _ ⟨rfl, [], four, rfl, rfl, rfl⟩
    · rintro p2 ps2 ys ρ2 τ2 ⟨rfl, d, r, h1, rfl, h3⟩
      cases r with
      | nil => simp at h1
      | cons v r =>
        simp only [List.map_cons, List.cons.injEq] at h1
        obtain ⟨rfl, rfl⟩ := h1
        refine ⟨_, rfl, ?_⟩
        show (_ ∧ _)
        refine ⟨fun _ => ?_, fun h => absurd h (by decide)⟩
        walk_at "go"
        exact ⟨rfl, d ++ [v], r, rfl, by simp [rotv], by simpa using h3⟩
    · rintro ys ρ2 τ2 ⟨rfl, d, r, h1, rfl, h3⟩
      have hr : r = [] := by cases r with | nil => rfl | cons _ _ => simp at h1
      subst hr
      have hd : d = four := by simpa using h3
      subst hd
      walk_at "go"
      refine ⟨acc ++ d, d.map rotv, X ++ [d.map pv2], ?_, e1, ?_, by simpa using e3, by simp at *; omega, by simpa [rounds] using e5⟩
      · rw [← hT]; simp
      · rw [← hT]; simp [List.lookup]; omega
  · rintro ρ' τ' ⟨acc, four, X, rfl, e1, e2, e3, e4, e5⟩
    walk_at "go"
    have e5 : acc = round16 := by simpa [rounds] using e5
    rw [e5, List.append_assoc (τ ++ _)]
    exact q _
end
end
section
section
variable {w : World} {hb : Bs} {n : Nat} {τ : St} {Q : PV → St → Prop}
noncomputable def rotN : Nat → Fr2 → Fr2
  | 0, v => v
  | k + 1, v => rotN k (rotv v)
theorem lawled_ok (hn : 1 ≤ n) {rx ry qs v0 v1 : Int} (h1 : Sm rx) (h2 : Sm ry) (q0 : 0 ≤ qs) (q1 : qs < 2 ^ 60) (q : Q (pv2 (rotN qs.toNat (v0 * rx / 1048576, v1 * ry / 1048576))) τ) :
    CL w hb n (.ref 340) [.int rx, .int ry, .int qs, .tup [.int v0, .int v1]] τ Q := by
  refine CL.up hn fun k hk => ?_
  walk_at "enter"
  walk_at "go"
  refine ForI.inv (fun ps ρ' τ' => τ' = τ ∧ ∃ x y : Int, ρ'.lookup ("x" : Str) = some (.int x) ∧ ρ'.lookup ("y" : Str) = some (.int y) ∧ rotN ps.length (x, y) = rotN qs.toNat (v0 * rx / 1048576, v1 * ry / 1048576)) (fun _ _ _ _ => trivial) ?_ ?_ _ _ _
    ⟨rfl, _, _, rfl, rfl, by rw [rngFrom_length]; simp⟩
  · rintro p ps ρ' τ' ⟨rfl, x, y, e1, e2, e3⟩
    refine ⟨_, rfl, ?_⟩
    walk_at "go"
    exact ⟨rfl, _, _, rfl, rfl, e3⟩
  · rintro ρ' τ' ⟨rfl, x, y, e1, e2, e3⟩
    walk_at "go"
    rw [← e3] at q
    exact q

noncomputable def NearP (f : Fr2) (x : Int) : Prop := ¬ 24 * f.2 < absI (f.1 - x * f.2) * 1048576
theorem near_ok (hn : 1 ≤ n) {f1 f2 : Fr2} {x y : Int} (sx : Sm x) (sy : Sm y) (h1 : NearP f1 x) (h2 : NearP f2 y) (q : Q (.bool true) τ) : CL w hb n (.ref 352) [pv4 (f1, f2), .int x, .int y] τ Q := by
  refine CL.up hn fun k hk => ?_
  walk_at "enter"
  walk_at "go"
  refine ⟨_, _, _, _, rfl, rfl, rfl, rfl, rfl, rfl, fun H => ?_⟩
  refine ⟨⟨rfl, rfl⟩, _, rfl, ?_⟩
  walk_at "go"
  refine ⟨fun hc => absurd (by simpa using hc) h1, fun _ => ?_⟩
  walk_at "go"
  refine ⟨⟨rfl, rfl⟩, _, rfl, ?_⟩
  walk_at "go"
  refine ⟨fun hc => absurd (by simpa using hc) h2, fun _ => ?_⟩
  walk_at "go"
  refine ⟨⟨rfl, rfl⟩, ?_⟩
  walk_at "go"
  exact q
end
end
section
theorem get_last3 (τ : St) (A B C : List PV) : (τ ++ [A] ++ [B] ++ [C])[τ.length + 2]? = some C := by
  have := get_last' (τ ++ [A] ++ [B]) C
  simpa only [List.length_append, List.length_cons, List.length_nil, Nat.zero_add, Nat.add_assoc, Nat.reduceAdd] using this
noncomputable def dv2 (p : Fr2) : PyData := .tuple [.int p.1, .int p.2]
theorem toDs_pv2s (τ : St) (k : Nat) : ∀ l : List Fr2, toDs (toD τ (k + 2)) (l.map pv2) = some (l.map dv2)
  | [] => rfl
  | a :: l => by
    have e : toD τ (k + 2) (pv2 a) = some (dv2 a) := rfl
    simp only [List.map_cons, toDs, e, Option.bind_some, toDs_pv2s τ k l, Option.map_some]
theorem toD_pv2s {τ : St} {j : Nat} {l : List Fr2} (k : Nat) (e : τ[j]? = some (l.map pv2)) : toD τ (k + 3) (.adr j) = some (.list (l.map dv2)) := by
  unfold toD; rw [e, Option.bind_some, toDs_pv2s]; rfl
theorem lay_pv2s : ∀ l : List Fr2, PyData.canLayAll0 (l.map dv2) = true
  | [] => rfl
  | _ :: r => by simp [PyData.canLayAll0, PyData.canLay0, dv2, lay_pv2s r]
theorem depth_pv2s : ∀ l : List Fr2, PyData.depthAll (l.map dv2) ≤ 1
  | [] => by simp [PyData.depthAll]
  | _ :: r => by
    have := depth_pv2s r
    simp [PyData.depthAll, PyData.depth, dv2]
    omega
theorem shaped_pv2s (l : List Fr2) : SeqAt.shaped (.list (l.map dv2)) = true := by
  have := depth_pv2s l
  simp [SeqAt.shaped, PyData.canLay0, PyData.depth, lay_pv2s]
  omega
theorem eqv_pv2s : ∀ l : List Fr2, PyData.eqvAll (l.map dv2) (l.map dv2) = true
  | [] => rfl
  | _ :: r => by simp [PyData.eqvAll, PyData.eqv, dv2, eqv_pv2s r]

noncomputable def rd (k : Int) : Fr2 := round16.getD k.toNat (0, 0)
noncomputable def dueT (st here : Int) (t : Nat) : Fr2 := rd ((here + 4 * st * (t : Int)) % 16)
noncomputable def dueL (st here away : Int) (m : Nat) : List Fr2 := ((List.range m).filter fun t : Nat => ((t : Int) == 0) || decide (4 * (t : Int) < away)).map (dueT st here)
noncomputable def stOf (sw : Bool) : Int := if sw = true then 1 else -1
theorem qf1 : ∀ h : Nat, h < 16 → ∀ sw : Bool, qon (rd h) sw = rd (((h : Int) + 4 * stOf sw) % 16) := by decide +kernel
theorem qf2 : ∀ h : Nat, h < 16 → ∀ a : Nat, a < 16 → ∀ sw : Bool, inq (rd h) (rd (((h : Int) + stOf sw * (a : Int)) % 16)) sw = decide ((a : Int) ≤ 4) := by decide +kernel
theorem qf3 : ∀ h : Nat, h < 16 → ∀ a : Nat, a < 16 → ∀ sw : Bool, vecM sw (rd (((h : Int) + stOf sw * (a : Int)) % 16)) 3 (rd h) = dueL (stOf sw) h a 4 := by decide +kernel
theorem qf4 : ∀ h : Nat, h < 16 → Sm (rd h).1 ∧ Sm (rd h).2 := by decide +kernel
theorem rd_get {k : Int} (h0 : 0 ≤ k) (h1 : k < 16) : (round16.map pv2)[k.toNat]? = some (pv2 (rd k)) := by
  obtain ⟨m, rfl⟩ := Int.eq_ofNat_of_zero_le h0
  have hm : m < round16.length := by have : round16.length = 16 := by decide
                                     omega
  rw [List.getElem?_map, Int.toNat_natCast, List.getElem?_eq_getElem hm]
  simp [rd, hm]
theorem dueL_succ (st here away : Int) (m : Nat) : dueL st here away (m + 1) = if (((m : Int) == 0) || decide (4 * (m : Int) < away)) = true then dueL st here away m ++ [dueT st here m] else dueL st here away m := by
  unfold dueL
  rw [List.range_succ, List.filter_append, List.map_append]
  split <;> simp_all
section
variable {w : World} {hb : Bs} {n : Nat} {τ : St} {Q : PV → St → Prop}
theorem rngFrom_succ (m : Nat) (k : Nat) : rngFrom (m : Int) 1 (k + 1) = .int m :: rngFrom ((m + 1 : Nat) : Int) 1 k := by
  show PV.int (m : Int) :: rngFrom ((m : Int) + 1) 1 k = _
  push_cast; rfl

theorem quarters_ok (hn : 4 ≤ n) {i j : Nat} (h : SrcS τ i j) (q : ∀ τ', SrcS τ' i j → Grow τ τ' i j → Q (.bool true) τ') : CL w hb n (.ref 333) [.adr i] τ Q := by
  refine CL.up hn fun k hk => ?_
  have ⟨ii, jj⟩ : i < τ.length ∧ j < τ.length := by
    obtain ⟨_, _, _, h1, h2, _⟩ := h
    exact ⟨(List.getElem?_eq_some_iff.mp h1).1, (List.getElem?_eq_some_iff.mp h2).1⟩
  walk_at "enter"
  walk_at "go"
  refine round_ok (by omega) fun X => ?_
  have s1 : SrcS (τ ++ [round16.map pv2] ++ X) i j := h.app.app
  have g1 : Grow τ (τ ++ [round16.map pv2] ++ X) i j := Grow.app.trans Grow.app
  have r1 : (τ ++ [round16.map pv2] ++ X)[τ.length]? = some (round16.map pv2) := get_app (get_last' _ _)
  generalize τ ++ [round16.map pv2] ++ X = τ1 at *
  walk_at "go"
  refine take_ok (by omega) s1 (by decide) (by decide) fun here τ2 a0 a1 s2 g2 => ?_
  walk_at "go"
  refine take_ok (by omega) s2 (by decide) (by decide) fun away τ3 b0 b1 s3 g3 => ?_
  walk_at "go"
  refine take_ok (by omega) s3 (by decide) (by decide) fun r τ4 c0 c1 s4 g4 => ?_
  have g := ((g1.trans g2).trans g3).trans g4
  have r4 : τ4[τ.length]? = some (round16.map pv2) := ((g2.trans g3).trans g4).2 _ _ (by omega) (by omega) r1
  obtain ⟨hh, rfl⟩ := Int.eq_ofNat_of_zero_le a0
  obtain ⟨aa, rfl⟩ := Int.eq_ofNat_of_zero_le b0
  have ha : hh < 16 := by omega
  have hb' : aa < 16 := by omega
  have sst : Sm (if (r == 0) = true then (1 : Int) else -1) := by split <;> decide
  walk_at "go"
  generalize hsw : (r == 0) = sw at *
  have f1 := qf1 hh ha sw
  have f2 := qf2 hh ha aa hb' sw
  have f3 := qf3 hh ha aa hb' sw
  have f4 := qf4 hh ha
  rw [show (if sw = true then (1 : Int) else -1) = stOf sw from rfl] at sst
  refine O2_itemL rfl r4 a0 (by omega) (rd_get a0 a1) ?_
  walk_at "go"
  refine O2_itemL rfl r4 (Int.emod_nonneg _ (by decide)) (by have := Int.emod_lt_of_pos ((hh : Int) + (if sw = true then 1 else -1) * (aa : Int)) (show (0 : Int) < 16 by decide); omega) (rd_get (Int.emod_nonneg _ (by decide)) (Int.emod_lt_of_pos _ (by decide))) ?_
  rw [show (if sw = true then (1 : Int) else -1) = stOf sw from rfl]
  generalize hone : rd (hh : Int) = one at *
  generalize hoth : rd (((hh : Int) + stOf sw * (aa : Int)) % 16) = oth at *
  walk_at "go"
  refine quarter_on_ok (by omega) ?_
  walk_at "go"
  refine O2_itemL rfl r4 (Int.emod_nonneg _ (by decide)) (by have := Int.emod_lt_of_pos ((hh : Int) + 4 * stOf sw) (show (0 : Int) < 16 by decide); omega) (rd_get (Int.emod_nonneg _ (by decide)) (Int.emod_lt_of_pos _ (by decide))) ?_
  rw [← f1, show ((one.1, one.2) : Fr2) = one from rfl]
  refine O2_neD 8 rfl rfl rfl rfl ?_
  refine ⟨_, rfl, fun hc => ?_, fun hc' => ?_⟩
  · exfalso
    simp [PyData.eqv, PyData.eqvAll] at hc
  clear hc'
  walk_at "go"
  refine within_ok (by omega) f4.1 f4.2 ?_
  rw [show inq (one.1, one.2) (oth.1, oth.2) sw = decide ((aa : Int) ≤ 4) from f2]
  walk_at "go"
  refine ⟨fun hc => ?_, fun hc' => ?_⟩
  · exfalso
    simp at hc
  clear hc'
  walk_at "go"
  refine CompI.inv (fun ps ys ρ2 τ2 => τ2 = τ4 ∧ ∃ m d : Nat, ps = rngFrom (m : Int) 1 d ∧ m + d = 4 ∧ ys = (dueL (stOf sw) hh aa m).map pv2 ∧ ρ2.lookup ("some" : Str) = some (.adr τ.length) ∧ ρ2.lookup ("here" : Str) = some (.int (hh : Int)) ∧ ρ2.lookup ("step" : Str) = some (.int (stOf sw)) ∧
    ρ2.lookup ("away" : Str) = some (.int (aa : Int))) (fun _ _ _ _ _ => trivial) ?_ ?_ _ _ _ _ ⟨rfl, 0, 4, rfl, rfl, rfl, rfl, rfl, rfl, rfl⟩
  · rintro p2 ps2 ys ρ2 τ2 ⟨e0, m, d, h1, h2, h3, u1, u2, u3, u4⟩
    subst e0
    cases d with
    | zero => cases h1
    | succ d =>
      rw [rngFrom_succ] at h1
      cases h1
      refine ⟨_, rfl, ?_⟩
      show ET _ _ _ _ _ _ _ _
      walk_at "go"
      have m16 : ∀ z : Int, z % 16 < 2 ^ 63 := fun z => by have := Int.emod_lt_of_pos z (show (0 : Int) < 16 by decide); omega
      refine ⟨fun hc => ⟨fun _ => ?_, fun h => absurd h (by decide)⟩, fun hc => ?_⟩
      · walk_at "go"
        refine O2_itemL rfl r4 (Int.emod_nonneg _ (by decide)) (m16 _) (rd_get (Int.emod_nonneg _ (by decide)) (Int.emod_lt_of_pos _ (by decide))) ?_
        refine ⟨rfl, rfl, m + 1, d, rfl, by omega, ?_, u1, u2, u3, u4⟩
        rw [h3, dueL_succ, if_pos (by rw [hc]; rfl), List.map_append]
        rfl
      · walk_at "go"
        refine ⟨fun hc2 => ?_, fun hc2 => ?_⟩
        · walk_at "go"
          refine O2_itemL rfl r4 (Int.emod_nonneg _ (by decide)) (m16 _) (rd_get (Int.emod_nonneg _ (by decide)) (Int.emod_lt_of_pos _ (by decide))) ?_
          refine ⟨rfl, rfl, m + 1, d, rfl, by omega, ?_, u1, u2, u3, u4⟩
          rw [h3, dueL_succ, if_pos (by rw [hc, hc2]; rfl), List.map_append]
          rfl
        · refine ⟨rfl, m + 1, d, rfl, by omega, ?_, u1, u2, u3, u4⟩
          rw [h3, dueL_succ, if_neg (by rw [hc, hc2]; decide)]
  · rintro ys ρ2 τ2 ⟨e0, m, d, h1, h2, h3, u1, u2, u3, u4⟩
    subst e0
    have hd0 : d = 0 := by cases d with | zero => rfl | succ d => cases h1
    subst hd0
    have hm4 : m = 4 := by omega
    subst hm4
    subst h3
    walk_at "go"
    refine vectors_ok (by omega) f4.1 f4.2 ?_
    rw [show vecM sw (oth.1, oth.2) 3 (one.1, one.2) = dueL (stOf sw) hh aa 4 from f3]
    generalize hD : dueL (stOf sw) hh aa 4 = D
    have hDl : D.length ≤ 4 := by
      rw [← hD]; unfold dueL
      refine Nat.le_trans (by rw [List.length_map]; exact List.length_filter_le _ _) (by simp)
    walk_at "go"
    refine O2_lcat (l := D.map pv2) (l' := [pv2 oth]) (by simp) (by simp) (by simp; omega) (by simp) ?_
    refine O2_eqD (dp := .list ((D ++ [oth]).map dv2)) (dq := .list ((D ++ [oth]).map dv2)) 8 (toD_pv2s 5 (by rw [List.map_append]; exact get_app (get_app (get_last3 _ _ _ _)))) (toD_pv2s 5 (by rw [List.map_append]; exact get_last' _ _)) (shaped_pv2s _) (shaped_pv2s _) ?_
    rw [show PyData.eqv (.list ((D ++ [oth]).map dv2)) (.list ((D ++ [oth]).map dv2)) = true from eqv_pv2s _]
    refine ⟨rfl, q _ ?_ ?_⟩
    · exact s4.app.app.app.app.app.app
    · exact g.trans (((((Grow.app.trans Grow.app).trans Grow.app).trans Grow.app).trans Grow.app).trans Grow.app)
end
end
section
theorem there_back {rx x y v f c s X Y e1 e2 : Int} (hr : 1048576 ≤ rx) (hv : -4194304 ≤ v ∧ v ≤ 4194304) (hc : -1048576 ≤ c ∧ c ≤ 1048576) (hs : -1048576 ≤ s ∧ s ≤ 1048576)
    (hq : -2097152 ≤ c * c + s * s - 1048576 * 1048576 ∧ c * c + s * s - 1048576 * 1048576 ≤ 2097152)
    (hx : 1048576 * x = v * rx - f) (f0 : 0 ≤ f) (f1 : f < 1048576) (hX : 1048576 * X = c * x - s * y - e1) (a0 : 0 ≤ e1) (a1 : e1 < 1048576) (hY : 1048576 * Y = s * x + c * y - e2) (b0 : 0 ≤ e2) (b1 : e2 < 1048576) :
    -24 ≤ (c * X + s * Y) / rx - v ∧ (c * X + s * Y) / rx - v ≤ 24 := by
  obtain ⟨d, hd⟩ : ∃ d, d = c * c + s * s - 1048576 * 1048576 := ⟨_, rfl⟩
  rw [← hd] at hq
  have k1 : 1048576 * (c * X + s * Y) = 1048576 * 1048576 * x + d * x - c * e1 - s * e2 := by
    have u1 : 1048576 * (c * X) = c * (c * x - s * y - e1) := by rw [← hX]; exact Int.mul_left_comm _ _ _
    have u2 : 1048576 * (s * Y) = s * (s * x + c * y - e2) := by rw [← hY]; exact Int.mul_left_comm _ _ _
    rw [Int.mul_add, u1, u2, hd]
    simp only [Int.mul_sub, Int.mul_add, Int.sub_mul, Int.add_mul]
    have w1 : c * (c * x) = c * c * x := (Int.mul_assoc _ _ _).symm
    have w2 : s * (s * x) = s * s * x := (Int.mul_assoc _ _ _).symm
    have w3 : s * (c * y) = c * (s * y) := Int.mul_left_comm _ _ _
    rw [w1, w2, w3]
    omega
  have m1 : -1048576 * 1048576 ≤ c * e1 ∧ c * e1 ≤ 1048576 * 1048576 := by
    constructor
    · exact Int.le_trans (by omega) (Int.mul_le_mul_of_nonneg_right hc.1 a0)
    · exact Int.le_trans (Int.mul_le_mul_of_nonneg_right hc.2 a0) (by omega)
  have m2 : -1048576 * 1048576 ≤ s * e2 ∧ s * e2 ≤ 1048576 * 1048576 := by
    constructor
    · exact Int.le_trans (by omega) (Int.mul_le_mul_of_nonneg_right hs.1 b0)
    · exact Int.le_trans (Int.mul_le_mul_of_nonneg_right hs.2 b0) (by omega)
  have m3 : -4194304 * rx ≤ v * rx ∧ v * rx ≤ 4194304 * rx := ⟨Int.mul_le_mul_of_nonneg_right hv.1 (by omega), Int.mul_le_mul_of_nonneg_right hv.2 (by omega)⟩
  have xb : -(4 * rx + 1) ≤ x ∧ x ≤ 4 * rx + 1 := by omega
  have m4 : -2097152 * (4 * rx + 1) ≤ d * x ∧ d * x ≤ 2097152 * (4 * rx + 1) := by
    have g1 : (2097152 - d) * (x + (4 * rx + 1)) ≥ 0 := Int.mul_nonneg (by omega) (by omega)
    have g2 : (2097152 + d) * (x + (4 * rx + 1)) ≥ 0 := Int.mul_nonneg (by omega) (by omega)
    have g3 : (2097152 - d) * ((4 * rx + 1) - x) ≥ 0 := Int.mul_nonneg (by omega) (by omega)
    have g4 : (2097152 + d) * ((4 * rx + 1) - x) ≥ 0 := Int.mul_nonneg (by omega) (by omega)
    generalize 4 * rx + 1 = z at *
    simp only [Int.mul_sub, Int.mul_add, Int.sub_mul, Int.add_mul] at g1 g2 g3 g4
    omega
  generalize c * X + s * Y = T at *
  generalize c * e1 = E1 at *
  generalize s * e2 = E2 at *
  generalize d * x = D at *
  have lo : (v - 24) * rx ≤ T := by rw [Int.sub_mul]; omega
  have hi : T < (v + 25) * rx := by rw [Int.add_mul]; omega
  have l1 := (Int.le_ediv_iff_mul_le (show 0 < rx by omega)).mpr lo
  have l2 := (Int.ediv_lt_iff_lt_mul (show 0 < rx by omega)).mpr hi
  omega
theorem led_back {rx ry c s v0 v1 : Int} (hr : 1048576 ≤ rx) (hr' : 1048576 ≤ ry) (h0 : -4194304 ≤ v0 ∧ v0 ≤ 4194304) (h1 : -4194304 ≤ v1 ∧ v1 ≤ 4194304) (hc : -1048576 ≤ c ∧ c ≤ 1048576) (hs : -1048576 ≤ s ∧ s ≤ 1048576)
    (hq : -2097152 ≤ c * c + s * s - 1048576 * 1048576 ∧ c * c + s * s - 1048576 * 1048576 ≤ 2097152) {p : Fr2} (hp : p = ledM rx ry c s v0 v1) :
    (-24 ≤ (backM rx ry c s p.1 p.2).1 - v0 ∧ (backM rx ry c s p.1 p.2).1 - v0 ≤ 24) ∧ (-24 ≤ (backM rx ry c s p.1 p.2).2 - v1 ∧ (backM rx ry c s p.1 p.2).2 - v1 ≤ 24) := by
  unfold ledM at hp
  have ex := Int.mul_ediv_add_emod (v0 * rx) 1048576
  have ey := Int.mul_ediv_add_emod (v1 * ry) 1048576
  have bx := Int.emod_nonneg (v0 * rx) (show (1048576 : Int) ≠ 0 by decide)
  have bx' := Int.emod_lt_of_pos (v0 * rx) (show (0 : Int) < 1048576 by decide)
  have by_ := Int.emod_nonneg (v1 * ry) (show (1048576 : Int) ≠ 0 by decide)
  have by' := Int.emod_lt_of_pos (v1 * ry) (show (0 : Int) < 1048576 by decide)
  generalize v0 * rx / 1048576 = x at *
  generalize v1 * ry / 1048576 = y at *
  generalize v0 * rx % 1048576 = f at *
  generalize v1 * ry % 1048576 = g at *
  have eX := Int.mul_ediv_add_emod (c * x - s * y) 1048576
  have eY := Int.mul_ediv_add_emod (s * x + c * y) 1048576
  have bX := Int.emod_nonneg (c * x - s * y) (show (1048576 : Int) ≠ 0 by decide)
  have bX' := Int.emod_lt_of_pos (c * x - s * y) (show (0 : Int) < 1048576 by decide)
  have bY := Int.emod_nonneg (s * x + c * y) (show (1048576 : Int) ≠ 0 by decide)
  have bY' := Int.emod_lt_of_pos (s * x + c * y) (show (0 : Int) < 1048576 by decide)
  generalize (c * x - s * y) / 1048576 = X at *
  generalize (s * x + c * y) / 1048576 = Y at *
  generalize (c * x - s * y) % 1048576 = e1 at *
  generalize (s * x + c * y) % 1048576 = e2 at *
  subst hp
  have hn : (-s) * (-s) = s * s := by rw [Int.neg_mul_neg]
  constructor
  · exact there_back (rx := rx) (x := x) (y := y) (f := f) (e1 := e1) (e2 := e2) hr h0 hc hs hq (by omega) bx bx' (by omega) bX bX' (by omega) bY bY'
  · have t := there_back (rx := ry) (x := y) (y := x) (v := v1) (f := g) (c := c) (s := -s) (X := Y) (Y := X) (e1 := e2) (e2 := e1) hr' h1 hc (by omega) (by rw [hn]; exact hq) (by omega) by_ by'
      (by rw [Int.neg_mul]; omega) bY bY' (by rw [Int.neg_mul]; omega) bX bX'
    rw [Int.neg_mul] at t
    exact t
theorem plain_turn : ∀ q : Nat, q < 4 → ∃ r : Fr2 × Fr2, turnM (90 * (q : Int), 1) 1048576 = some r ∧ (0 < 2 * r.1.2 ∧ 2 * r.1.2 < 2 ^ 250) ∧ (0 < 2 * r.2.2 ∧ 2 * r.2.2 < 2 ^ 250) ∧ Sm (inP r.1) ∧ Sm (inP r.2) ∧
    ∀ rx ry v0 v1 : Int, ledM rx ry (inP r.1) (inP r.2) v0 v1 = rotN q (v0 * rx / 1048576, v1 * ry / 1048576) := by
  intro q hq
  match q, hq with
  | 0, _ =>
    refine ⟨((1, 1), (0, 1)), by decide +kernel, by decide, by decide, by decide, by decide, fun rx ry v0 v1 => ?_⟩
    rw [show inP ((1, 1) : Fr2) = 1048576 by decide, show inP ((0, 1) : Fr2) = 0 by decide]
    unfold ledM rotN
    generalize v0 * rx / 1048576 = x
    generalize v1 * ry / 1048576 = y
    refine Prod.ext ?_ ?_ <;> (simp only []; omega)
  | 1, _ =>
    refine ⟨((0, 1), (1, 1)), by decide +kernel, by decide, by decide, by decide, by decide, fun rx ry v0 v1 => ?_⟩
    rw [show inP ((1, 1) : Fr2) = 1048576 by decide, show inP ((0, 1) : Fr2) = 0 by decide]
    unfold ledM rotN rotN rotv
    generalize v0 * rx / 1048576 = x
    generalize v1 * ry / 1048576 = y
    refine Prod.ext ?_ ?_ <;> (simp only []; omega)
  | 2, _ =>
    refine ⟨((-1, 1), (0, 1)), by decide +kernel, by decide, by decide, by decide, by decide, fun rx ry v0 v1 => ?_⟩
    rw [show inP ((-1, 1) : Fr2) = -1048576 by decide, show inP ((0, 1) : Fr2) = 0 by decide]
    unfold ledM rotN rotN rotN rotv
    generalize v0 * rx / 1048576 = x
    generalize v1 * ry / 1048576 = y
    refine Prod.ext ?_ ?_ <;> (simp only []; omega)
  | 3, _ =>
    refine ⟨((0, 1), (-1, 1)), by decide +kernel, by decide, by decide, by decide, by decide, fun rx ry v0 v1 => ?_⟩
    rw [show inP ((-1, 1) : Fr2) = -1048576 by decide, show inP ((0, 1) : Fr2) = 0 by decide]
    unfold ledM rotN rotN rotN rotN rotv
    generalize v0 * rx / 1048576 = x
    generalize v1 * ry / 1048576 = y
    refine Prod.ext ?_ ?_ <;> (simp only []; omega)
abbrev TurnOk (r : Fr2 × Fr2) : Prop := (0 < 2 * r.1.2 ∧ 2 * r.1.2 < 2 ^ 250) ∧ (0 < 2 * r.2.2 ∧ 2 * r.2.2 < 2 ^ 250) ∧ (-1048576 ≤ inP r.1 ∧ inP r.1 ≤ 1048576) ∧ (-1048576 ≤ inP r.2 ∧ inP r.2 ≤ 1048576) ∧
  (-2097152 ≤ inP r.1 * inP r.1 + inP r.2 * inP r.2 - 1048576 * 1048576 ∧ inP r.1 * inP r.1 + inP r.2 * inP r.2 - 1048576 * 1048576 ≤ 2097152)
noncomputable def slantOk (t b : Int) : Bool := match frM t b with
  | none => false
  | some p => match turnM p 1048576 with
    | none => false
    | some r => decide (TurnOk r)
theorem slants : ∀ t ∈ ([30, 45, -18, 200, 359, 7] : List Int), ∀ b ∈ ([1, 3] : List Int), slantOk t b = true := by decide +kernel
theorem slantOk.get {t b : Int} (h : slantOk t b = true) : ∃ p r, frM t b = some p ∧ turnM p 1048576 = some r ∧ TurnOk r := by
  unfold slantOk at h
  split at h
  · cases h
  · next p hp =>
    split at h
    · cases h
    · next r hr => exact ⟨p, r, hp, hr, of_decide_eq_true h⟩
end
section
theorem SrcS.lt {τ : St} {i j : Nat} (h : SrcS τ i j) : i < τ.length ∧ j < τ.length := by
  obtain ⟨_, _, _, h1, h2, _⟩ := h
  exact ⟨(List.getElem?_eq_some_iff.mp h1).1, (List.getElem?_eq_some_iff.mp h2).1⟩
noncomputable def GoodR (r : Int) : Prop := 1048576 ≤ r ∧ r ≤ 9437261
noncomputable def GoodV (v : Int) : Prop := -4194304 ≤ v ∧ v < 4194304
theorem int77 {x : PV} (h : x ∈ ([.int 0, .int 1, .int 77] : List PV)) : ∃ u : Int, x = .int u ∧ 0 ≤ u ∧ u ≤ 77 := by
  simp only [List.mem_cons, List.not_mem_nil, or_false] at h
  rcases h with rfl | rfl | rfl
  · exact ⟨0, rfl, by decide, by decide⟩
  · exact ⟨1, rfl, by decide, by decide⟩
  · exact ⟨77, rfl, by decide, by decide⟩
section
variable {w : World} {hb : Bs} {n : Nat} {τ : St} {Q : PV → St → Prop}
theorem frP_ok (hn : 2 ≤ n) {x : Int} (q : Q (pv2 (frP x)) τ) : CL w hb n (.ref 61) [.int x, .int 1048576] τ Q := fraction_ok hn (by decide) (by decide) q
theorem max24 {a b v0 v1 : Int} (h : (-24 ≤ a - v0 ∧ a - v0 ≤ 24) ∧ (-24 ≤ b - v1 ∧ b - v1 ≤ 24)) : (if (if b - v1 < 0 then -(b - v1) else b - v1) > (if a - v0 < 0 then -(a - v0) else a - v0) then (if b - v1 < 0 then -(b - v1) else b - v1) else (if a - v0 < 0 then -(a - v0) else a - v0)) ≤ 24 := by
  split <;> omega
theorem of_true {Q : PV → St → Prop} {τ : St} {b : Bool} (e : b = true) (q : Q (.bool true) τ) : Q (.bool b) τ := by subst e; exact q
theorem ellipse_ok (hn : 12 ≤ n) {i j : Nat} (h : SrcS τ i j) (q : ∀ τ', SrcS τ' i j → Grow τ τ' i j → Q (.bool true) τ') : CL w hb n (.ref 345) [.adr i] τ Q := by
  refine CL.up hn fun k hk => ?_
  walk_at "enter"
  refine ES_cons ?_
  refine EX_AssignTL rfl (by rfl) (fun env he => by first | rfl | (unfold swapsWithSole swapsWith; simp only [Env.blockKind, Env.kindOf, he]; rfl)) (fun env he => by rfl) ?_
  walk_at "go"
  refine CompI.inv (fun ps ys ρ2 τ2 => ∃ xs : List Int, ys = xs.map PV.int ∧ (∀ x ∈ xs, GoodR x) ∧ xs.length + ps.length = 2 ∧ SrcS τ2 i j ∧ Grow τ τ2 i j ∧ ρ2.lookup ("source" : Str) = some (.adr i)) (fun _ _ _ _ _ => trivial) ?_ ?_ _ _ _ _ ⟨[], rfl, by simp, rfl, h, Grow.refl, rfl⟩
  · rintro p ps ys ρ2 τ2 ⟨xs, e1, hx, hl, s2, g2, e2⟩
    refine ⟨_, rfl, ?_⟩
    show (_ ∧ _)
    refine ⟨fun _ => ?_, fun h => absurd h (by decide)⟩
    walk_at "go"
    refine take_ok (by omega) s2 (by decide) (by decide) fun r τ3 r0 r1 s3 g3 => ?_
    walk_at "go"
    have := s3.lt
    refine one_ok (by omega) s3.app (get_last' _ _) (by omega) (by omega) (by decide) (Nat.le_of_ble_eq_true rfl) rfl fun x τ4 hm s4 g4 => ?_
    obtain ⟨u, rfl, u0, u1⟩ := int77 hm
    walk_at "go"
    refine ⟨xs ++ [1048576 * (1 + r) + u], by rw [e1]; simp, ?_, by simp at *; omega, s4, (g2.trans g3).trans (Grow.app.trans g4), e2⟩
    intro x hx'
    rcases List.mem_append.mp hx' with m | m
    · exact hx x m
    · simp at m; subst m; constructor <;> omega
  · rintro ys ρ2 τ2 ⟨xs, e1, hx, hl, s2, g2, e2⟩
    obtain ⟨rx, ry, rfl⟩ : ∃ a b, xs = [a, b] := by
      match xs, hl with
      | [a, b], _ => exact ⟨a, b, rfl⟩
    have grx := hx rx (by simp)
    have gry := hx ry (by simp)
    subst e1
    refine ⟨_, _, rfl, get_last' _ _, rfl, ?_⟩
    replace s2 := s2.app (X := [[rx, ry].map PV.int])
    replace g2 := g2.trans (Grow.app (X := [[rx, ry].map PV.int]))
    generalize τ2 ++ [[rx, ry].map PV.int] = τ3 at *
    clear hl hx e2
    walk_at "go"
    refine CompI.inv (fun ps ys ρ2 τ2 => ∃ xs : List Int, ys = xs.map PV.int ∧ (∀ x ∈ xs, GoodV x) ∧ xs.length + ps.length = 2 ∧ SrcS τ2 i j ∧ Grow τ τ2 i j ∧ ρ2.lookup ("source" : Str) = some (.adr i)) (fun _ _ _ _ _ => trivial) ?_ ?_ _ _ _ _ ⟨[], rfl, by simp, rfl, s2, g2, rfl⟩
    · rintro p ps ys ρ2 τ2 ⟨xs, e1, hx, hl, s2, g2, e2⟩
      refine ⟨_, rfl, ?_⟩
      show (_ ∧ _)
      refine ⟨fun _ => ?_, fun h => absurd h (by decide)⟩
      walk_at "go"
      refine take_ok (by omega) s2 (by decide) (by decide) fun r τ4 r0 r1 s3 g3 => ?_
      walk_at "go"
      refine ⟨xs ++ [r - 4194304], by rw [e1]; simp, ?_, by simp at *; omega, s3, g2.trans g3, e2⟩
      intro x hx'
      rcases List.mem_append.mp hx' with m | m
      · exact hx x m
      · simp at m; subst m; constructor <;> omega
    · rintro ys ρ2 τ2 ⟨xs, e1, hx, hl, s2, g2, e2⟩
      obtain ⟨v0, v1, rfl⟩ : ∃ a b, xs = [a, b] := by
        match xs, hl with
        | [a, b], _ => exact ⟨a, b, rfl⟩
      have gv0 := hx v0 (by simp)
      have gv1 := hx v1 (by simp)
      subst e1
      walk_at "go"
      refine CL_tupleL (get_last' _ _) (Nat.le_of_ble_eq_true rfl) ?_
      replace s2 := s2.app (X := [[v0, v1].map PV.int])
      replace g2 := g2.trans (Grow.app (X := [[v0, v1].map PV.int]))
      generalize τ2 ++ [[v0, v1].map PV.int] = τ4 at *
      clear hl hx e2
      walk_at "go"
      refine take_ok (by omega) s2 (by decide) (by decide) fun qs τ5 q0 q1 s3 g3 => ?_
      replace g3 := g2.trans g3
      clear g2 s2
      obtain ⟨qq, rfl⟩ := Int.eq_ofNat_of_zero_le q0
      walk_at "go"
      refine fraction1_ok (by omega) ?_
      walk_at "go"
      obtain ⟨r, hr, k1, k2, m1, m2, hled⟩ := plain_turn qq (by omega)
      refine Ell_ok (by omega) hr k1 k2 ?_
      clear hr k1 k2
      have srx : Sm rx := by unfold GoodR at grx; unfold Sm; omega
      have sry : Sm ry := by unfold GoodR at gry; unfold Sm; omega
      walk_at "go"
      refine led_ok (by omega) srx sry m1 m2 ?_
      rw [hled]
      walk_at "go"
      refine lawled_ok (by omega) srx sry q0 (by omega) ?_
      rw [show ((qq : Int)).toNat = qq from rfl]
      generalize rotN qq (v0 * rx / 1048576, v1 * ry / 1048576) = RR
      refine O2_neD 8 rfl rfl rfl rfl ?_
      refine ⟨_, rfl, fun hc => ?_, fun hc' => ?_⟩
      · exfalso
        simp [PyData.eqv, PyData.eqvAll] at hc
      clear hc'
      walk_at "go"
      refine take_ok (by omega) s3 (by decide) (by decide) fun c0 τ6 a0 a1 s4 g4 => ?_
      replace g4 := g3.trans g4
      clear g3 s3
      walk_at "go"
      refine take_ok (by omega) s4 (by decide) (by decide) fun c1 τ7 b0 b1 s5 g5 => ?_
      replace g5 := g4.trans g5
      clear g4 s4
      walk_at "go"
      refine lawled_ok (by omega) srx sry q0 (by omega) ?_
      walk_at "go"
      refine point_ok (by omega) srx sry m1 m2 ?_
      unfold toldM
      rw [hled]
      rw [show ((qq : Int)).toNat = qq from rfl]
      generalize rotN qq _ = R2
      walk_at "go"
      refine frP_ok (by omega) ?_
      generalize frP R2.fst = fr1
      walk_at "go"
      refine frP_ok (by omega) ?_
      generalize frP R2.snd = fr2
      walk_at "go"
      refine O2_neD 8 rfl rfl rfl rfl ?_
      refine ⟨_, rfl, fun hc => ?_, fun hc' => ?_⟩
      · exfalso
        simp [PyData.eqv, PyData.eqvAll] at hc
      clear hc' hled m1 m2
      walk_at "go"
      have ll := s5.lt
      refine one_ok (by omega) s5.app (get_last' _ _) (by omega) (by omega) (by decide) (Nat.le_of_ble_eq_true rfl) rfl fun x τ8 hm s6 g6 => ?_
      obtain ⟨t, rfl, ht⟩ : ∃ t : Int, x = .int t ∧ t ∈ ([30, 45, -18, 200, 359, 7] : List Int) := by
        simp only [List.mem_cons, List.not_mem_nil, or_false] at hm
        rcases hm with rfl | rfl | rfl | rfl | rfl | rfl
        all_goals exact ⟨_, rfl, by simp⟩
      clear hm
      replace g6 := g5.trans (Grow.app.trans g6)
      clear g5 s5 ll
      walk_at "go"
      have ll := s6.lt
      refine one_ok (by omega) s6.app (get_last' _ _) (by omega) (by omega) (by decide) (Nat.le_of_ble_eq_true rfl) rfl fun x τ9 hm s7 g7 => ?_
      obtain ⟨b, rfl, hbb⟩ : ∃ b : Int, x = .int b ∧ b ∈ ([1, 3] : List Int) := by
        simp only [List.mem_cons, List.not_mem_nil, or_false] at hm
        rcases hm with rfl | rfl
        all_goals exact ⟨_, rfl, by simp⟩
      clear hm
      replace g7 := g6.trans (Grow.app.trans g7)
      clear g6 s6 ll
      obtain ⟨p, r, hp, hr, k1, k2, k3, k4, k5⟩ := slantOk.get (slants t ht b hbb)
      walk_at "go"
      refine fractionM_ok (by omega) hp ?_
      clear hp ht hbb
      walk_at "go"
      refine Ell_ok (by omega) hr k1 k2 ?_
      clear hr k1 k2
      have m1 : Sm (inP r.1) := by unfold Sm; omega
      have m2 : Sm (inP r.2) := by unfold Sm; omega
      have hlb := led_back (v0 := v0) (v1 := v1) grx.1 gry.1 (by unfold GoodV at gv0; omega) (by unfold GoodV at gv1; omega) k3 k4 k5 rfl
      generalize inP r.1 = c at *
      generalize inP r.2 = s at *
      clear k3 k4 k5
      walk_at "go"
      refine led_ok (by omega) srx sry m1 m2 ?_
      generalize ledM rx ry c s v0 v1 = LL at *
      walk_at "go"
      refine back_ok (by omega) (by unfold GoodR at grx; omega) (by unfold GoodR at gry; omega) m1 m2 ?_
      replace hlb := max24 hlb
      walk_at "go"
      refine of_true (Q := Q) (decide_eq_true hlb) (q _ s7 g7)
end
end
section
noncomputable def ax (rx ry k : Int) : Fr2 := ([(rx, 0), (0, ry), (-rx, 0), (0, -ry)] : List Fr2).getD k.toNat (0, 0)
noncomputable def ArcAll (W H : Int) (o1 o2 cen : Fr2) (p q : Fr2) : Prop :=
  0 < W ∧ W < 2 ^ 60 ∧ 0 < H ∧ H < 2 ^ 60 ∧ Sm (o2.1 - o1.1) ∧ Sm (o2.2 - o1.2) ∧ sizeM o1 o2 = 2199023255552 ∧ ¬ (o1.1 = o2.1 ∧ o1.2 = o2.2) ∧ Sm (o1.1 - cen.1) ∧ Sm (o1.2 - cen.2) ∧ ¬ (p.1 = q.1 ∧ p.2 = q.2)
theorem ArcAll.pre {W H : Int} {o1 o2 cen p q : Fr2} (h : ArcAll W H o1 o2 cen p q) : ArcPre W H o1 o2 cen ∧ ¬ (p.1 = q.1 ∧ p.2 = q.2) :=
  let ⟨a, b, c, d, e, f, g, i, j, k, l⟩ := h
  ⟨⟨a, b, c, d, e, f, g, i, j, k⟩, l⟩
noncomputable def arcB (a b : Int) (p q : Fr2) (lg sw : Bool) : Bool :=
  let W := absI (inP (a, 1)); let H := absI (inP (b, 1)); let o1 := oneOf W H p.1 p.2; let o2 := oneOf W H q.1 q.2; let cen := cenOf o1 o2 lg sw
  have : Decidable (ArcAll W H o1 o2 cen p q) := by unfold ArcAll; exact inferInstance
  decide (ArcAll W H o1 o2 cen p q)
noncomputable def pieceB (u v : Fr2) : Bool := have : Decidable (PieceOk u v) := by unfold PieceOk; exact inferInstance
  decide (PieceOk u v)
noncomputable def nearB (f : Fr2) (x : Int) : Bool := !decide (24 * f.2 < absI (f.1 - x * f.2) * 1048576)
noncomputable def smB (p : Fr2) : Bool := decide ((-(2 ^ 60) < p.1 ∧ p.1 < 2 ^ 60) ∧ (-(2 ^ 60) < p.2 ∧ p.2 < 2 ^ 60))
theorem smB.get {p : Fr2} (h : smB p = true) : Sm p.1 ∧ Sm p.2 := by
  have h := of_decide_eq_true h
  unfold Sm
  omega
noncomputable def arc1B (a b : Int) (p q : Fr2) (sw : Bool) : Bool :=
  let W := absI (inP (a, 1)); let H := absI (inP (b, 1)); let o1 := oneOf W H p.1 p.2; let o2 := oneOf W H q.1 q.2; let cen := cenOf o1 o2 false sw
  smB q && arcB a b p q false sw && decide (vecM sw (sub2 o2 cen) 3 (sub2 o1 cen) = [sub2 o1 cen]) && pieceB (sub2 o1 cen) (sub2 o2 cen)
noncomputable def arc3B (a b : Int) (p g1 g2 q : Fr2) (sw : Bool) : Bool :=
  let W := absI (inP (a, 1)); let H := absI (inP (b, 1)); let o1 := oneOf W H p.1 p.2; let o2 := oneOf W H q.1 q.2; let cen := cenOf o1 o2 true sw
  let u1 := qon (sub2 o1 cen) sw; let u2 := qon u1 sw
  smB g1 && smB g2 && smB q && arcB a b p q true sw && decide (vecM sw (sub2 o2 cen) 3 (sub2 o1 cen) = [sub2 o1 cen, u1, u2]) && pieceB (sub2 o1 cen) u1 && pieceB u1 u2 && pieceB u2 (sub2 o2 cen) &&
  nearB (frP (toldM W H 1048576 0 cen u1).1) g1.1 && nearB (frP (toldM W H 1048576 0 cen u1).2) g1.2 && nearB (frP (toldM W H 1048576 0 cen u2).1) g2.1 && nearB (frP (toldM W H 1048576 0 cen u2).2) g2.2
theorem arcs1 : ∀ a : Nat, a < 6 → ∀ b : Nat, b < 6 → ∀ h : Nat, h < 4 → ∀ sw : Bool, arc1B (1 + (a : Int)) (-(1 + (b : Int))) (ax (1 + (a : Int)) (1 + (b : Int)) (((h : Int) + stOf sw * 0) % 4)) (ax (1 + (a : Int)) (1 + (b : Int)) (((h : Int) + stOf sw * 1) % 4)) sw = true := by decide +kernel
theorem arcs3 : ∀ a : Nat, a < 6 → ∀ b : Nat, b < 6 → ∀ h : Nat, h < 4 → ∀ sw : Bool, arc3B (1 + (a : Int)) (-(1 + (b : Int))) (ax (1 + (a : Int)) (1 + (b : Int)) (((h : Int) + stOf sw * 0) % 4)) (ax (1 + (a : Int)) (1 + (b : Int)) (((h : Int) + stOf sw * 1) % 4))
  (ax (1 + (a : Int)) (1 + (b : Int)) (((h : Int) + stOf sw * 2) % 4)) (ax (1 + (a : Int)) (1 + (b : Int)) (((h : Int) + stOf sw * 3) % 4)) sw = true := by decide +kernel
theorem dec_get {p : Prop} (i : Decidable p) (h : @decide p i = true) : p := @of_decide_eq_true p i h
theorem arcB.get {a b : Int} {p q : Fr2} {lg sw : Bool} (h : arcB a b p q lg sw = true) : ArcAll (absI (inP (a, 1))) (absI (inP (b, 1))) (oneOf (absI (inP (a, 1))) (absI (inP (b, 1))) p.1 p.2) (oneOf (absI (inP (a, 1))) (absI (inP (b, 1))) q.1 q.2)
    (cenOf (oneOf (absI (inP (a, 1))) (absI (inP (b, 1))) p.1 p.2) (oneOf (absI (inP (a, 1))) (absI (inP (b, 1))) q.1 q.2) lg sw) p q := by
  unfold arcB at h
  exact dec_get _ h
theorem pieceB.get {u v : Fr2} (h : pieceB u v = true) : PieceOk u v := by
  unfold pieceB at h
  exact dec_get _ h
theorem nearB.get {f : Fr2} {x : Int} (h : nearB f x = true) : NearP f x := by
  unfold nearB at h
  unfold NearP
  intro h'
  rw [decide_eq_true h'] at h
  cases h
section
variable {w : World} {hb : Bs} {n : Nat} {τ : St} {Q : PV → St → Prop}
theorem arc1_ok (hn : 10 ≤ n) {a b : Int} {p q : Fr2} {sw : Bool} (h : arc1B a b p q sw = true)
    (k : ∀ (X Y Z : List PV) (i j : Fr2 × Fr2), Sm q.1 → Sm q.2 → Q (.adr (τ.length + 3)) (τ ++ [X] ++ [Y] ++ [Z] ++ [[.tup [pv4 ((p.1, 1), (p.2, 1)), pv4 i, pv4 j, pv4 ((q.1, 1), (q.2, 1))]]])) :
    CL w hb n (.ref 302) [pv4 ((p.1, 1), (p.2, 1)), pv2 (a, 1), pv2 (b, 1), pv2 (0, 1), .bool false, .bool sw, pv4 ((q.1, 1), (q.2, 1))] τ Q := by
  unfold arc1B at h
  simp only [Bool.and_eq_true] at h
  obtain ⟨⟨⟨h0, h1⟩, h2⟩, h3⟩ := h
  have e := (arcB.get h1).pre
  refine arc_ok hn rfl rfl rfl rfl rfl rfl rfl e.1 e.2 (.inl ⟨of_decide_eq_true h2, pieceB.get h3, fun X Y Z i j => k X Y Z i j (smB.get h0).1 (smB.get h0).2⟩)
theorem arc3_ok (hn : 10 ≤ n) {a b : Int} {p g1 g2 q : Fr2} {sw : Bool} (h : arc3B a b p g1 g2 q sw = true)
    (k : ∀ (X Y Z : List PV) (i j k l m o f g : Fr2 × Fr2), NearP f.1 g1.1 → NearP f.2 g1.2 → NearP g.1 g2.1 → NearP g.2 g2.2 →
      Sm g1.1 → Sm g1.2 → Sm g2.1 → Sm g2.2 → Sm q.1 → Sm q.2 → Q (.adr (τ.length + 3)) (τ ++ [X] ++ [Y] ++ [Z] ++ [[.tup [pv4 ((p.1, 1), (p.2, 1)), pv4 i, pv4 j, pv4 f], .tup [pv4 f, pv4 k, pv4 l, pv4 g], .tup [pv4 g, pv4 m, pv4 o, pv4 ((q.1, 1), (q.2, 1))]]])) :
    CL w hb n (.ref 302) [pv4 ((p.1, 1), (p.2, 1)), pv2 (a, 1), pv2 (b, 1), pv2 (0, 1), .bool true, .bool sw, pv4 ((q.1, 1), (q.2, 1))] τ Q := by
  unfold arc3B at h
  simp only [Bool.and_eq_true] at h
  obtain ⟨⟨⟨⟨⟨⟨⟨⟨⟨⟨⟨m1, m2⟩, m3⟩, h1⟩, h2⟩, h3⟩, h4⟩, h5⟩, h6⟩, h7⟩, h8⟩, h9⟩ := h
  have e := (arcB.get h1).pre
  refine arc_ok hn rfl rfl rfl rfl rfl rfl rfl e.1 e.2 (.inr ⟨_, _, of_decide_eq_true h2, pieceB.get h3, pieceB.get h4, pieceB.get h5, fun X Y Z i j k' l m o => k X Y Z i j k' l m o (_, _) (_, _) (nearB.get h6) (nearB.get h7) (nearB.get h8) (nearB.get h9) (smB.get m1).1 (smB.get m1).2 (smB.get m2).1 (smB.get m2).2 (smB.get m3).1 (smB.get m3).2⟩)
end
end
section
theorem slice_any {prog : Program} {w : World} {A : Around} {E : Value → Shared → Prop} {s : Shared} {env : Env} {value : Expr} {lower upper : Option Expr} {p pos : Pos} {Q : Value → Shared → Prop}
    (h : wpAny (model prog w) A (eval value env) (fun o s₁ => wpAny (model prog w) A (eval (.Slice lower upper none p) env) (fun i s₂ => s₂.TypeIs o "list" ∧ wpAny (model prog w) A (getItem o i) Q E s₂) E s₁) E s) :
    wpAny (model prog w) A (eval (.Subscript value (.Slice lower upper none p) pos) env) Q E s := by
  exact Subscript_ (wpAny_mono h (fun o s₁ h₁ => wpAny_mono h₁ (fun i s₂ h₂ => tail_any h₂.1 list_getitem_lookup h₂.2 rfl) fun _ _ x => x) fun _ _ x => x)
section
variable {w : World} {hb : Bs} {n : Nat} {sc : Scope} {ρ : List (Str × PV)} {τ : St} {Q : PV → St → Prop}
theorem ET_gen3 {e : Expr} {U X : St} {Q : Bool → St → Prop} {a b c : Nat} {la lb lc : List PV} (h1 : U[a]? = some la) (h2 : U[b]? = some lb) (h3 : U[c]? = some lc) (k : ∀ V : St, V[a]? = some la → V[b]? = some lb → V[c]? = some lc → ET w hb n sc e ρ V Q) :
    ET w hb n sc e ρ (U ++ X) Q := k _ (get_app h1) (get_app h2) (get_app h3)
theorem ES_gen3 {e : List Stmt} {U X : St} {C : Co} {a b c : Nat} {la lb lc : List PV} (h1 : U[a]? = some la) (h2 : U[b]? = some lb) (h3 : U[c]? = some lc) (k : ∀ V : St, V[a]? = some la → V[b]? = some lb → V[c]? = some lc → ES w hb n sc e ρ V C) :
    ES w hb n sc e ρ (U ++ X) C := k _ (get_app h1) (get_app h2) (get_app h3)
theorem EV_SliceToG {value hi : Expr} {p pos : Pos}
    (h : EV w hb n sc value ρ τ fun x τ₁ => EV w hb n sc hi ρ τ₁ fun y τ₂ => ∃ i l k, x = .adr i ∧ y = .int k ∧ 0 ≤ k ∧ τ₂[i]? = some l ∧ l.length ≤ 1000 ∧ Q (.adr τ₂.length) (τ₂ ++ [l.take k.toNat])) :
    EV w hb n sc (.Subscript value (.Slice none (some hi) none p) pos) ρ τ Q := by
  intro H A env m μ s hA hE hI
  refine slice_any (h.bind1 H hA hE hI fun v s₁ μ₁ τ₁ px T₁ e₁ I₁ r₁ q₁ => ?_)
  refine wpAny_Slice (wpAny_pure ?_)
  refine q₁.bind1 H hA hE I₁ fun v₂ s₂ μ₂ τ₂ py T₂ e₂ I₂ r₂ q₂ => wpAny_pure ?_
  obtain ⟨i, l, k, rfl, rfl, h0, hl, hz, q⟩ := q₂
  obtain ⟨a, us, c, rfl, ha, g, rs, hL⟩ := list_at I₂.store (r₁.step I₁.store T₂) hl
  obtain ⟨_, _, _, _, nel⟩ := I₂.store.at_ i a l ha hl
  simp only [Rep] at r₂
  obtain ⟨t, rfl⟩ := r₂
  refine ⟨Heap.IsList.typeIs (s := { s₂ with heap := s₂.heap.push { cls := .type "slice", data := .fields #[.none, .int k t, .none] } }) (hL.push _), ?_⟩
  refine slice_core I₂.store I₂.base (T₁.trans T₂) (e₁.trans e₂) g .none (.int k t) ⟨us.take k.toNat, ?_, RepL.take _ rs⟩ (noEllL_take _ nel) (by rw [rs.length]; exact hz) q
  have e : sliceBounds none (some k) none us.toArray.size = (((0 : Nat) : Int), ((min k.toNat us.toArray.size : Nat) : Int), 1) := by
    simp only [sliceBounds, Option.getD_none, show (1 : Int) > 0 by decide, if_true, if_neg (show ¬ (k < 0) by omega)]
    congr 1
    congr 1
    omega
  rw [kmk_pick_nat _ e, List.drop_zero, Nat.sub_zero, List.size_toArray, kmk_take_min]
end
local macro_rules | `(tactic| walk_at "ev1") => `(tactic| first
  | with_reducible refine' EV_SliceToG ?_
  | ((with_reducible refine' EV_SliceFrom ?a ?_); (case a => exact fun _ _ => rfl)))
theorem near_self (x : Int) : NearP (x, 1) x := by
  unfold NearP absI
  show ¬ 24 * 1 < (if x - x * 1 < 0 then -(x - x * 1) else x - x * 1) * 1048576
  split <;> omega
theorem ax_get (rx ry : Int) {k : Int} (h0 : 0 ≤ k) (h1 : k < 4) : ([.tup [.int rx, .int 0], .tup [.int 0, .int ry], .tup [.int (-rx), .int 0], .tup [.int 0, .int (-ry)]] : List PV)[k.toNat]? = some (pv2 (ax rx ry k)) := by
  have : k = 0 ∨ k = 1 ∨ k = 2 ∨ k = 3 := by omega
  rcases this with rfl | rfl | rfl | rfl <;> rfl
theorem m40 (x : Int) : 0 ≤ x % 4 ∧ x % 4 < 4 ∧ x % 4 < 2 ^ 63 := by omega
section
variable {w : World} {hb : Bs} {n : Nat} {sc : Scope} {ρ : List (Str × PV)} {τ : St}
theorem ET_Or3 {x y z : Expr} {pos : Pos} {Q : Bool → St → Prop} (h : ET w hb n sc x ρ τ fun b τ₁ => (b = true → Q true τ₁) ∧ (b = false → ET w hb n sc y ρ τ₁ fun b τ₂ => (b = true → Q true τ₂) ∧ (b = false → ET w hb n sc z ρ τ₂ Q))) :
    ET w hb n sc (.BoolOp .Or [x, y, z] pos) ρ τ Q := by
  intro H A env m μ s hA hE hI
  refine wpAny_isTrue_BoolOp (wpAny_allTrue_Or_cons (wpAny_mono (h H A env m μ s hA hE hI) (fun c s₁ hp => ?_) fun _ _ x => x))
  obtain ⟨μ₁, τ₁, T₁, e₁, q⟩ := hp
  cases c
  · simp only [Bool.false_eq_true, if_false]
    refine wpAny_allTrue_Or_cons (wpAny_mono (q.2 rfl H A env m μ₁ s₁ hA hE (hI.step T₁)) (fun c s₂ hp => ?_) fun _ _ x => x)
    obtain ⟨μ₂, τ₂, T₂, e₂, q⟩ := hp
    cases c
    · simp only [Bool.false_eq_true, if_false]
      refine wpAny_allTrue_Or_cons (wpAny_mono (q.2 rfl H A env m μ₂ s₂ hA hE ((hI.step T₁).step T₂)) (fun c s₃ hp => ?_) fun _ _ x => x)
      have z := (hp.trans T₂ e₂).trans T₁ e₁
      cases c
      · simp only [Bool.false_eq_true, if_false]; exact wpAny_allTrue_Or_nil z
      · simp only [if_true]; exact z
    · simp only [if_true]
      exact ⟨μ₂, τ₂, T₁.trans T₂, e₁.trans e₂, q.1 rfl⟩
  · simp only [if_true]
    exact ⟨μ₁, τ₁, T₁, e₁, q.1 rfl⟩
end
section
variable {w : World} {hb : Bs} {n : Nat} {τ : St} {Q : PV → St → Prop}
theorem lawarc_ok (hn : 12 ≤ n) {i j : Nat} (h : SrcS τ i j) (q : ∀ τ', Q (.bool true) τ') : CL w hb n (.ref 357) [.adr i] τ Q := by
  refine CL.up hn fun k hk => ?_
  walk_at "enter"
  walk_at "go"
  refine take_ok (by omega) h (by decide) (by decide) fun rx τ1 a0 a1 s1 _ => ?_
  walk_at "go"
  refine take_ok (by omega) s1 (by decide) (by decide) fun ry τ2 b0 b1 s2 _ => ?_
  walk_at "go"
  refine take_ok (by omega) s2 (by decide) (by decide) fun here τ3 c0 c1 s3 _ => ?_
  obtain ⟨aa, rfl⟩ := Int.eq_ofNat_of_zero_le a0
  obtain ⟨bb, rfl⟩ := Int.eq_ofNat_of_zero_le b0
  obtain ⟨hh, rfl⟩ := Int.eq_ofNat_of_zero_le c0
  have f1 := arcs1 aa (by omega) bb (by omega) hh (by omega)
  have f3 := arcs3 aa (by omega) bb (by omega) hh (by omega)
  walk_at "go"
  have ll := s3.lt
  refine one_ok (by omega) s3.app.app (get_last' _ _) (by simp; omega) (by simp; omega) (by decide) (Nat.le_of_ble_eq_true rfl) rfl fun x τ4 hm s4 g4 => ?_
  have hax := g4.2 τ3.length _ (by omega) (by omega) (get_app (get_last' _ _))
  have hiai : τ3.length ≠ i := by omega
  have hiaj : τ3.length ≠ j := by omega
  clear s1 s2 s3 g4
  generalize τ3.length = ia at *
  clear ll
  walk_at "go"
  refine take_ok (by omega) s4 (by decide) (by decide) fun r τ5 d0 d1 s5 g5 => ?_
  replace hax := g5.2 ia _ (by omega) (by omega) hax
  clear s4 g5 s5
  have sst : Sm (if (r == 0) = true then (1 : Int) else -1) := by split <;> decide
  walk_at "go"
  generalize (r == 0) = sw at *
  replace f1 := f1 sw
  replace f3 := f3 sw
  rw [show (if sw = true then (1 : Int) else -1) = stOf sw from rfl] at sst
  rw [show (if sw = true then (1 : Int) else -1) = stOf sw from rfl]
  simp only [List.mem_cons, List.not_mem_nil, or_false] at hm
  have hm : x = .int 1 ∨ x = .int 3 := by
    rcases hm with e | e | e
    · exact .inl e
    · exact .inr e
    · exact .inl e
  rcases hm with rfl | rfl
  · clear f3
    walk_at "go"
    rw [show ((1 : Int) + 1 - 0).toNat = 2 from rfl]
    refine ⟨trivial, _, rfl, ?_⟩
    show (_ ∧ _)
    refine ⟨fun _ => ?_, fun h => absurd h (by decide)⟩
    walk_at "go"
    refine O2_itemL rfl hax (m40 _).1 (m40 _).2.2 (ax_get _ _ (m40 _).1 (m40 _).2.1) ?_
    refine ⟨rfl, trivial, _, rfl, ?_⟩
    show (_ ∧ _)
    refine ⟨fun _ => ?_, fun h => absurd h (by decide)⟩
    walk_at "go"
    refine O2_itemL rfl hax (m40 _).1 (m40 _).2.2 (ax_get _ _ (m40 _).1 (m40 _).2.1) ?_
    refine ⟨rfl, trivial, ?_⟩
    simp only [List.nil_append, List.cons_append, Int.zero_add]
    clear hax sst
    generalize ax (1 + (aa : Int)) (1 + (bb : Int)) (((hh : Int) + stOf sw * 0) % 4) = p at *
    generalize ax (1 + (aa : Int)) (1 + (bb : Int)) (((hh : Int) + stOf sw * 1) % 4) = g at *
    walk_at "go"
    have hg := get_last' τ5 [pv2 p, pv2 g]
    generalize τ5 ++ [[pv2 p, pv2 g]] = T at *
    generalize τ5.length = ig at *
    refine ⟨_, _, rfl, hg, Nat.le_of_ble_eq_true rfl, ?_⟩
    refine ⟨hg, _, rfl, ?_⟩
    show (_ ∧ _)
    refine ⟨fun _ => ?_, fun h => absurd h (by decide)⟩
    walk_at "go"
    refine fraction1_ok (by omega) ?_
    walk_at "go"
    refine fraction1_ok (by omega) ?_
    walk_at "go"
    refine ⟨hg, _, rfl, ?_⟩
    show (_ ∧ _)
    refine ⟨fun _ => ?_, fun h => absurd h (by decide)⟩
    walk_at "go"
    refine fraction1_ok (by omega) ?_
    walk_at "go"
    refine fraction1_ok (by omega) ?_
    walk_at "go"
    refine ⟨hg, ?_⟩
    simp only [List.nil_append, List.cons_append]
    have hp := get_last' T [pv4 ((p.1, 1), (p.2, 1)), pv4 ((g.1, 1), (g.2, 1))]
    replace hg := get_app (X := [[pv4 ((p.1, 1), (p.2, 1)), pv4 ((g.1, 1), (g.2, 1))]]) hg
    generalize T ++ [[pv4 ((p.1, 1), (p.2, 1)), pv4 ((g.1, 1), (g.2, 1))]] = T' at *
    generalize T.length = ip at *
    walk_at "go"
    refine O2_itemL rfl hp (by decide) (by decide) rfl ?_
    walk_at "go"
    refine fraction1_ok (by omega) ?_
    walk_at "go"
    refine fraction1_ok (by omega) ?_
    walk_at "go"
    refine fraction1_ok (by omega) ?_
    walk_at "go"
    rw [show ((1 : Int) == 3) = false from rfl]
    refine arc1_ok (by omega) f1 fun X Y Z u v sg1 sg2 => ?_
    replace hg := get_app (X := [[.tup [pv4 ((p.1, 1), (p.2, 1)), pv4 u, pv4 v, pv4 ((g.1, 1), (g.2, 1))]]]) (get_app (X := [Z]) (get_app (X := [Y]) (get_app (X := [X]) hg)))
    replace hp := get_app (X := [[.tup [pv4 ((p.1, 1), (p.2, 1)), pv4 u, pv4 v, pv4 ((g.1, 1), (g.2, 1))]]]) (get_app (X := [Z]) (get_app (X := [Y]) (get_app (X := [X]) hp)))
    have ht := get_last' (T' ++ [X] ++ [Y] ++ [Z]) [.tup [pv4 ((p.1, 1), (p.2, 1)), pv4 u, pv4 v, pv4 ((g.1, 1), (g.2, 1))]]
    rw [show (T' ++ [X] ++ [Y] ++ [Z]).length = T'.length + 3 by simp] at ht
    generalize T' ++ [X] ++ [Y] ++ [Z] ++ [[.tup [pv4 ((p.1, 1), (p.2, 1)), pv4 u, pv4 v, pv4 ((g.1, 1), (g.2, 1))]]] = U at *
    generalize T'.length + 3 = it at *
    clear f1
    walk_at "go"
    refine ET_Or3 ?_
    walk_at "go"
    refine ⟨_, _, rfl, ht, Nat.le_of_ble_eq_true rfl, ?_⟩
    refine ⟨ht, _, rfl, ?_⟩
    show (_ ∧ _)
    refine ⟨fun _ => ?_, fun h => absurd h (by decide)⟩
    walk_at "go"
    refine ⟨ht, ?_⟩
    show EV _ _ _ _ _ _ _ _
    walk_at "go"
    refine ⟨_, _, _, rfl, rfl, by decide, get_last' _ _, Nat.le_of_ble_eq_true rfl, ?_⟩
    walk_at "go"
    refine O2_lmul (l := [.int 4]) (get_last' _ _) (by decide) (by decide) (by decide) (by simp) ?_
    refine O2_neD (dp := .list [.int 4]) (dq := .list [.int 4]) 8 (toD_ints (l := [4]) 6 (get_app (get_app (get_last' _ _)))) (toD_ints (l := [4]) 6 (get_last' _ _)) rfl rfl ?_
    refine ⟨_, rfl, fun hc => absurd hc (by decide), fun _ => ?_⟩
    clear hm
    simp only [List.append_assoc]
    refine ET_gen3 hg hp ht fun V hg hp ht => ?_
    walk_at "go"
    refine O2_itemL rfl ht (by decide) (by decide) rfl ?_
    walk_at "go"
    refine O2_itemL rfl hp (by decide) (by decide) rfl ?_
    refine O2_neD 8 rfl rfl rfl rfl ?_
    refine ⟨_, rfl, fun hc => ?_, fun _ => ?_⟩
    · exfalso
      simp [PyData.eqv, PyData.eqvAll] at hc
    walk_at "go"
    refine O2_neD 8 rfl rfl rfl rfl ?_
    refine ⟨_, rfl, fun hc => ?_, fun _ => ?_⟩
    · exfalso
      simp [PyData.eqv, PyData.eqvAll] at hc
    walk_at "go"
    refine ⟨_, _, _, rfl, rfl, by decide, ht, Nat.le_of_ble_eq_true rfl, ?_⟩
    walk_at "go"
    refine ⟨_, _, _, _, rfl, rfl, rfl, rfl, get_app ht, get_last' _ _, fun H => ?_⟩
    refine ⟨Nat.le_of_ble_eq_true rfl, ?_⟩
    refine ⟨⟨get_app ht, get_last' _ _⟩, ?_⟩
    show EV _ _ _ _ _ _ _ _
    walk_at "go"
    refine O2_neD (dp := .list []) (dq := .list []) 8 (toD_ints (l := []) 6 (get_app (get_last' _ _))) (toD_ints (l := []) 6 (get_last' _ _)) rfl rfl ?_
    refine ⟨_, rfl, fun hc => absurd hc (by decide), fun _ => ?_⟩
    simp only [List.append_assoc]
    refine ET_gen3 hg hp ht fun V2 hg hp ht => ?_
    walk_at "go"
    refine CL_lenL ht (Nat.le_of_ble_eq_true rfl) ?_
    walk_at "go"
    refine ⟨fun hc => absurd hc (by simp), fun _ => ?_⟩
    walk_at "go"
    refine ⟨_, _, _, rfl, rfl, by decide, hg, Nat.le_of_ble_eq_true rfl, ?_⟩
    walk_at "go"
    refine ⟨_, _, _, _, rfl, rfl, rfl, rfl, get_app ht, get_last' _ _, fun H => ?_⟩
    refine ⟨Nat.le_of_ble_eq_true rfl, ?_⟩
    refine ⟨⟨get_app ht, get_last' _ _⟩, _, rfl, ?_⟩
    show ET _ _ _ _ _ _ _ _
    walk_at "go"
    refine near_ok (by omega) sg1 sg2 (near_self _) (near_self _) ?_
    refine ⟨_, rfl, fun hc => absurd hc (by decide), fun _ => ?_⟩
    refine ⟨⟨get_app ht, get_last' _ _⟩, ?_⟩
    show EV _ _ _ _ _ _ _ _
    walk_at "go"
    refine O2_eqD (dp := .list []) (dq := .list []) 8 (toD_ints (l := []) 6 (get_app (get_last' _ _))) (toD_ints (l := []) 6 (get_last' _ _)) rfl rfl ?_
    exact ⟨rfl, q _⟩
  · clear f1
    walk_at "go"
    rw [show ((3 : Int) + 1 - 0).toNat = 4 from rfl]
    refine ⟨trivial, _, rfl, ?_⟩
    show (_ ∧ _)
    refine ⟨fun _ => ?_, fun h => absurd h (by decide)⟩
    walk_at "go"
    refine O2_itemL rfl hax (m40 _).1 (m40 _).2.2 (ax_get _ _ (m40 _).1 (m40 _).2.1) ?_
    refine ⟨rfl, trivial, _, rfl, ?_⟩
    show (_ ∧ _)
    refine ⟨fun _ => ?_, fun h => absurd h (by decide)⟩
    walk_at "go"
    refine O2_itemL rfl hax (m40 _).1 (m40 _).2.2 (ax_get _ _ (m40 _).1 (m40 _).2.1) ?_
    refine ⟨rfl, trivial, _, rfl, ?_⟩
    show (_ ∧ _)
    refine ⟨fun _ => ?_, fun h => absurd h (by decide)⟩
    walk_at "go"
    refine O2_itemL rfl hax (m40 _).1 (m40 _).2.2 (ax_get _ _ (m40 _).1 (m40 _).2.1) ?_
    refine ⟨rfl, trivial, _, rfl, ?_⟩
    show (_ ∧ _)
    refine ⟨fun _ => ?_, fun h => absurd h (by decide)⟩
    walk_at "go"
    refine O2_itemL rfl hax (m40 _).1 (m40 _).2.2 (ax_get _ _ (m40 _).1 (m40 _).2.1) ?_
    refine ⟨rfl, trivial, ?_⟩
    simp only [List.nil_append, List.cons_append, Int.zero_add, Int.reduceAdd]
    clear hax sst
    generalize ax (1 + (aa : Int)) (1 + (bb : Int)) (((hh : Int) + stOf sw * 0) % 4) = p at *
    generalize ax (1 + (aa : Int)) (1 + (bb : Int)) (((hh : Int) + stOf sw * 1) % 4) = g1 at *
    generalize ax (1 + (aa : Int)) (1 + (bb : Int)) (((hh : Int) + stOf sw * 2) % 4) = g2 at *
    generalize ax (1 + (aa : Int)) (1 + (bb : Int)) (((hh : Int) + stOf sw * 3) % 4) = g at *
    walk_at "go"
    have hg := get_last' τ5 [pv2 p, pv2 g1, pv2 g2, pv2 g]
    generalize τ5 ++ [[pv2 p, pv2 g1, pv2 g2, pv2 g]] = T at *
    generalize τ5.length = ig at *
    refine ⟨_, _, rfl, hg, Nat.le_of_ble_eq_true rfl, ?_⟩
    refine ⟨hg, _, rfl, ?_⟩
    show (_ ∧ _)
    refine ⟨fun _ => ?_, fun h => absurd h (by decide)⟩
    walk_at "go"
    refine fraction1_ok (by omega) ?_
    walk_at "go"
    refine fraction1_ok (by omega) ?_
    walk_at "go"
    refine ⟨hg, _, rfl, ?_⟩
    show (_ ∧ _)
    refine ⟨fun _ => ?_, fun h => absurd h (by decide)⟩
    walk_at "go"
    refine fraction1_ok (by omega) ?_
    walk_at "go"
    refine fraction1_ok (by omega) ?_
    walk_at "go"
    refine ⟨hg, _, rfl, ?_⟩
    show (_ ∧ _)
    refine ⟨fun _ => ?_, fun h => absurd h (by decide)⟩
    walk_at "go"
    refine fraction1_ok (by omega) ?_
    walk_at "go"
    refine fraction1_ok (by omega) ?_
    walk_at "go"
    refine ⟨hg, _, rfl, ?_⟩
    show (_ ∧ _)
    refine ⟨fun _ => ?_, fun h => absurd h (by decide)⟩
    walk_at "go"
    refine fraction1_ok (by omega) ?_
    walk_at "go"
    refine fraction1_ok (by omega) ?_
    walk_at "go"
    refine ⟨hg, ?_⟩
    simp only [List.nil_append, List.cons_append]
    have hp := get_last' T [pv4 ((p.1, 1), (p.2, 1)), pv4 ((g1.1, 1), (g1.2, 1)), pv4 ((g2.1, 1), (g2.2, 1)), pv4 ((g.1, 1), (g.2, 1))]
    replace hg := get_app (X := [[pv4 ((p.1, 1), (p.2, 1)), pv4 ((g1.1, 1), (g1.2, 1)), pv4 ((g2.1, 1), (g2.2, 1)), pv4 ((g.1, 1), (g.2, 1))]]) hg
    generalize T ++ [[pv4 ((p.1, 1), (p.2, 1)), pv4 ((g1.1, 1), (g1.2, 1)), pv4 ((g2.1, 1), (g2.2, 1)), pv4 ((g.1, 1), (g.2, 1))]] = T' at *
    generalize T.length = ip at *
    walk_at "go"
    refine O2_itemL rfl hp (by decide) (by decide) rfl ?_
    walk_at "go"
    refine fraction1_ok (by omega) ?_
    walk_at "go"
    refine fraction1_ok (by omega) ?_
    walk_at "go"
    refine fraction1_ok (by omega) ?_
    walk_at "go"
    rw [show ((3 : Int) == 3) = true from rfl]
    refine arc3_ok (by omega) f3 fun X Y Z c1 c2 c3 c4 c5 c6 e1 e2 n1 n2 n3 n4 sa sb sc sd sg1 sg2 => ?_
    have ht := get_last' (T' ++ [X] ++ [Y] ++ [Z]) [.tup [pv4 ((p.1, 1), (p.2, 1)), pv4 c1, pv4 c2, pv4 e1], .tup [pv4 e1, pv4 c3, pv4 c4, pv4 e2], .tup [pv4 e2, pv4 c5, pv4 c6, pv4 ((g.1, 1), (g.2, 1))]]
    replace hg := get_app (X := [[.tup [pv4 ((p.1, 1), (p.2, 1)), pv4 c1, pv4 c2, pv4 e1], .tup [pv4 e1, pv4 c3, pv4 c4, pv4 e2], .tup [pv4 e2, pv4 c5, pv4 c6, pv4 ((g.1, 1), (g.2, 1))]]]) (get_app (X := [Z]) (get_app (X := [Y]) (get_app (X := [X]) hg)))
    replace hp := get_app (X := [[.tup [pv4 ((p.1, 1), (p.2, 1)), pv4 c1, pv4 c2, pv4 e1], .tup [pv4 e1, pv4 c3, pv4 c4, pv4 e2], .tup [pv4 e2, pv4 c5, pv4 c6, pv4 ((g.1, 1), (g.2, 1))]]]) (get_app (X := [Z]) (get_app (X := [Y]) (get_app (X := [X]) hp)))
    rw [show (T' ++ [X] ++ [Y] ++ [Z]).length = T'.length + 3 by simp] at ht
    generalize T' ++ [X] ++ [Y] ++ [Z] ++ [[.tup [pv4 ((p.1, 1), (p.2, 1)), pv4 c1, pv4 c2, pv4 e1], .tup [pv4 e1, pv4 c3, pv4 c4, pv4 e2], .tup [pv4 e2, pv4 c5, pv4 c6, pv4 ((g.1, 1), (g.2, 1))]]] = U at *
    generalize T'.length + 3 = it at *
    clear f3
    walk_at "go"
    refine ET_Or3 ?_
    walk_at "go"
    refine ⟨_, _, rfl, ht, Nat.le_of_ble_eq_true rfl, ?_⟩
    refine ⟨ht, _, rfl, ?_⟩
    show (_ ∧ _)
    refine ⟨fun _ => ?_, fun h => absurd h (by decide)⟩
    walk_at "go"
    refine ⟨ht, _, rfl, ?_⟩
    show (_ ∧ _)
    refine ⟨fun _ => ?_, fun h => absurd h (by decide)⟩
    walk_at "go"
    refine ⟨ht, _, rfl, ?_⟩
    show (_ ∧ _)
    refine ⟨fun _ => ?_, fun h => absurd h (by decide)⟩
    walk_at "go"
    refine ⟨ht, ?_⟩
    show EV _ _ _ _ _ _ _ _
    walk_at "go"
    refine ⟨_, _, _, rfl, rfl, by decide, get_last' _ _, Nat.le_of_ble_eq_true rfl, ?_⟩
    walk_at "go"
    refine O2_lmul (l := [.int 4]) (get_last' _ _) (by decide) (by decide) (by decide) (by simp) ?_
    refine O2_neD (dp := .list [.int 4, .int 4, .int 4]) (dq := .list [.int 4, .int 4, .int 4]) 8 (toD_ints (l := [4, 4, 4]) 6 (get_app (get_app (get_last' _ _)))) (toD_ints (l := [4, 4, 4]) 6 (get_last' _ _)) rfl rfl ?_
    refine ⟨_, rfl, fun hc => absurd hc (by decide), fun _ => ?_⟩
    clear hm
    simp only [List.append_assoc]
    refine ET_gen3 hg hp ht fun V hg hp ht => ?_
    walk_at "go"
    refine O2_itemL rfl ht (by decide) (by decide) rfl ?_
    walk_at "go"
    refine O2_itemL rfl hp (by decide) (by decide) rfl ?_
    refine O2_neD 8 rfl rfl rfl rfl ?_
    refine ⟨_, rfl, fun hc => ?_, fun _ => ?_⟩
    · exfalso
      simp [PyData.eqv, PyData.eqvAll] at hc
    walk_at "go"
    refine O2_neD 8 rfl rfl rfl rfl ?_
    refine ⟨_, rfl, fun hc => ?_, fun _ => ?_⟩
    · exfalso
      simp [PyData.eqv, PyData.eqvAll] at hc
    walk_at "go"
    refine ⟨_, _, _, rfl, rfl, by decide, ht, Nat.le_of_ble_eq_true rfl, ?_⟩
    walk_at "go"
    refine ⟨_, _, _, _, rfl, rfl, rfl, rfl, get_app ht, get_last' _ _, fun H => ?_⟩
    refine ⟨Nat.le_of_ble_eq_true rfl, ?_⟩
    refine ⟨⟨get_app ht, get_last' _ _⟩, _, rfl, ?_⟩
    show ET _ _ _ _ _ _ _ _
    walk_at "go"
    refine O2_neD 8 rfl rfl rfl rfl ?_
    refine ⟨_, rfl, fun hc => ?_, fun _ => ?_⟩
    · exfalso
      simp [PyData.eqv, PyData.eqvAll] at hc
    refine ⟨⟨get_app ht, get_last' _ _⟩, _, rfl, ?_⟩
    show ET _ _ _ _ _ _ _ _
    walk_at "go"
    refine O2_neD 8 rfl rfl rfl rfl ?_
    refine ⟨_, rfl, fun hc => ?_, fun _ => ?_⟩
    · exfalso
      simp [PyData.eqv, PyData.eqvAll] at hc
    refine ⟨⟨get_app ht, get_last' _ _⟩, ?_⟩
    show EV _ _ _ _ _ _ _ _
    walk_at "go"
    refine O2_neD (dp := .list []) (dq := .list []) 8 (toD_ints (l := []) 6 (get_app (get_last' _ _))) (toD_ints (l := []) 6 (get_last' _ _)) rfl rfl ?_
    refine ⟨_, rfl, fun hc => absurd hc (by decide), fun _ => ?_⟩
    simp only [List.append_assoc]
    refine ET_gen3 hg hp ht fun V2 hg hp ht => ?_
    walk_at "go"
    refine CL_lenL ht (Nat.le_of_ble_eq_true rfl) ?_
    walk_at "go"
    refine ⟨fun hc => absurd hc (by simp), fun _ => ?_⟩
    walk_at "go"
    refine ⟨_, _, _, rfl, rfl, by decide, hg, Nat.le_of_ble_eq_true rfl, ?_⟩
    walk_at "go"
    refine ⟨_, _, _, _, rfl, rfl, rfl, rfl, get_app ht, get_last' _ _, fun H => ?_⟩
    refine ⟨Nat.le_of_ble_eq_true rfl, ?_⟩
    refine ⟨⟨get_app ht, get_last' _ _⟩, _, rfl, ?_⟩
    show ET _ _ _ _ _ _ _ _
    walk_at "go"
    refine near_ok (by omega) sa sb n1 n2 ?_
    refine ⟨_, rfl, fun hc => absurd hc (by decide), fun _ => ?_⟩
    refine ⟨⟨get_app ht, get_last' _ _⟩, _, rfl, ?_⟩
    show ET _ _ _ _ _ _ _ _
    walk_at "go"
    refine near_ok (by omega) sc sd n3 n4 ?_
    refine ⟨_, rfl, fun hc => absurd hc (by decide), fun _ => ?_⟩
    refine ⟨⟨get_app ht, get_last' _ _⟩, _, rfl, ?_⟩
    show ET _ _ _ _ _ _ _ _
    walk_at "go"
    refine near_ok (by omega) sg1 sg2 (near_self _) (near_self _) ?_
    refine ⟨_, rfl, fun hc => absurd hc (by decide), fun _ => ?_⟩
    refine ⟨⟨get_app ht, get_last' _ _⟩, ?_⟩
    show EV _ _ _ _ _ _ _ _
    walk_at "go"
    refine O2_eqD (dp := .list []) (dq := .list []) 8 (toD_ints (l := []) 6 (get_app (get_last' _ _))) (toD_ints (l := []) 6 (get_last' _ _)) rfl rfl ?_
    exact ⟨rfl, q _⟩
end
end
section
section
variable {w : World} {hb : Bs} {n : Nat} {τ : St} {Q : PV → St → Prop}
theorem law_ok (hn : 14 ≤ n) {s : List Int} (q : ∀ τ', Q (.bool true) τ') : CL w hb n (.ref 364) [.blist s] τ Q := by
  refine CL.up hn fun k hk => ?_
  walk_at "enter"
  walk_at "go"
  refine pool_ok (row := [1, 6, 0, 2, 0, 1, 0, 5000, 70, 1, 500, 3, 0, 0, 1, 2, 0, 0, 0]) (by omega) (get_last' _ _) (by decide) fun i j τ1 s1 => ?_
  walk_at "go"
  refine ForI.inv (fun ps ρ' τ' => SrcS τ' i j ∧ ρ'.lookup ("source" : Str) = some (.adr i)) (fun _ _ _ _ => trivial) ?_ ?_ _ _ _ ⟨s1, rfl⟩
  · rintro p ps ρ' τ' ⟨s2, e2⟩
    refine ⟨_, rfl, ?_⟩
    walk_at "go"
    refine quarters_ok (by omega) s2 fun τ3 s3 _ => ?_
    refine ⟨_, rfl, fun hc => absurd hc (by decide), fun _ => ?_⟩
    walk_at "go"
    exact ⟨s3, e2⟩
  · rintro ρ' τ' ⟨s2, e2⟩
    walk_at "go"
    refine quarter_on_ok (by omega) ?_
    rw [show qon (7400, 3000) true = (-3000, 7400) from rfl]
    walk_at "go"
    refine O2_neD 8 rfl rfl rfl rfl ?_
    refine ⟨_, rfl, fun hc => absurd hc (by decide), fun _ => ?_⟩
    walk_at "go"
    refine quarter_on_ok (by omega) ?_
    rw [show qon (7400, 3000) false = (3000, -7400) from rfl]
    walk_at "go"
    refine O2_neD 8 rfl rfl rfl rfl ?_
    refine ⟨_, rfl, fun hc => absurd hc (by decide), fun _ => ?_⟩
    walk_at "go"
    refine ellipse_ok (by omega) s2 fun τ4 s4 _ => ?_
    walk_at "go"
    refine ⟨fun _ => ?_, fun hc => absurd hc (by decide)⟩
    walk_at "go"
    refine lawarc_ok (by omega) s4 fun τ5 => ?_
    walk_at "go"
    exact q _
end
end
section
theorem items_ints {R : WRecords} {cl : Str → Option Addr} {h : Heap} : ∀ {ds : List WData} {vs : List Value} {as : List Addr}, WShape.hasItems R ds .int = true → ReadsAllW R cl h vs ds as → ∃ l, IntsAre vs l
  | [], _, _, _, r => by cases r; exact ⟨[], .nil⟩
  | d :: ds, _, _, e, r => by
    cases r with
    | cons r1 r2 =>
      simp only [WShape.hasItems, Bool.and_eq_true] at e
      obtain ⟨e1, e2⟩ := e
      obtain ⟨l, hl⟩ := items_ints e2 r2
      cases r1 with
      | int i t => exact ⟨i :: l, .cons i t hl⟩
      | _ => exact Bool.noConfusion (show false = true from e1)
theorem arg_ints {R : WRecords} {cl : Str → Option Addr} {h : Heap} {args : List WData} {vals : List Value} {as : List Addr} (e : WShape.hasAll R args [.list .int] = true) (r : ReadsAllW R cl h vals args as) :
    ∃ a vs l, vals = [.ref a] ∧ h.IsList a (List.toArray vs) ∧ IntsAre vs l := by
  cases r with
  | nil => exact Bool.noConfusion (show false = true from e)
  | cons r1 r2 =>
    cases r2 with
    | cons r3 r4 =>
      simp only [WShape.hasAll, Bool.and_false] at e
      exact Bool.noConfusion e
    | nil =>
      simp only [WShape.hasAll, Bool.and_eq_true] at e
      cases r1 with
      | list ho hc hd hr =>
        have e1 : (WShape.hasItems R _ .int || false) = true := e.1
        rw [Bool.or_false] at e1
        obtain ⟨l, hl⟩ := items_ints e1 hr
        exact ⟨_, _, l, rfl, ⟨_, ho, hc, _, hd⟩, hl⟩
      | _ => exact Bool.noConfusion (show false = true from e.1)
theorem join_ok {w : World} {h₀ : Shared} {a : Addr} {vals : List Value} {s : List Int} {R : Value → Shared → Prop} {E : Value → Shared → Prop} {p : Program} {loose : List Str} {mean : ExcName → Option Value} {mg mb : Str → Option Value}
    (T : Top p loose mean mg mb h₀.heap) (X : (KK w).In h₀.heap) (em : mg "law" = some (.ref a)) {l : Addr} {vs : List Value} (ev : vals = [.ref l]) (hl : h₀.heap.IsList l (List.toArray vs)) (hi : IntsAre vs s)
    (k : ∀ s', (∀ b o, h₀.heap.get? b = some o → s'.heap.get? b = some o) → s'.gens = h₀.gens → s'.os = h₀.os → R (.bool true) s') :
    wpAny (model PR w) callerA (call (.ref a) vals) R E h₀ := by
  have e364 : mg "law" = some (.ref 364) := mg_of X T.g (by (show nsIn (hd.heap_39 _) _ _ = _; k_is))
  rw [em] at e364
  cases e364
  subst ev
  have H : HB w ⟨h₀.heap, []⟩ := ⟨X, _, _, _, _, _, T⟩
  have c := law_ok (w := w) (hb := ⟨h₀.heap, []⟩) (n := 14) (τ := []) (Q := fun v _ => v = .bool true) (Nat.le_refl _) (s := s) (fun _ => rfl)
  obtain ⟨o, _, _, ho, _⟩ := T.g
  have S : StoreOk ⟨h₀.heap, []⟩ [] [] h₀.heap := ⟨rfl, List.nodup_nil, fun i a l e _ => by simp at e, fun a m => by cases m⟩
  refine wpAny_mono (c H callerA mainGlobals [] h₀ [.ref l] ⟨rfl, by decide, by decide⟩ ⟨fun _ _ e => e, fun _ m => (by cases m), fun _ m => (by cases m)⟩ ⟨_, ho⟩ S ?_) (fun v s' h => ?_) (fun _ _ x => x.elim)
  · simp only [RepL, Rep]
    exact ⟨_, _, rfl, ⟨l, vs, rfl, hl, hi⟩, rfl⟩
  · obtain ⟨μ', τ', q, st, r, sm, e⟩ := h
    subst e
    simp only [Rep] at r
    subst r
    exact k s' (fun b o e => st.ext b o e (by simp)) sm.1 sm.2.2
theorem post_ok (R : WRecords) (args after : List WData) : (WShape.has R (.bool true) .bool && WTm.holds R (.eq .res (.lit (.bool true))) { args := args, res := some (.bool true), after := after }) = true := by
  refine Bool.and_eq_true_iff.mpr ⟨rfl, ?_⟩
  have e : WTm.value R (.eq .res (.lit (.bool true))) { args := args, res := some (.bool true), after := after } = some (.bool (PySem.W.same (.bool true) (.bool true))) := by rw [WTm.value, WTm.value, WTm.value]
  unfold WTm.holds
  rw [e, PySem.W.same_self]
end
end Mine
theorem PySem.Challenge.cw_pf0194_01_holds : PySem.Challenge.rw_pf0194_01.Holds := by
  refine Mine.hd ?_
  w_strict (k_fill)
  intro w s₀ s₁ mg mb G Y a o pm cd doc dV kV ho hdat hcd hdf hg hgens args vals as hpre hlay hrd hwell hsys
  have hp := hpre
  simp only [RowW.claim, Bool.and_eq_true] at hp
  obtain ⟨l, vs, s, ev, hl, hi⟩ := Mine.arg_ints hp.1 hrd
  refine Mine.join_ok (s := s) G.T Y hg ev hl hi fun s' keep eg eo => ?_
  refine ⟨.inl ⟨_, .bool true, [], rfl, fun _ => rfl, .bool true, Mine.post_ok _ _ _, fun _ => ⟨List.nodup_nil, fun _ m => by cases m⟩⟩, OldK.of_keep keep, eo, ?_⟩
  rw [eg, hgens]
  intro y m
  simp at m
