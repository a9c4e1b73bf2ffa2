import PyProof.Rows.All
import Wide.All
import OpenK.AllK
import Wide.FinOn
import PySem.Challenge.RW_nn0035_01
open PySem PySem.W PyProof.Rows
set_option Elab.async false
set_option linter.unusedVariables false
set_option linter.unusedSectionVars false
set_option maxRecDepth 100000
set_option maxHeartbeats 8000000
set_option compiler.extract_closed false
set_option genSizeOfSpec false
namespace Mine
noncomputable def stAt (i : Nat) : Stmt := match PySem.Challenge.pw_nn0035_01.main.body[i]? with
  | some s => s
  | none => .Pass ⟨0, 0, 0, 0⟩
noncomputable def stIn (i j : Nat) : Stmt := match stAt i with
  | .ClassDef _ _ _ body _ _ _ _ _ _ _ => (match body[j]? with
    | some s => s
    | none => .Pass ⟨0, 0, 0, 0⟩)
  | s => s
noncomputable def fnObj (st : Stmt) (q : Str) (pm cd : Value) : Obj := match st with
  | .FunctionDef name args body _ _ _ scope _ _ _ => { cls := .type "function", data := .func { name := name, qualname := q, params := args, body := .stmts body, scope := scope, globals := 3, closure := [], defaults := .none, kwdefaults := .none, pyModule := pm, code := cd } }
  | _ => { cls := .none, data := .plain }
noncomputable def hd.heap_39 (P : Params) : Frag := [
  (3, { cls := Value.type "dict", data := Data.dict #[{ hash := PyData.keyHash P (Str.ofString "__name__"), key := Value.str (Str.ofString "__name__") 165, val := Value.str (Str.ofString "law_nn0035_01") 614 }, { hash := PyData.keyHash P (Str.ofString "__doc__"), key := Value.str (Str.ofString "__doc__") 166, val := Value.none }, { hash := PyData.keyHash P (Str.ofString "__package__"), key := Value.str (Str.ofString "__package__") 167, val := Value.none }, { hash := PyData.keyHash P (Str.ofString "__loader__"), key := Value.str (Str.ofString "__loader__") 168, val := Value.builtin "__main__.__loader__#opaque" }, { hash := PyData.keyHash P (Str.ofString "__spec__"), key := Value.str (Str.ofString "__spec__") 169, val := Value.none }, { hash := PyData.keyHash P (Str.ofString "__annotations__"), key := Value.str (Str.ofString "__annotations__") 170, val := Value.ref 6 }, { hash := PyData.keyHash P (Str.ofString "__builtins__"), key := Value.str (Str.ofString "__builtins__") 171, val := Value.ref 4 }, { hash := PyData.keyHash P (Str.ofString "__file__"), key := Value.str (Str.ofString "__file__") 173, val := Value.str (Str.ofString "/claim/cut.py") 172 }, { hash := PyData.keyHash P (Str.ofString "__cached__"), key := Value.str (Str.ofString "__cached__") 174, val := Value.none }, { hash := PyData.keyHash P (Str.ofString "GmpError"), key := Value.str (Str.ofString "GmpError") 208, val := Value.ref 24 }, { hash := PyData.keyHash P (Str.ofString "OutOfRange"), key := Value.str (Str.ofString "OutOfRange") 224, val := Value.ref 37 }, { hash := PyData.keyHash P (Str.ofString "normal"), key := Value.str (Str.ofString "normal") 232, val := Value.ref 46 }, { hash := PyData.keyHash P (Str.ofString "nat_of"), key := Value.str (Str.ofString "nat_of") 242, val := Value.ref 53 }, { hash := PyData.keyHash P (Str.ofString "is_even"), key := Value.str (Str.ofString "is_even") 249, val := Value.ref 60 }, { hash := PyData.keyHash P (Str.ofString "compare"), key := Value.str (Str.ofString "compare") 258, val := Value.ref 67 }, { hash := PyData.keyHash P (Str.ofString "add"), key := Value.str (Str.ofString "add") 271, val := Value.ref 74 }, { hash := PyData.keyHash P (Str.ofString "sub"), key := Value.str (Str.ofString "sub") 285, val := Value.ref 81 }, { hash := PyData.keyHash P (Str.ofString "shift_right"), key := Value.str (Str.ofString "shift_right") 300, val := Value.ref 88 }, { hash := PyData.keyHash P (Str.ofString "trailing"), key := Value.str (Str.ofString "trailing") 310, val := Value.ref 95 }, { hash := PyData.keyHash P (Str.ofString "SMALL"), key := Value.str (Str.ofString "SMALL") 314, val := Value.int 32 313 }, { hash := PyData.keyHash P (Str.ofString "PRATT"), key := Value.str (Str.ofString "PRATT") 316, val := Value.str (Str.ofString "pratt") 315 }, { hash := PyData.keyHash P (Str.ofString "POCKLINGTON"), key := Value.str (Str.ofString "POCKLINGTON") 318, val := Value.str (Str.ofString "pocklington") 317 }, { hash := PyData.keyHash P (Str.ofString "SMALL_PRIME"), key := Value.str (Str.ofString "SMALL_PRIME") 320, val := Value.str (Str.ofString "small") 319 }, { hash := PyData.keyHash P (Str.ofString "FACTOR"), key := Value.str (Str.ofString "FACTOR") 322, val := Value.str (Str.ofString "factor") 321 }, { hash := PyData.keyHash P (Str.ofString "FERMAT"), key := Value.str (Str.ofString "FERMAT") 324, val := Value.str (Str.ofString "fermat") 323 }, { hash := PyData.keyHash P (Str.ofString "STRONG"), key := Value.str (Str.ofString "STRONG") 326, val := Value.str (Str.ofString "strong") 325 }, { hash := PyData.keyHash P (Str.ofString "ROOT"), key := Value.str (Str.ofString "ROOT") 328, val := Value.str (Str.ofString "root") 327 }, { hash := PyData.keyHash P (Str.ofString "Tools"), key := Value.str (Str.ofString "Tools") 365, val := Value.ref 112 }, { hash := PyData.keyHash P (Str.ofString "is_limb"), key := Value.str (Str.ofString "is_limb") 373, val := Value.ref 123 }, { hash := PyData.keyHash P (Str.ofString "is_nat"), key := Value.str (Str.ofString "is_nat") 379, val := Value.ref 128 }, { hash := PyData.keyHash P (Str.ofString "is_between"), key := Value.str (Str.ofString "is_between") 388, val := Value.ref 135 }, { hash := PyData.keyHash P (Str.ofString "small_value"), key := Value.str (Str.ofString "small_value") 398, val := Value.ref 142 }, { hash := PyData.keyHash P (Str.ofString "is_small_prime"), key := Value.str (Str.ofString "is_small_prime") 404, val := Value.ref 147 }, { hash := PyData.keyHash P (Str.ofString "power_of"), key := Value.str (Str.ofString "power_of") 416, val := Value.ref 154 }, { hash := PyData.keyHash P (Str.ofString "product_of"), key := Value.str (Str.ofString "product_of") 429, val := Value.ref 161 }, { hash := PyData.keyHash P (Str.ofString "is_one"), key := Value.str (Str.ofString "is_one") 436, val := Value.ref 168 }, { hash := PyData.keyHash P (Str.ofString "is_pair"), key := Value.str (Str.ofString "is_pair") 444, val := Value.ref 175 }, { hash := PyData.keyHash P (Str.ofString "are_pairs"), key := Value.str (Str.ofString "are_pairs") 450, val := Value.ref 180 }, { hash := PyData.keyHash P (Str.ofString "has_whole_order"), key := Value.str (Str.ofString "has_whole_order") 464, val := Value.ref 187 }, { hash := PyData.keyHash P (Str.ofString "pratt"), key := Value.str (Str.ofString "pratt") 470, val := Value.ref 192 }, { hash := PyData.keyHash P (Str.ofString "pratt_holds"), key := Value.str (Str.ofString "pratt_holds") 476, val := Value.ref 197 }, { hash := PyData.keyHash P (Str.ofString "product_bound"), key := Value.str (Str.ofString "product_bound") 489, val := Value.ref 204 }, { hash := PyData.keyHash P (Str.ofString "part_above_root"), key := Value.str (Str.ofString "part_above_root") 502, val := Value.ref 211 }, { hash := PyData.keyHash P (Str.ofString "steps_without"), key := Value.str (Str.ofString "steps_without") 514, val := Value.ref 218 }, { hash := PyData.keyHash P (Str.ofString "is_partner"), key := Value.str (Str.ofString "is_partner") 528, val := Value.ref 225 }, { hash := PyData.keyHash P (Str.ofString "partner_of"), key := Value.str (Str.ofString "partner_of") 541, val := Value.ref 232 }, { hash := PyData.keyHash P (Str.ofString "pocklington"), key := Value.str (Str.ofString "pocklington") 554, val := Value.ref 239 }, { hash := PyData.keyHash P (Str.ofString "pocklington_holds"), key := Value.str (Str.ofString "pocklington_holds") 573, val := Value.ref 246 }, { hash := PyData.keyHash P (Str.ofString "strong_rests"), key := Value.str (Str.ofString "strong_rests") 592, val := Value.ref 253 }, { hash := PyData.keyHash P (Str.ofString "is_strong_witness"), key := Value.str (Str.ofString "is_strong_witness") 598, val := Value.ref 258 }, { hash := PyData.keyHash P (Str.ofString "composite_holds"), key := Value.str (Str.ofString "composite_holds") 613, val := Value.ref 265 }, { hash := PyData.keyHash P (Str.ofString "_law_take"), key := Value.str (Str.ofString "_law_take") 624, val := Value.ref 272 }, { hash := PyData.keyHash P (Str.ofString "_law_total"), key := Value.str (Str.ofString "_law_total") 633, val := Value.ref 279 }, { hash := PyData.keyHash P (Str.ofString "_law_row"), key := Value.str (Str.ofString "_law_row") 642, val := Value.ref 286 }, { hash := PyData.keyHash P (Str.ofString "_law_whole"), key := Value.str (Str.ofString "_law_whole") 652, val := Value.ref 293 }, { hash := PyData.keyHash P (Str.ofString "_law_is_row"), key := Value.str (Str.ofString "_law_is_row") 658, val := Value.ref 298 }, { hash := PyData.keyHash P (Str.ofString "_law_times"), key := Value.str (Str.ofString "_law_times") 667, val := Value.ref 305 }, { hash := PyData.keyHash P (Str.ofString "_law_parts"), key := Value.str (Str.ofString "_law_parts") 678, val := Value.ref 312 }, { hash := PyData.keyHash P (Str.ofString "_law_power"), key := Value.str (Str.ofString "_law_power") 688, val := Value.ref 319 }, { hash := PyData.keyHash P (Str.ofString "_law_common"), key := Value.str (Str.ofString "_law_common") 696, val := Value.ref 326 }, { hash := PyData.keyHash P (Str.ofString "_law_gcd"), key := Value.str (Str.ofString "_law_gcd") 705, val := Value.ref 333 }, { hash := PyData.keyHash P (Str.ofString "_law_pairs"), key := Value.str (Str.ofString "_law_pairs") 715, val := Value.ref 340 }, { hash := PyData.keyHash P (Str.ofString "_law_is_prime"), key := Value.str (Str.ofString "_law_is_prime") 722, val := Value.ref 347 }, { hash := PyData.keyHash P (Str.ofString "_law_factor"), key := Value.str (Str.ofString "_law_factor") 728, val := Value.ref 352 }, { hash := PyData.keyHash P (Str.ofString "_law_steps"), key := Value.str (Str.ofString "_law_steps") 738, val := Value.ref 359 }, { hash := PyData.keyHash P (Str.ofString "_law_told_pairs"), key := Value.str (Str.ofString "_law_told_pairs") 749, val := Value.ref 366 }, { hash := PyData.keyHash P (Str.ofString "_law_pratt"), key := Value.str (Str.ofString "_law_pratt") 755, val := Value.ref 371 }, { hash := PyData.keyHash P (Str.ofString "_law_pocklington"), key := Value.str (Str.ofString "_law_pocklington") 771, val := Value.ref 378 }, { hash := PyData.keyHash P (Str.ofString "_law_bent"), key := Value.str (Str.ofString "_law_bent") 785, val := Value.ref 385 }, { hash := PyData.keyHash P (Str.ofString "_law_is_shown"), key := Value.str (Str.ofString "_law_is_shown") 795, val := Value.ref 392 }, { hash := PyData.keyHash P (Str.ofString "_law_others_right"), key := Value.str (Str.ofString "_law_others_right") 801, val := Value.ref 397 }, { hash := PyData.keyHash P (Str.ofString "law"), key := Value.str (Str.ofString "law") 819, val := Value.ref 404 }] 72 }),
  (46, fnObj (stAt 3) (Str.ofString "normal") (Value.str (Str.ofString "gmp.limbs") 187) (Value.ref 45)),
  (45, { cls := Value.type "code", data := Data.fields #[Value.str (Str.ofString "normal") 225, Value.str (Str.ofString "normal") 226, Value.str (Str.ofString "/claim/cut.py") 227, Value.int 6 0, Value.int 1 0, Value.int 0 0, Value.int 0 0, Value.int 3 0, Value.ref 40, Value.bool true, Value.int 181 0, Value.ref 41, Value.none, Value.ref 42, Value.ref 43, Value.ref 44, Value.int 230 0, Value.int 6 0, Value.str (Str.ofString "/claim/cut.py") 231] }),
  (53, fnObj (stAt 4) (Str.ofString "nat_of") (Value.str (Str.ofString "gmp.limbs") 187) (Value.ref 52)),
  (52, { cls := Value.type "code", data := Data.fields #[Value.str (Str.ofString "nat_of") 233, Value.str (Str.ofString "nat_of") 234, Value.str (Str.ofString "/claim/cut.py") 235, Value.int 11 0, Value.int 2 0, Value.int 0 0, Value.int 0 0, Value.int 3 0, Value.ref 47, Value.bool true, Value.int 181 0, Value.ref 48, Value.none, Value.ref 49, Value.ref 50, Value.ref 51, Value.int 240 0, Value.int 11 0, Value.str (Str.ofString "/claim/cut.py") 241] }),
  (60, fnObj (stAt 5) (Str.ofString "is_even") (Value.str (Str.ofString "gmp.limbs") 187) (Value.ref 59)),
  (59, { cls := Value.type "code", data := Data.fields #[Value.str (Str.ofString "is_even") 243, Value.str (Str.ofString "is_even") 244, Value.str (Str.ofString "/claim/cut.py") 245, Value.int 19 0, Value.int 1 0, Value.int 0 0, Value.int 0 0, Value.int 3 0, Value.ref 54, Value.bool true, Value.int 181 0, Value.ref 55, Value.none, Value.ref 56, Value.ref 57, Value.ref 58, Value.int 247 0, Value.int 19 0, Value.str (Str.ofString "/claim/cut.py") 248] }),
  (67, fnObj (stAt 6) (Str.ofString "compare") (Value.str (Str.ofString "gmp.limbs") 187) (Value.ref 66)),
  (66, { cls := Value.type "code", data := Data.fields #[Value.str (Str.ofString "compare") 250, Value.str (Str.ofString "compare") 251, Value.str (Str.ofString "/claim/cut.py") 252, Value.int 21 0, Value.int 2 0, Value.int 0 0, Value.int 0 0, Value.int 3 0, Value.ref 61, Value.bool true, Value.int 181 0, Value.ref 62, Value.none, Value.ref 63, Value.ref 64, Value.ref 65, Value.int 256 0, Value.int 21 0, Value.str (Str.ofString "/claim/cut.py") 257] }),
  (74, fnObj (stAt 7) (Str.ofString "add") (Value.str (Str.ofString "gmp.limbs") 187) (Value.ref 73)),
  (73, { cls := Value.type "code", data := Data.fields #[Value.str (Str.ofString "add") 259, Value.str (Str.ofString "add") 260, Value.str (Str.ofString "/claim/cut.py") 261, Value.int 28 0, Value.int 3 0, Value.int 0 0, Value.int 0 0, Value.int 3 0, Value.ref 68, Value.bool true, Value.int 181 0, Value.ref 69, Value.none, Value.ref 70, Value.ref 71, Value.ref 72, Value.int 269 0, Value.int 28 0, Value.str (Str.ofString "/claim/cut.py") 270] }),
  (81, fnObj (stAt 8) (Str.ofString "sub") (Value.str (Str.ofString "gmp.limbs") 187) (Value.ref 80)),
  (80, { cls := Value.type "code", data := Data.fields #[Value.str (Str.ofString "sub") 272, Value.str (Str.ofString "sub") 273, Value.str (Str.ofString "/claim/cut.py") 274, Value.int 43 0, Value.int 3 0, Value.int 0 0, Value.int 0 0, Value.int 3 0, Value.ref 75, Value.bool true, Value.int 181 0, Value.ref 76, Value.none, Value.ref 77, Value.ref 78, Value.ref 79, Value.int 283 0, Value.int 43 0, Value.str (Str.ofString "/claim/cut.py") 284] }),
  (88, fnObj (stAt 9) (Str.ofString "shift_right") (Value.str (Str.ofString "gmp.limbs") 187) (Value.ref 87)),
  (87, { cls := Value.type "code", data := Data.fields #[Value.str (Str.ofString "shift_right") 286, Value.str (Str.ofString "shift_right") 287, Value.str (Str.ofString "/claim/cut.py") 288, Value.int 52 0, Value.int 3 0, Value.int 0 0, Value.int 0 0, Value.int 3 0, Value.ref 82, Value.bool true, Value.int 181 0, Value.ref 83, Value.none, Value.ref 84, Value.ref 85, Value.ref 86, Value.int 298 0, Value.int 52 0, Value.str (Str.ofString "/claim/cut.py") 299] }),
  (95, fnObj (stAt 10) (Str.ofString "trailing") (Value.str (Str.ofString "gmp.limbs") 187) (Value.ref 94)),
  (94, { cls := Value.type "code", data := Data.fields #[Value.str (Str.ofString "trailing") 301, Value.str (Str.ofString "trailing") 302, Value.str (Str.ofString "/claim/cut.py") 303, Value.int 59 0, Value.int 2 0, Value.int 0 0, Value.int 0 0, Value.int 3 0, Value.ref 89, Value.bool true, Value.int 181 0, Value.ref 90, Value.none, Value.ref 91, Value.ref 92, Value.ref 93, Value.int 308 0, Value.int 59 0, Value.str (Str.ofString "/claim/cut.py") 309] }),
  (109, fnObj (stIn 20 0) (Str.ofString "Tools.__init__") (Value.str (Str.ofString "gmp.proofs") 311) (Value.ref 108)),
  (108, { cls := Value.type "code", data := Data.fields #[Value.str (Str.ofString "__init__") 341, Value.str (Str.ofString "Tools.__init__") 342, Value.str (Str.ofString "/claim/cut.py") 343, Value.int 75 0, Value.int 6 0, Value.int 0 0, Value.int 0 0, Value.int 3 0, Value.ref 103, Value.bool true, Value.int 181 0, Value.ref 104, Value.none, Value.ref 105, Value.ref 106, Value.ref 107, Value.int 350 0, Value.int 75 0, Value.str (Str.ofString "/claim/cut.py") 351] }),
  (111, { cls := Value.type "dict", data := Data.dict #[{ hash := PyData.keyHash P (Str.ofString "__module__"), key := Value.str (Str.ofString "__module__") 336, val := Value.str (Str.ofString "gmp.proofs") 311 }, { hash := PyData.keyHash P (Str.ofString "__firstlineno__"), key := Value.str (Str.ofString "__firstlineno__") 340, val := Value.int 73 339 }, { hash := PyData.keyHash P (Str.ofString "__init__"), key := Value.str (Str.ofString "__init__") 352, val := Value.ref 109 }, { hash := PyData.keyHash P (Str.ofString "__static_attributes__"), key := Value.str (Str.ofString "__static_attributes__") 358, val := Value.ref 110 }, { hash := PyData.keyHash P (Str.ofString "__dict__"), key := Value.str (Str.ofString "__dict__") 360, val := Value.ref 113 }, { hash := PyData.keyHash P (Str.ofString "__weakref__"), key := Value.str (Str.ofString "__weakref__") 362, val := Value.ref 114 }, { hash := PyData.keyHash P (Str.ofString "__doc__"), key := Value.str (Str.ofString "__doc__") 363, val := Value.none }] 4 }),
  (112, { cls := Value.type "type", data := Data.cls { name := Str.ofString "Tools", bases := [Value.type "object"], mro := [Value.ref 112, Value.type "object"], ns := 111, qualname := Str.ofString "Tools" }, slots := #[none, none, some (Value.str (Str.ofString "Tools") 329), some (Value.str (Str.ofString "Tools") 337), some (Value.builtin "object.__new__"), some (Value.bool true)] }),
  (123, fnObj (stAt 21) (Str.ofString "is_limb") (Value.str (Str.ofString "gmp.proofs") 311) (Value.ref 122)),
  (122, { cls := Value.type "code", data := Data.fields #[Value.str (Str.ofString "is_limb") 366, Value.str (Str.ofString "is_limb") 367, Value.str (Str.ofString "/claim/cut.py") 368, Value.int 81 0, Value.int 2 0, Value.int 0 0, Value.int 0 0, Value.int 3 0, Value.ref 117, Value.bool true, Value.int 181 0, Value.ref 118, Value.none, Value.ref 119, Value.ref 120, Value.ref 121, Value.int 371 0, Value.int 81 0, Value.str (Str.ofString "/claim/cut.py") 372] }),
  (128, fnObj (stAt 22) (Str.ofString "is_nat") (Value.str (Str.ofString "gmp.proofs") 311) (Value.ref 127)),
  (127, { cls := Value.type "code", data := Data.fields #[Value.str (Str.ofString "is_nat") 374, Value.str (Str.ofString "is_nat") 375, Value.str (Str.ofString "/claim/cut.py") 376, Value.int 83 0, Value.int 2 0, Value.int 0 0, Value.int 0 0, Value.int 3 0, Value.ref 124, Value.bool true, Value.int 181 0, Value.ref 125, Value.none, Value.none, Value.none, Value.ref 126, Value.int 377 0, Value.int 83 0, Value.str (Str.ofString "/claim/cut.py") 378] }),
  (135, fnObj (stAt 23) (Str.ofString "is_between") (Value.str (Str.ofString "gmp.proofs") 311) (Value.ref 134)),
  (134, { cls := Value.type "code", data := Data.fields #[Value.str (Str.ofString "is_between") 380, Value.str (Str.ofString "is_between") 381, Value.str (Str.ofString "/claim/cut.py") 382, Value.int 87 0, Value.int 3 0, Value.int 0 0, Value.int 0 0, Value.int 3 0, Value.ref 129, Value.bool true, Value.int 181 0, Value.ref 130, Value.none, Value.ref 131, Value.ref 132, Value.ref 133, Value.int 386 0, Value.int 87 0, Value.str (Str.ofString "/claim/cut.py") 387] }),
  (142, fnObj (stAt 24) (Str.ofString "small_value") (Value.str (Str.ofString "gmp.proofs") 311) (Value.ref 141)),
  (141, { cls := Value.type "code", data := Data.fields #[Value.str (Str.ofString "small_value") 389, Value.str (Str.ofString "small_value") 390, Value.str (Str.ofString "/claim/cut.py") 391, Value.int 89 0, Value.int 2 0, Value.int 0 0, Value.int 0 0, Value.int 3 0, Value.ref 136, Value.bool true, Value.int 181 0, Value.ref 137, Value.none, Value.ref 138, Value.ref 139, Value.ref 140, Value.int 396 0, Value.int 89 0, Value.str (Str.ofString "/claim/cut.py") 397] }),
  (147, fnObj (stAt 25) (Str.ofString "is_small_prime") (Value.str (Str.ofString "gmp.proofs") 311) (Value.ref 146)),
  (146, { cls := Value.type "code", data := Data.fields #[Value.str (Str.ofString "is_small_prime") 399, Value.str (Str.ofString "is_small_prime") 400, Value.str (Str.ofString "/claim/cut.py") 401, Value.int 96 0, Value.int 2 0, Value.int 0 0, Value.int 0 0, Value.int 3 0, Value.ref 143, Value.bool true, Value.int 181 0, Value.ref 144, Value.none, Value.none, Value.none, Value.ref 145, Value.int 402 0, Value.int 96 0, Value.str (Str.ofString "/claim/cut.py") 403] }),
  (154, fnObj (stAt 26) (Str.ofString "power_of") (Value.str (Str.ofString "gmp.proofs") 311) (Value.ref 153)),
  (153, { cls := Value.type "code", data := Data.fields #[Value.str (Str.ofString "power_of") 405, Value.str (Str.ofString "power_of") 406, Value.str (Str.ofString "/claim/cut.py") 407, Value.int 101 0, Value.int 4 0, Value.int 0 0, Value.int 0 0, Value.int 3 0, Value.ref 148, Value.bool true, Value.int 181 0, Value.ref 149, Value.none, Value.ref 150, Value.ref 151, Value.ref 152, Value.int 414 0, Value.int 101 0, Value.str (Str.ofString "/claim/cut.py") 415] }),
  (161, fnObj (stAt 27) (Str.ofString "product_of") (Value.str (Str.ofString "gmp.proofs") 311) (Value.ref 160)),
  (160, { cls := Value.type "code", data := Data.fields #[Value.str (Str.ofString "product_of") 417, Value.str (Str.ofString "product_of") 418, Value.str (Str.ofString "/claim/cut.py") 419, Value.int 106 0, Value.int 4 0, Value.int 0 0, Value.int 0 0, Value.int 3 0, Value.ref 155, Value.bool true, Value.int 181 0, Value.ref 156, Value.none, Value.ref 157, Value.ref 158, Value.ref 159, Value.int 427 0, Value.int 106 0, Value.str (Str.ofString "/claim/cut.py") 428] }),
  (168, fnObj (stAt 28) (Str.ofString "is_one") (Value.str (Str.ofString "gmp.proofs") 311) (Value.ref 167)),
  (167, { cls := Value.type "code", data := Data.fields #[Value.str (Str.ofString "is_one") 430, Value.str (Str.ofString "is_one") 431, Value.str (Str.ofString "/claim/cut.py") 432, Value.int 111 0, Value.int 1 0, Value.int 0 0, Value.int 0 0, Value.int 3 0, Value.ref 162, Value.bool true, Value.int 181 0, Value.ref 163, Value.none, Value.ref 164, Value.ref 165, Value.ref 166, Value.int 434 0, Value.int 111 0, Value.str (Str.ofString "/claim/cut.py") 435] }),
  (175, fnObj (stAt 29) (Str.ofString "is_pair") (Value.str (Str.ofString "gmp.proofs") 311) (Value.ref 174)),
  (174, { cls := Value.type "code", data := Data.fields #[Value.str (Str.ofString "is_pair") 437, Value.str (Str.ofString "is_pair") 438, Value.str (Str.ofString "/claim/cut.py") 439, Value.int 113 0, Value.int 2 0, Value.int 0 0, Value.int 0 0, Value.int 3 0, Value.ref 169, Value.bool true, Value.int 181 0, Value.ref 170, Value.none, Value.ref 171, Value.ref 172, Value.ref 173, Value.int 442 0, Value.int 113 0, Value.str (Str.ofString "/claim/cut.py") 443] }),
  (180, fnObj (stAt 30) (Str.ofString "are_pairs") (Value.str (Str.ofString "gmp.proofs") 311) (Value.ref 179)),
  (179, { cls := Value.type "code", data := Data.fields #[Value.str (Str.ofString "are_pairs") 445, Value.str (Str.ofString "are_pairs") 446, Value.str (Str.ofString "/claim/cut.py") 447, Value.int 117 0, Value.int 3 0, Value.int 0 0, Value.int 0 0, Value.int 3 0, Value.ref 176, Value.bool true, Value.int 181 0, Value.ref 177, Value.none, Value.none, Value.none, Value.ref 178, Value.int 448 0, Value.int 117 0, Value.str (Str.ofString "/claim/cut.py") 449] }),
  (187, fnObj (stAt 31) (Str.ofString "has_whole_order") (Value.str (Str.ofString "gmp.proofs") 311) (Value.ref 186)),
  (186, { cls := Value.type "code", data := Data.fields #[Value.str (Str.ofString "has_whole_order") 451, Value.str (Str.ofString "has_whole_order") 452, Value.str (Str.ofString "/claim/cut.py") 453, Value.int 124 0, Value.int 5 0, Value.int 0 0, Value.int 0 0, Value.int 3 0, Value.ref 181, Value.bool true, Value.int 181 0, Value.ref 182, Value.none, Value.ref 183, Value.ref 184, Value.ref 185, Value.int 462 0, Value.int 124 0, Value.str (Str.ofString "/claim/cut.py") 463] }),
  (192, fnObj (stAt 32) (Str.ofString "pratt") (Value.str (Str.ofString "gmp.proofs") 311) (Value.ref 191)),
  (191, { cls := Value.type "code", data := Data.fields #[Value.str (Str.ofString "pratt") 465, Value.str (Str.ofString "pratt") 466, Value.str (Str.ofString "/claim/cut.py") 467, Value.int 132 0, Value.int 3 0, Value.int 0 0, Value.int 0 0, Value.int 3 0, Value.ref 188, Value.bool true, Value.int 181 0, Value.ref 189, Value.none, Value.none, Value.none, Value.ref 190, Value.int 468 0, Value.int 132 0, Value.str (Str.ofString "/claim/cut.py") 469] }),
  (197, fnObj (stAt 33) (Str.ofString "pratt_holds") (Value.str (Str.ofString "gmp.proofs") 311) (Value.ref 196)),
  (196, { cls := Value.type "code", data := Data.fields #[Value.str (Str.ofString "pratt_holds") 471, Value.str (Str.ofString "pratt_holds") 472, Value.str (Str.ofString "/claim/cut.py") 473, Value.int 148 0, Value.int 4 0, Value.int 0 0, Value.int 0 0, Value.int 3 0, Value.ref 193, Value.bool true, Value.int 181 0, Value.ref 194, Value.none, Value.none, Value.none, Value.ref 195, Value.int 474 0, Value.int 148 0, Value.str (Str.ofString "/claim/cut.py") 475] }),
  (204, fnObj (stAt 34) (Str.ofString "product_bound") (Value.str (Str.ofString "gmp.proofs") 311) (Value.ref 203)),
  (203, { cls := Value.type "code", data := Data.fields #[Value.str (Str.ofString "product_bound") 477, Value.str (Str.ofString "product_bound") 478, Value.str (Str.ofString "/claim/cut.py") 479, Value.int 162 0, Value.int 4 0, Value.int 0 0, Value.int 0 0, Value.int 3 0, Value.ref 198, Value.bool true, Value.int 181 0, Value.ref 199, Value.none, Value.ref 200, Value.ref 201, Value.ref 202, Value.int 487 0, Value.int 162 0, Value.str (Str.ofString "/claim/cut.py") 488] }),
  (211, fnObj (stAt 35) (Str.ofString "part_above_root") (Value.str (Str.ofString "gmp.proofs") 311) (Value.ref 210)),
  (210, { cls := Value.type "code", data := Data.fields #[Value.str (Str.ofString "part_above_root") 490, Value.str (Str.ofString "part_above_root") 491, Value.str (Str.ofString "/claim/cut.py") 492, Value.int 172 0, Value.int 4 0, Value.int 0 0, Value.int 0 0, Value.int 3 0, Value.ref 205, Value.bool true, Value.int 181 0, Value.ref 206, Value.none, Value.ref 207, Value.ref 208, Value.ref 209, Value.int 500 0, Value.int 172 0, Value.str (Str.ofString "/claim/cut.py") 501] }),
  (218, fnObj (stAt 36) (Str.ofString "steps_without") (Value.str (Str.ofString "gmp.proofs") 311) (Value.ref 217)),
  (217, { cls := Value.type "code", data := Data.fields #[Value.str (Str.ofString "steps_without") 503, Value.str (Str.ofString "steps_without") 504, Value.str (Str.ofString "/claim/cut.py") 505, Value.int 179 0, Value.int 4 0, Value.int 0 0, Value.int 0 0, Value.int 3 0, Value.ref 212, Value.bool true, Value.int 181 0, Value.ref 213, Value.none, Value.ref 214, Value.ref 215, Value.ref 216, Value.int 512 0, Value.int 179 0, Value.str (Str.ofString "/claim/cut.py") 513] }),
  (225, fnObj (stAt 37) (Str.ofString "is_partner") (Value.str (Str.ofString "gmp.proofs") 311) (Value.ref 224)),
  (224, { cls := Value.type "code", data := Data.fields #[Value.str (Str.ofString "is_partner") 515, Value.str (Str.ofString "is_partner") 516, Value.str (Str.ofString "/claim/cut.py") 517, Value.int 182 0, Value.int 5 0, Value.int 0 0, Value.int 0 0, Value.int 3 0, Value.ref 219, Value.bool true, Value.int 181 0, Value.ref 220, Value.none, Value.ref 221, Value.ref 222, Value.ref 223, Value.int 526 0, Value.int 182 0, Value.str (Str.ofString "/claim/cut.py") 527] }),
  (232, fnObj (stAt 38) (Str.ofString "partner_of") (Value.str (Str.ofString "gmp.proofs") 311) (Value.ref 231)),
  (231, { cls := Value.type "code", data := Data.fields #[Value.str (Str.ofString "partner_of") 529, Value.str (Str.ofString "partner_of") 530, Value.str (Str.ofString "/claim/cut.py") 531, Value.int 190 0, Value.int 4 0, Value.int 0 0, Value.int 0 0, Value.int 3 0, Value.ref 226, Value.bool true, Value.int 181 0, Value.ref 227, Value.none, Value.ref 228, Value.ref 229, Value.ref 230, Value.int 539 0, Value.int 190 0, Value.str (Str.ofString "/claim/cut.py") 540] }),
  (239, fnObj (stAt 39) (Str.ofString "pocklington") (Value.str (Str.ofString "gmp.proofs") 311) (Value.ref 238)),
  (238, { cls := Value.type "code", data := Data.fields #[Value.str (Str.ofString "pocklington") 542, Value.str (Str.ofString "pocklington") 543, Value.str (Str.ofString "/claim/cut.py") 544, Value.int 200 0, Value.int 3 0, Value.int 0 0, Value.int 0 0, Value.int 3 0, Value.ref 233, Value.bool true, Value.int 181 0, Value.ref 234, Value.none, Value.ref 235, Value.ref 236, Value.ref 237, Value.int 552 0, Value.int 200 0, Value.str (Str.ofString "/claim/cut.py") 553] }),
  (246, fnObj (stAt 40) (Str.ofString "pocklington_holds") (Value.str (Str.ofString "gmp.proofs") 311) (Value.ref 245)),
  (245, { cls := Value.type "code", data := Data.fields #[Value.str (Str.ofString "pocklington_holds") 555, Value.str (Str.ofString "pocklington_holds") 556, Value.str (Str.ofString "/claim/cut.py") 557, Value.int 213 0, Value.int 4 0, Value.int 0 0, Value.int 0 0, Value.int 3 0, Value.ref 240, Value.bool true, Value.int 181 0, Value.ref 241, Value.none, Value.ref 242, Value.ref 243, Value.ref 244, Value.int 571 0, Value.int 213 0, Value.str (Str.ofString "/claim/cut.py") 572] }),
  (253, fnObj (stAt 41) (Str.ofString "strong_rests") (Value.str (Str.ofString "gmp.proofs") 311) (Value.ref 252)),
  (252, { cls := Value.type "code", data := Data.fields #[Value.str (Str.ofString "strong_rests") 574, Value.str (Str.ofString "strong_rests") 575, Value.str (Str.ofString "/claim/cut.py") 576, Value.int 233 0, Value.int 4 0, Value.int 0 0, Value.int 0 0, Value.int 3 0, Value.ref 247, Value.bool true, Value.int 181 0, Value.ref 248, Value.none, Value.ref 249, Value.ref 250, Value.ref 251, Value.int 590 0, Value.int 233 0, Value.str (Str.ofString "/claim/cut.py") 591] }),
  (258, fnObj (stAt 42) (Str.ofString "is_strong_witness") (Value.str (Str.ofString "gmp.proofs") 311) (Value.ref 257)),
  (257, { cls := Value.type "code", data := Data.fields #[Value.str (Str.ofString "is_strong_witness") 593, Value.str (Str.ofString "is_strong_witness") 594, Value.str (Str.ofString "/claim/cut.py") 595, Value.int 242 0, Value.int 4 0, Value.int 0 0, Value.int 0 0, Value.int 3 0, Value.ref 254, Value.bool true, Value.int 181 0, Value.ref 255, Value.none, Value.none, Value.none, Value.ref 256, Value.int 596 0, Value.int 242 0, Value.str (Str.ofString "/claim/cut.py") 597] }),
  (265, fnObj (stAt 43) (Str.ofString "composite_holds") (Value.str (Str.ofString "gmp.proofs") 311) (Value.ref 264)),
  (264, { cls := Value.type "code", data := Data.fields #[Value.str (Str.ofString "composite_holds") 599, Value.str (Str.ofString "composite_holds") 600, Value.str (Str.ofString "/claim/cut.py") 601, Value.int 248 0, Value.int 4 0, Value.int 0 0, Value.int 0 0, Value.int 3 0, Value.ref 259, Value.bool true, Value.int 181 0, Value.ref 260, Value.none, Value.ref 261, Value.ref 262, Value.ref 263, Value.int 611 0, Value.int 248 0, Value.str (Str.ofString "/claim/cut.py") 612] }),
  (272, fnObj (stAt 45) (Str.ofString "_law_take") (Value.str (Str.ofString "law_nn0035_01") 614) (Value.ref 271)),
  (271, { cls := Value.type "code", data := Data.fields #[Value.str (Str.ofString "_law_take") 616, Value.str (Str.ofString "_law_take") 617, Value.str (Str.ofString "/claim/cut.py") 618, Value.int 265 0, Value.int 2 0, Value.int 0 0, Value.int 0 0, Value.int 3 0, Value.ref 266, Value.bool true, Value.int 181 0, Value.ref 267, Value.none, Value.ref 268, Value.ref 269, Value.ref 270, Value.int 622 0, Value.int 265 0, Value.str (Str.ofString "/claim/cut.py") 623] }),
  (279, fnObj (stAt 46) (Str.ofString "_law_total") (Value.str (Str.ofString "law_nn0035_01") 614) (Value.ref 278)),
  (278, { cls := Value.type "code", data := Data.fields #[Value.str (Str.ofString "_law_total") 625, Value.str (Str.ofString "_law_total") 626, Value.str (Str.ofString "/claim/cut.py") 627, Value.int 272 0, Value.int 1 0, Value.int 0 0, Value.int 0 0, Value.int 3 0, Value.ref 273, Value.bool true, Value.int 181 0, Value.ref 274, Value.none, Value.ref 275, Value.ref 276, Value.ref 277, Value.int 631 0, Value.int 272 0, Value.str (Str.ofString "/claim/cut.py") 632] }),
  (286, fnObj (stAt 47) (Str.ofString "_law_row") (Value.str (Str.ofString "law_nn0035_01") 614) (Value.ref 285)),
  (285, { cls := Value.type "code", data := Data.fields #[Value.str (Str.ofString "_law_row") 634, Value.str (Str.ofString "_law_row") 635, Value.str (Str.ofString "/claim/cut.py") 636, Value.int 277 0, Value.int 2 0, Value.int 0 0, Value.int 0 0, Value.int 3 0, Value.ref 280, Value.bool true, Value.int 181 0, Value.ref 281, Value.none, Value.ref 282, Value.ref 283, Value.ref 284, Value.int 640 0, Value.int 277 0, Value.str (Str.ofString "/claim/cut.py") 641] }),
  (293, fnObj (stAt 48) (Str.ofString "_law_whole") (Value.str (Str.ofString "law_nn0035_01") 614) (Value.ref 292)),
  (292, { cls := Value.type "code", data := Data.fields #[Value.str (Str.ofString "_law_whole") 643, Value.str (Str.ofString "_law_whole") 644, Value.str (Str.ofString "/claim/cut.py") 645, Value.int 283 0, Value.int 2 0, Value.int 0 0, Value.int 0 0, Value.int 3 0, Value.ref 287, Value.bool true, Value.int 181 0, Value.ref 288, Value.none, Value.ref 289, Value.ref 290, Value.ref 291, Value.int 650 0, Value.int 283 0, Value.str (Str.ofString "/claim/cut.py") 651] }),
  (298, fnObj (stAt 49) (Str.ofString "_law_is_row") (Value.str (Str.ofString "law_nn0035_01") 614) (Value.ref 297)),
  (297, { cls := Value.type "code", data := Data.fields #[Value.str (Str.ofString "_law_is_row") 653, Value.str (Str.ofString "_law_is_row") 654, Value.str (Str.ofString "/claim/cut.py") 655, Value.int 288 0, Value.int 2 0, Value.int 0 0, Value.int 0 0, Value.int 3 0, Value.ref 294, Value.bool true, Value.int 181 0, Value.ref 295, Value.none, Value.none, Value.none, Value.ref 296, Value.int 656 0, Value.int 288 0, Value.str (Str.ofString "/claim/cut.py") 657] }),
  (305, fnObj (stAt 50) (Str.ofString "_law_times") (Value.str (Str.ofString "law_nn0035_01") 614) (Value.ref 304)),
  (304, { cls := Value.type "code", data := Data.fields #[Value.str (Str.ofString "_law_times") 659, Value.str (Str.ofString "_law_times") 660, Value.str (Str.ofString "/claim/cut.py") 661, Value.int 292 0, Value.int 3 0, Value.int 0 0, Value.int 0 0, Value.int 3 0, Value.ref 299, Value.bool true, Value.int 181 0, Value.ref 300, Value.none, Value.ref 301, Value.ref 302, Value.ref 303, Value.int 665 0, Value.int 292 0, Value.str (Str.ofString "/claim/cut.py") 666] }),
  (312, fnObj (stAt 51) (Str.ofString "_law_parts") (Value.str (Str.ofString "law_nn0035_01") 614) (Value.ref 311)),
  (311, { cls := Value.type "code", data := Data.fields #[Value.str (Str.ofString "_law_parts") 668, Value.str (Str.ofString "_law_parts") 669, Value.str (Str.ofString "/claim/cut.py") 670, Value.int 294 0, Value.int 3 0, Value.int 0 0, Value.int 0 0, Value.int 3 0, Value.ref 306, Value.bool true, Value.int 181 0, Value.ref 307, Value.none, Value.ref 308, Value.ref 309, Value.ref 310, Value.int 676 0, Value.int 294 0, Value.str (Str.ofString "/claim/cut.py") 677] }),
  (319, fnObj (stAt 52) (Str.ofString "_law_power") (Value.str (Str.ofString "law_nn0035_01") 614) (Value.ref 318)),
  (318, { cls := Value.type "code", data := Data.fields #[Value.str (Str.ofString "_law_power") 679, Value.str (Str.ofString "_law_power") 680, Value.str (Str.ofString "/claim/cut.py") 681, Value.int 297 0, Value.int 4 0, Value.int 0 0, Value.int 0 0, Value.int 3 0, Value.ref 313, Value.bool true, Value.int 181 0, Value.ref 314, Value.none, Value.ref 315, Value.ref 316, Value.ref 317, Value.int 686 0, Value.int 297 0, Value.str (Str.ofString "/claim/cut.py") 687] }),
  (326, fnObj (stAt 53) (Str.ofString "_law_common") (Value.str (Str.ofString "law_nn0035_01") 614) (Value.ref 325)),
  (325, { cls := Value.type "code", data := Data.fields #[Value.str (Str.ofString "_law_common") 689, Value.str (Str.ofString "_law_common") 690, Value.str (Str.ofString "/claim/cut.py") 691, Value.int 299 0, Value.int 2 0, Value.int 0 0, Value.int 0 0, Value.int 3 0, Value.ref 320, Value.bool true, Value.int 181 0, Value.ref 321, Value.none, Value.ref 322, Value.ref 323, Value.ref 324, Value.int 694 0, Value.int 299 0, Value.str (Str.ofString "/claim/cut.py") 695] }),
  (333, fnObj (stAt 54) (Str.ofString "_law_gcd") (Value.str (Str.ofString "law_nn0035_01") 614) (Value.ref 332)),
  (332, { cls := Value.type "code", data := Data.fields #[Value.str (Str.ofString "_law_gcd") 697, Value.str (Str.ofString "_law_gcd") 698, Value.str (Str.ofString "/claim/cut.py") 699, Value.int 303 0, Value.int 3 0, Value.int 0 0, Value.int 0 0, Value.int 3 0, Value.ref 327, Value.bool true, Value.int 181 0, Value.ref 328, Value.none, Value.ref 329, Value.ref 330, Value.ref 331, Value.int 703 0, Value.int 303 0, Value.str (Str.ofString "/claim/cut.py") 704] }),
  (340, fnObj (stAt 55) (Str.ofString "_law_pairs") (Value.str (Str.ofString "law_nn0035_01") 614) (Value.ref 339)),
  (339, { cls := Value.type "code", data := Data.fields #[Value.str (Str.ofString "_law_pairs") 706, Value.str (Str.ofString "_law_pairs") 707, Value.str (Str.ofString "/claim/cut.py") 708, Value.int 305 0, Value.int 1 0, Value.int 0 0, Value.int 0 0, Value.int 3 0, Value.ref 334, Value.bool true, Value.int 181 0, Value.ref 335, Value.none, Value.ref 336, Value.ref 337, Value.ref 338, Value.int 713 0, Value.int 305 0, Value.str (Str.ofString "/claim/cut.py") 714] }),
  (347, fnObj (stAt 56) (Str.ofString "_law_is_prime") (Value.str (Str.ofString "law_nn0035_01") 614) (Value.ref 346)),
  (346, { cls := Value.type "code", data := Data.fields #[Value.str (Str.ofString "_law_is_prime") 716, Value.str (Str.ofString "_law_is_prime") 717, Value.str (Str.ofString "/claim/cut.py") 718, Value.int 314 0, Value.int 1 0, Value.int 0 0, Value.int 0 0, Value.int 3 0, Value.ref 341, Value.bool true, Value.int 181 0, Value.ref 342, Value.none, Value.ref 343, Value.ref 344, Value.ref 345, Value.int 720 0, Value.int 314 0, Value.str (Str.ofString "/claim/cut.py") 721] }),
  (352, fnObj (stAt 57) (Str.ofString "_law_factor") (Value.str (Str.ofString "law_nn0035_01") 614) (Value.ref 351)),
  (351, { cls := Value.type "code", data := Data.fields #[Value.str (Str.ofString "_law_factor") 723, Value.str (Str.ofString "_law_factor") 724, Value.str (Str.ofString "/claim/cut.py") 725, Value.int 316 0, Value.int 2 0, Value.int 0 0, Value.int 0 0, Value.int 3 0, Value.ref 348, Value.bool true, Value.int 181 0, Value.ref 349, Value.none, Value.none, Value.none, Value.ref 350, Value.int 726 0, Value.int 316 0, Value.str (Str.ofString "/claim/cut.py") 727] }),
  (359, fnObj (stAt 58) (Str.ofString "_law_steps") (Value.str (Str.ofString "law_nn0035_01") 614) (Value.ref 358)),
  (358, { cls := Value.type "code", data := Data.fields #[Value.str (Str.ofString "_law_steps") 729, Value.str (Str.ofString "_law_steps") 730, Value.str (Str.ofString "/claim/cut.py") 731, Value.int 318 0, Value.int 1 0, Value.int 0 0, Value.int 0 0, Value.int 3 0, Value.ref 353, Value.bool true, Value.int 181 0, Value.ref 354, Value.none, Value.ref 355, Value.ref 356, Value.ref 357, Value.int 736 0, Value.int 318 0, Value.str (Str.ofString "/claim/cut.py") 737] }),
  (366, fnObj (stAt 59) (Str.ofString "_law_told_pairs") (Value.str (Str.ofString "law_nn0035_01") 614) (Value.ref 365)),
  (365, { cls := Value.type "code", data := Data.fields #[Value.str (Str.ofString "_law_told_pairs") 739, Value.str (Str.ofString "_law_told_pairs") 740, Value.str (Str.ofString "/claim/cut.py") 741, Value.int 323 0, Value.int 3 0, Value.int 0 0, Value.int 0 0, Value.int 3 0, Value.ref 360, Value.bool true, Value.int 181 0, Value.ref 361, Value.none, Value.ref 362, Value.ref 363, Value.ref 364, Value.int 747 0, Value.int 323 0, Value.str (Str.ofString "/claim/cut.py") 748] }),
  (371, fnObj (stAt 60) (Str.ofString "_law_pratt") (Value.str (Str.ofString "law_nn0035_01") 614) (Value.ref 370)),
  (370, { cls := Value.type "code", data := Data.fields #[Value.str (Str.ofString "_law_pratt") 750, Value.str (Str.ofString "_law_pratt") 751, Value.str (Str.ofString "/claim/cut.py") 752, Value.int 336 0, Value.int 3 0, Value.int 0 0, Value.int 0 0, Value.int 3 0, Value.ref 367, Value.bool true, Value.int 181 0, Value.ref 368, Value.none, Value.none, Value.none, Value.ref 369, Value.int 753 0, Value.int 336 0, Value.str (Str.ofString "/claim/cut.py") 754] }),
  (378, fnObj (stAt 61) (Str.ofString "_law_pocklington") (Value.str (Str.ofString "law_nn0035_01") 614) (Value.ref 377)),
  (377, { cls := Value.type "code", data := Data.fields #[Value.str (Str.ofString "_law_pocklington") 756, Value.str (Str.ofString "_law_pocklington") 757, Value.str (Str.ofString "/claim/cut.py") 758, Value.int 349 0, Value.int 3 0, Value.int 0 0, Value.int 0 0, Value.int 3 0, Value.ref 372, Value.bool true, Value.int 181 0, Value.ref 373, Value.none, Value.ref 374, Value.ref 375, Value.ref 376, Value.int 769 0, Value.int 349 0, Value.str (Str.ofString "/claim/cut.py") 770] }),
  (385, fnObj (stAt 62) (Str.ofString "_law_bent") (Value.str (Str.ofString "law_nn0035_01") 614) (Value.ref 384)),
  (384, { cls := Value.type "code", data := Data.fields #[Value.str (Str.ofString "_law_bent") 772, Value.str (Str.ofString "_law_bent") 773, Value.str (Str.ofString "/claim/cut.py") 774, Value.int 369 0, Value.int 3 0, Value.int 0 0, Value.int 0 0, Value.int 3 0, Value.ref 379, Value.bool true, Value.int 181 0, Value.ref 380, Value.none, Value.ref 381, Value.ref 382, Value.ref 383, Value.int 783 0, Value.int 369 0, Value.str (Str.ofString "/claim/cut.py") 784] }),
  (392, fnObj (stAt 63) (Str.ofString "_law_is_shown") (Value.str (Str.ofString "law_nn0035_01") 614) (Value.ref 391)),
  (391, { cls := Value.type "code", data := Data.fields #[Value.str (Str.ofString "_law_is_shown") 786, Value.str (Str.ofString "_law_is_shown") 787, Value.str (Str.ofString "/claim/cut.py") 788, Value.int 388 0, Value.int 3 0, Value.int 0 0, Value.int 0 0, Value.int 3 0, Value.ref 386, Value.bool true, Value.int 181 0, Value.ref 387, Value.none, Value.ref 388, Value.ref 389, Value.ref 390, Value.int 793 0, Value.int 388 0, Value.str (Str.ofString "/claim/cut.py") 794] }),
  (397, fnObj (stAt 64) (Str.ofString "_law_others_right") (Value.str (Str.ofString "law_nn0035_01") 614) (Value.ref 396)),
  (396, { cls := Value.type "code", data := Data.fields #[Value.str (Str.ofString "_law_others_right") 796, Value.str (Str.ofString "_law_others_right") 797, Value.str (Str.ofString "/claim/cut.py") 798, Value.int 409 0, Value.int 3 0, Value.int 0 0, Value.int 0 0, Value.int 3 0, Value.ref 393, Value.bool true, Value.int 181 0, Value.ref 394, Value.none, Value.none, Value.none, Value.ref 395, Value.int 799 0, Value.int 409 0, Value.str (Str.ofString "/claim/cut.py") 800] }),
  (404, fnObj (stAt 65) (Str.ofString "law") (Value.str (Str.ofString "law_nn0035_01") 614) (Value.ref 403)),
  (403, { cls := Value.type "code", data := Data.fields #[Value.str (Str.ofString "law") 802, Value.str (Str.ofString "law") 803, Value.str (Str.ofString "/claim/cut.py") 804, Value.int 420 0, Value.int 1 0, Value.int 0 0, Value.int 0 0, Value.int 3 0, Value.ref 398, Value.bool true, Value.int 181 0, Value.ref 399, Value.none, Value.ref 400, Value.ref 401, Value.ref 402, Value.int 817 0, Value.int 420 0, Value.str (Str.ofString "/claim/cut.py") 818] })]
noncomputable def heapAt : List Addr := [3, 46, 45, 53, 52, 60, 59, 67, 66, 74, 73, 81, 80, 88, 87, 95, 94, 109, 108, 111, 112, 123, 122, 128, 127, 135, 134, 142, 141, 147, 146, 154, 153, 161, 160, 168, 167, 175, 174, 180, 179, 187, 186, 192, 191, 197, 196, 204, 203, 211, 210, 218, 217, 225, 224, 232, 231, 239, 238, 246, 245, 253, 252, 258, 257, 265, 264, 272, 271, 279, 278, 286, 285, 293, 292, 298, 297, 305, 304, 312, 311, 319, 318, 326, 325, 333, 332, 340, 339, 347, 346, 352, 351, 359, 358, 366, 365, 371, 370, 378, 377, 385, 384, 392, 391, 397, 396, 404, 403]
theorem heapAt_eq (P : Params) : heapAt = (hd.heap_39 P).map (·.1) := by kernel_rfl
noncomputable def hook : Hook := kHook hd.heap_39 heapAt heapAt_eq
noncomputable def noName : Stmt → Bool
  | .Assign [.Name x _] _ _ => !(x == Str.ofString "__name__")
  | _ => true
noncomputable def view : Program := { PySem.Challenge.pw_nn0035_01 with main := { PySem.Challenge.pw_nn0035_01.main with body := PySem.Challenge.pw_nn0035_01.main.body.filter noName } }
theorem law_is : (defOf view (Str.ofString "law")).isSome = true := by kernel_rfl
noncomputable def lawDef : DefRec × List (Str × Expr) := (defOf view (Str.ofString "law")).get law_is
theorem law_eq : defOf view (Str.ofString "law") = some (lawDef.1, lawDef.2) := by kernel_rfl
noncomputable def o_43 : Obj := { cls := .type "tuple", data := .seq #[] }
noncomputable def o_44 : Obj := { cls := .none, data := .fields #[] }
noncomputable def o_45 : Obj := { cls := Value.type "code", data := Data.fields #[Value.str (Str.ofString "<module>") 182, Value.str (Str.ofString "<module>") 183, Value.str (Str.ofString "/claim/cut.py") 184, Value.int 1 0, Value.int 0 0, Value.int 0 0, Value.int 0 0, Value.int 0 0, Value.ref 11, Value.bool false, Value.int 181 0, Value.ref 12, Value.none, Value.none, Value.none, Value.none, Value.int 185 0, Value.int 1 0, Value.str (Str.ofString "/claim/cut.py") 186] }
noncomputable def o_46 : Obj := { cls := Value.type "frame", slots := #[some (Value.ref 13), some (Value.ref 3), some (Value.ref 3), none, some (Value.str (Str.ofString "__main__") 164), none, some (Value.ref 0)] }
noncomputable def t_47 (P : Params) : BT := BT.node (boot_o_0 P) (BT.node (boot_o_1 P) (BT.node (boot_o_3 P) (BT.node (boot_o_7 P) BT.nil BT.nil) (BT.node (o_43) BT.nil BT.nil)) (BT.node (boot_o_5 P) (BT.node (boot_o_9 P) BT.nil BT.nil) (BT.node (o_45) BT.nil BT.nil))) (BT.node (boot_o_2 P) (BT.node (boot_o_4 P) (BT.node (boot_o_8 P) BT.nil BT.nil) (BT.node (o_44) BT.nil BT.nil)) (BT.node (boot_o_6 P) (BT.node (boot_o_10 P) BT.nil BT.nil) (BT.node (o_46) BT.nil BT.nil)))
noncomputable def env0 : Env := { scope := PySem.Challenge.pw_nn0035_01.main.scope, locals := mainNs, globals := mainNs, cells := [], code := .ref 13, frame := some 14 }
noncomputable def code0 : Code := .body (behindTheImports PySem.Challenge.pw_nn0035_01) env0
noncomputable def sT (w : World) (os : OsState) : SharedT := ⟨t_47 w.params, 15, {}, #[], {}, 187, os⟩
noncomputable def fnTmp (st : Stmt) (q : Str) : Obj := match st with
  | .FunctionDef name args body _ _ _ scope _ _ _ => { cls := .none, data := .func { name := name, qualname := q, params := args, body := .stmts body, scope := scope, globals := 0, closure := [], defaults := .none, kwdefaults := .none } }
  | _ => { cls := .none, data := .plain }
noncomputable def top_E0 : Obj := { cls := .type "tuple", data := .seq #[] }
noncomputable def top_F0 : Obj := { cls := .none, data := .fields #[] }
noncomputable def top_cut (t : Nat) : Value := .str (Str.ofString "/claim/cut.py") t
noncomputable def pmL : Value := .str (Str.ofString "gmp.limbs") 187
noncomputable def pmP : Value := .str (Str.ofString "gmp.proofs") 311
noncomputable def pmW : Value := .str (Str.ofString "law_nn0035_01") 614
noncomputable def top_fo (st : Stmt) (n q : String) (pm : Value) (a t line argc m c : Nat) (mid : List Obj) (r1 r2 : Value) : List Obj :=
  top_E0 :: top_F0 :: mid ++ [fnTmp st (Str.ofString q),
    { cls := .type "code", data := .fields #[.str (Str.ofString n) t, .str (Str.ofString q) (t + 1), top_cut (t + 2), .int line 0, .int argc 0, .int 0 0, .int 0 0, .int 3 0, .ref a, .bool true, .int 181 0, .ref (a + 1), .none, r1, r2, .ref (c - 1), .int (t + 3 + m : Nat) 0, .int line 0, top_cut (t + 4 + m)] },
    fnObj st (Str.ofString q) pm (.ref c)]
noncomputable def fo7 (st : Stmt) (n q : String) (pm : Value) (a t line argc : Nat) (ns : List String) : List Obj :=
  top_fo st n q pm a t line argc ns.length (a + 5) [{ cls := .type "tuple", data := .seq ⟨(ns.zipIdx (t + 3)).map fun x => .str (Str.ofString x.1) x.2⟩ }, top_E0] (.ref (a + 2)) (.ref (a + 3))
noncomputable def fo5 (st : Stmt) (n q : String) (pm : Value) (a t line argc : Nat) : List Obj := top_fo st n q pm a t line argc 0 (a + 3) [] .none .none
noncomputable def top_laid (P : Params) (g f : Obj) : List Obj := [boot_o_0 P,
  boot_o_1 P,
  { cls := Value.none, data := Data.dict #[{ hash := PyData.keyHash P (Str.ofString "type.__subclasses__.Exception.0"), key := Value.str (Str.ofString "type.__subclasses__.Exception.0") 205, val := Value.int 24 0 }, { hash := PyData.keyHash P (Str.ofString "type.__subclasses__.Exception.n"), key := Value.str (Str.ofString "type.__subclasses__.Exception.n") 206, val := Value.int 1 0 }] 2 },
  g,
  boot_o_4 P,
  boot_o_5 P,
  boot_o_6 P,
  boot_o_7 P,
  boot_o_8 P,
  boot_o_9 P,
  boot_o_10 P,
  top_E0,
  f,
  { cls := Value.type "code", data := Data.fields #[Value.str (Str.ofString "<module>") 182, Value.str (Str.ofString "<module>") 183, Value.str (Str.ofString "/claim/cut.py") 184, Value.int 1 0, Value.int 0 0, Value.int 0 0, Value.int 0 0, Value.int 0 0, Value.ref 11, Value.bool false, Value.int 181 0, Value.ref 12, Value.none, Value.none, Value.none, Value.none, Value.int 185 0, Value.int 1 0, Value.str (Str.ofString "/claim/cut.py") 186] },
  { cls := Value.type "frame", slots := #[some (Value.ref 13), some (Value.ref 3), some (Value.ref 3), none, some (Value.str (Str.ofString "__main__") 164), none, some (Value.ref 0)] },
  { cls := Value.type "tuple", data := Data.seq #[Value.type "Exception"] },
  { cls := Value.type "builtin_function_or_method", data := Data.fields #[Value.builtin "type.__prepare__", Value.type "type"] },
  { cls := Value.type "dict", data := Data.dict #[{ hash := PyData.keyHash P (Str.ofString "__module__"), key := Value.str (Str.ofString "__module__") 196, val := Value.str (Str.ofString "gmp.limbs") 187 }, { hash := PyData.keyHash P (Str.ofString "__qualname__"), key := Value.str (Str.ofString "__qualname__") 198, val := Value.str (Str.ofString "GmpError") 197 }, { hash := PyData.keyHash P (Str.ofString "__firstlineno__"), key := Value.str (Str.ofString "__firstlineno__") 200, val := Value.int 2 199 }, { hash := PyData.keyHash P (Str.ofString "__static_attributes__"), key := Value.str (Str.ofString "__static_attributes__") 201, val := Value.ref 22 }] 4 },
  top_E0,
  top_F0,
  { cls := Value.type "code", data := Data.fields #[Value.str (Str.ofString "GmpError") 191, Value.str (Str.ofString "GmpError") 192, Value.str (Str.ofString "/claim/cut.py") 193, Value.int 2 0, Value.int 0 0, Value.int 0 0, Value.int 0 0, Value.int 0 0, Value.ref 18, Value.bool false, Value.int 181 0, Value.ref 19, Value.none, Value.none, Value.none, Value.none, Value.int 194 0, Value.int 2 0, Value.str (Str.ofString "/claim/cut.py") 195] },
  { cls := Value.type "frame", slots := #[some (Value.ref 20), some (Value.ref 3), some (Value.ref 17), none, some (Value.str (Str.ofString "gmp.limbs") 187), none, some (Value.ref 0)] },
  top_E0,
  { cls := Value.type "dict", data := Data.dict #[{ hash := PyData.keyHash P (Str.ofString "__module__"), key := Value.str (Str.ofString "__module__") 196, val := Value.str (Str.ofString "gmp.limbs") 187 }, { hash := PyData.keyHash P (Str.ofString "__firstlineno__"), key := Value.str (Str.ofString "__firstlineno__") 200, val := Value.int 2 199 }, { hash := PyData.keyHash P (Str.ofString "__static_attributes__"), key := Value.str (Str.ofString "__static_attributes__") 201, val := Value.ref 22 }, { hash := PyData.keyHash P (Str.ofString "__weakref__"), key := Value.str (Str.ofString "__weakref__") 203, val := Value.ref 25 }, { hash := PyData.keyHash P (Str.ofString "__doc__"), key := Value.str (Str.ofString "__doc__") 204, val := Value.none }] 3 },
  { cls := Value.type "type", data := Data.cls { name := Str.ofString "GmpError", bases := [Value.type "Exception"], mro := [Value.ref 24, Value.type "Exception", Value.type "BaseException", Value.type "object"], ns := 23, qualname := Str.ofString "GmpError", subclasses := [Value.ref 37] }, slots := #[some (Value.ref 15), none, some (Value.str (Str.ofString "GmpError") 189), some (Value.str (Str.ofString "GmpError") 197), some (Value.builtin "Exception.__new__"), some (Value.bool true)] },
  { cls := Value.type "getset_descriptor", data := Data.fields #[Value.str (Str.ofString "__weakref__") 202, Value.ref 24, Value.builtin "ExceptionGroup.__weakref__", Value.none] },
  { cls := Value.type "super", data := Data.fields #[Value.ref 24, Value.ref 24, Value.ref 24] },
  { cls := Value.type "builtin_function_or_method", data := Data.fields #[Value.builtin "object.__init_subclass__", Value.ref 24] },
  { cls := Value.type "tuple", data := Data.seq #[Value.ref 24] },
  { cls := Value.type "builtin_function_or_method", data := Data.fields #[Value.builtin "type.__prepare__", Value.type "type"] },
  { cls := Value.type "dict", data := Data.dict #[{ hash := PyData.keyHash P (Str.ofString "__module__"), key := Value.str (Str.ofString "__module__") 216, val := Value.str (Str.ofString "gmp.limbs") 187 }, { hash := PyData.keyHash P (Str.ofString "__qualname__"), key := Value.str (Str.ofString "__qualname__") 218, val := Value.str (Str.ofString "OutOfRange") 217 }, { hash := PyData.keyHash P (Str.ofString "__firstlineno__"), key := Value.str (Str.ofString "__firstlineno__") 220, val := Value.int 4 219 }, { hash := PyData.keyHash P (Str.ofString "__static_attributes__"), key := Value.str (Str.ofString "__static_attributes__") 221, val := Value.ref 35 }] 4 },
  top_E0,
  top_F0,
  { cls := Value.type "code", data := Data.fields #[Value.str (Str.ofString "OutOfRange") 211, Value.str (Str.ofString "OutOfRange") 212, Value.str (Str.ofString "/claim/cut.py") 213, Value.int 4 0, Value.int 0 0, Value.int 0 0, Value.int 0 0, Value.int 0 0, Value.ref 31, Value.bool false, Value.int 181 0, Value.ref 32, Value.none, Value.none, Value.none, Value.none, Value.int 214 0, Value.int 4 0, Value.str (Str.ofString "/claim/cut.py") 215] },
  { cls := Value.type "frame", slots := #[some (Value.ref 33), some (Value.ref 3), some (Value.ref 30), none, some (Value.str (Str.ofString "gmp.limbs") 187), none, some (Value.ref 0)] },
  top_E0,
  { cls := Value.type "dict", data := Data.dict #[{ hash := PyData.keyHash P (Str.ofString "__module__"), key := Value.str (Str.ofString "__module__") 216, val := Value.str (Str.ofString "gmp.limbs") 187 }, { hash := PyData.keyHash P (Str.ofString "__firstlineno__"), key := Value.str (Str.ofString "__firstlineno__") 220, val := Value.int 4 219 }, { hash := PyData.keyHash P (Str.ofString "__static_attributes__"), key := Value.str (Str.ofString "__static_attributes__") 221, val := Value.ref 35 }, { hash := PyData.keyHash P (Str.ofString "__doc__"), key := Value.str (Str.ofString "__doc__") 222, val := Value.none }] 2 },
  { cls := Value.type "type", data := Data.cls { name := Str.ofString "OutOfRange", bases := [Value.ref 24], mro := [Value.ref 37, Value.ref 24, Value.type "Exception", Value.type "BaseException", Value.type "object"], ns := 36, qualname := Str.ofString "OutOfRange" }, slots := #[some (Value.ref 28), none, some (Value.str (Str.ofString "OutOfRange") 209), some (Value.str (Str.ofString "OutOfRange") 217), some (Value.builtin "Exception.__new__"), some (Value.bool true)] },
  { cls := Value.type "super", data := Data.fields #[Value.ref 37, Value.ref 37, Value.ref 37] },
  { cls := Value.type "builtin_function_or_method", data := Data.fields #[Value.builtin "object.__init_subclass__", Value.ref 37] }] ++
  (fo7 (stAt 3) "normal" "normal" pmL 40 225 6 1 ["a", "end"] ++
  (fo7 (stAt 4) "nat_of" "nat_of" pmL 47 233 11 2 ["number", "w", "found", "mask"] ++
  (fo7 (stAt 5) "is_even" "is_even" pmL 54 243 19 1 ["a"] ++
  (fo7 (stAt 6) "compare" "compare" pmL 61 250 21 2 ["a", "b", "at"] ++
  (fo7 (stAt 7) "add" "add" pmL 68 259 28 3 ["a", "b", "w", "found", "carry", "mask", "at"] ++
  (fo7 (stAt 8) "sub" "sub" pmL 75 272 43 3 ["a", "b", "w", "found", "borrow", "base", "at", "limb"] ++
  (fo7 (stAt 9) "shift_right" "shift_right" pmL 82 286 52 3 ["a", "n", "w", "spots", "few", "found", "mask", "at", "above"] ++
  (fo7 (stAt 10) "trailing" "trailing" pmL 89 301 59 2 ["a", "w", "at", "limb"] ++
  ([top_E0,
  { cls := Value.type "builtin_function_or_method", data := Data.fields #[Value.builtin "type.__prepare__", Value.type "type"] },
  { cls := Value.type "dict", data := Data.dict #[{ hash := PyData.keyHash P (Str.ofString "__module__"), key := Value.str (Str.ofString "__module__") 336, val := Value.str (Str.ofString "gmp.proofs") 311 }, { hash := PyData.keyHash P (Str.ofString "__qualname__"), key := Value.str (Str.ofString "__qualname__") 338, val := Value.str (Str.ofString "Tools") 337 }, { hash := PyData.keyHash P (Str.ofString "__firstlineno__"), key := Value.str (Str.ofString "__firstlineno__") 340, val := Value.int 73 339 }, { hash := PyData.keyHash P (Str.ofString "__init__"), key := Value.str (Str.ofString "__init__") 352, val := Value.ref 109 }, { hash := PyData.keyHash P (Str.ofString "__static_attributes__"), key := Value.str (Str.ofString "__static_attributes__") 358, val := Value.ref 110 }] 5 },
  top_E0,
  { cls := Value.none, data := Data.fields #[Value.int 75 0, Value.int 4 0, Value.ref 108] },
  { cls := Value.type "code", data := Data.fields #[Value.str (Str.ofString "Tools") 331, Value.str (Str.ofString "Tools") 332, Value.str (Str.ofString "/claim/cut.py") 333, Value.int 73 0, Value.int 0 0, Value.int 0 0, Value.int 0 0, Value.int 0 0, Value.ref 99, Value.bool false, Value.int 181 0, Value.ref 100, Value.none, Value.none, Value.none, Value.none, Value.int 334 0, Value.int 73 0, Value.str (Str.ofString "/claim/cut.py") 335] },
  { cls := Value.type "frame", slots := #[some (Value.ref 101), some (Value.ref 3), some (Value.ref 98), none, some (Value.str (Str.ofString "gmp.proofs") 311), none, some (Value.ref 0)] }] ++
  (fo7 (stIn 20 0) "__init__" "Tools.__init__" pmP 103 341 75 6 ["self", "mul", "divrem", "power", "gcd", "factor"] ++
  ([{ cls := Value.type "tuple", data := Data.seq #[Value.str (Str.ofString "divrem") 353, Value.str (Str.ofString "factor") 354, Value.str (Str.ofString "gcd") 355, Value.str (Str.ofString "mul") 356, Value.str (Str.ofString "power") 357] },
  { cls := Value.type "dict", data := Data.dict #[{ hash := PyData.keyHash P (Str.ofString "__module__"), key := Value.str (Str.ofString "__module__") 336, val := Value.str (Str.ofString "gmp.proofs") 311 }, { hash := PyData.keyHash P (Str.ofString "__firstlineno__"), key := Value.str (Str.ofString "__firstlineno__") 340, val := Value.int 73 339 }, { hash := PyData.keyHash P (Str.ofString "__init__"), key := Value.str (Str.ofString "__init__") 352, val := Value.ref 109 }, { hash := PyData.keyHash P (Str.ofString "__static_attributes__"), key := Value.str (Str.ofString "__static_attributes__") 358, val := Value.ref 110 }, { hash := PyData.keyHash P (Str.ofString "__dict__"), key := Value.str (Str.ofString "__dict__") 360, val := Value.ref 113 }, { hash := PyData.keyHash P (Str.ofString "__weakref__"), key := Value.str (Str.ofString "__weakref__") 362, val := Value.ref 114 }, { hash := PyData.keyHash P (Str.ofString "__doc__"), key := Value.str (Str.ofString "__doc__") 363, val := Value.none }] 4 },
  { cls := Value.type "type", data := Data.cls { name := Str.ofString "Tools", bases := [Value.type "object"], mro := [Value.ref 112, Value.type "object"], ns := 111, qualname := Str.ofString "Tools" }, slots := #[none, none, some (Value.str (Str.ofString "Tools") 329), some (Value.str (Str.ofString "Tools") 337), some (Value.builtin "object.__new__"), some (Value.bool true)] },
  { cls := Value.type "getset_descriptor", data := Data.fields #[Value.str (Str.ofString "__dict__") 359, Value.ref 112, Value.builtin "function.__dict__", Value.builtin "function.__dict__#set"] },
  { cls := Value.type "getset_descriptor", data := Data.fields #[Value.str (Str.ofString "__weakref__") 361, Value.ref 112, Value.builtin "ExceptionGroup.__weakref__", Value.none] },
  { cls := Value.type "super", data := Data.fields #[Value.ref 112, Value.ref 112, Value.ref 112] },
  { cls := Value.type "builtin_function_or_method", data := Data.fields #[Value.builtin "object.__init_subclass__", Value.ref 112] }] ++
  (fo7 (stAt 21) "is_limb" "is_limb" pmP 117 366 81 2 ["value", "w"] ++
  (fo5 (stAt 22) "is_nat" "is_nat" pmP 124 374 83 2 ++
  (fo7 (stAt 23) "is_between" "is_between" pmP 129 380 87 3 ["a", "least", "most"] ++
  (fo7 (stAt 24) "small_value" "small_value" pmP 136 389 89 2 ["a", "w", "value", "at"] ++
  (fo5 (stAt 25) "is_small_prime" "is_small_prime" pmP 143 399 96 2 ++
  (fo7 (stAt 26) "power_of" "power_of" pmP 148 405 101 4 ["a", "many", "w", "mul", "found", "turn"] ++
  (fo7 (stAt 27) "product_of" "product_of" pmP 155 417 106 4 ["pairs", "without", "w", "mul", "found", "at", "pair"] ++
  (fo7 (stAt 28) "is_one" "is_one" pmP 162 430 111 1 ["a"] ++
  (fo7 (stAt 29) "is_pair" "is_pair" pmP 169 437 113 2 ["value", "w"] ++
  (fo5 (stAt 30) "are_pairs" "are_pairs" pmP 176 445 117 3 ++
  (fo7 (stAt 31) "has_whole_order" "has_whole_order" pmP 181 451 124 5 ["a", "n", "pairs", "w", "tools", "power", "mul", "at"] ++
  (fo5 (stAt 32) "pratt" "pratt" pmP 188 465 132 3 ++
  (fo5 (stAt 33) "pratt_holds" "pratt_holds" pmP 193 471 148 4 ++
  (fo7 (stAt 34) "product_bound" "product_bound" pmP 198 477 162 4 ["pairs", "n", "w", "mul", "found", "pair", "turn"] ++
  (fo7 (stAt 35) "part_above_root" "part_above_root" pmP 205 490 172 4 ["n", "pairs", "w", "mul", "taken", "found", "at"] ++
  (fo7 (stAt 36) "steps_without" "steps_without" pmP 212 503 179 4 ["n", "prime", "w", "divrem", "found", "rest"] ++
  (fo7 (stAt 37) "is_partner" "is_partner" pmP 219 515 182 5 ["a", "n", "prime", "w", "tools", "power", "gcd", "told"] ++
  (fo7 (stAt 38) "partner_of" "partner_of" pmP 226 529 190 4 ["n", "prime", "w", "tools", "power", "base", "order"] ++
  (fo7 (stAt 39) "pocklington" "pocklington" pmP 233 542 200 3 ["n", "w", "tools", "factor", "found", "pair", "partner"] ++
  (fo7 (stAt 40) "pocklington_holds" "pocklington_holds" pmP 240 555 213 4 ["n", "value", "w", "tools", "mul", "divrem", "part", "quotient", "rest", "prime", "exponent", "partner", "told"] ++
  (fo7 (stAt 41) "strong_rests" "strong_rests" pmP 247 574 233 4 ["a", "n", "w", "tools", "power", "mul", "divrem", "order", "doublings", "found", "turn", "quotient", "rest"] ++
  (fo5 (stAt 42) "is_strong_witness" "is_strong_witness" pmP 254 593 242 4 ++
  (fo7 (stAt 43) "composite_holds" "composite_holds" pmP 259 599 248 4 ["n", "value", "w", "tools", "kind", "a", "power", "mul", "divrem"] ++
  (fo7 (stAt 45) "_law_take" "_law_take" pmW 266 616 265 2 ["box", "many", "digit"] ++
  (fo7 (stAt 46) "_law_total" "_law_total" pmW 273 625 272 1 ["script", "great", "one"] ++
  (fo7 (stAt 47) "_law_row" "_law_row" pmW 280 634 277 2 ["value", "w", "found"] ++
  (fo7 (stAt 48) "_law_whole" "_law_whole" pmW 287 643 283 2 ["row", "w", "value", "limb"] ++
  (fo5 (stAt 49) "_law_is_row" "_law_is_row" pmW 294 653 288 2 ++
  (fo7 (stAt 50) "_law_times" "_law_times" pmW 299 659 292 3 ["one", "other", "w"] ++
  (fo7 (stAt 51) "_law_parts" "_law_parts" pmW 306 668 294 3 ["one", "other", "w", "here", "there"] ++
  (fo7 (stAt 52) "_law_power" "_law_power" pmW 313 679 297 4 ["one", "exponent", "modulus", "w"] ++
  (fo7 (stAt 53) "_law_common" "_law_common" pmW 320 689 299 2 ["here", "there"] ++
  (fo7 (stAt 54) "_law_gcd" "_law_gcd" pmW 327 697 303 3 ["one", "other", "w"] ++
  (fo7 (stAt 55) "_law_pairs" "_law_pairs" pmW 334 706 305 1 ["value", "found", "prime", "many"] ++
  (fo7 (stAt 56) "_law_is_prime" "_law_is_prime" pmW 341 716 314 1 ["value"] ++
  (fo5 (stAt 57) "_law_factor" "_law_factor" pmW 348 723 316 2 ++
  (fo7 (stAt 58) "_law_steps" "_law_steps" pmW 353 729 318 1 ["pairs", "found", "prime", "many"] ++
  (fo7 (stAt 59) "_law_told_pairs" "_law_told_pairs" pmW 360 739 323 3 ["value", "w", "size", "found", "one"] ++
  (fo5 (stAt 60) "_law_pratt" "_law_pratt" pmW 367 750 336 3 ++
  (fo7 (stAt 61) "_law_pocklington" "_law_pocklington" pmW 372 756 349 3 ["n", "value", "w", "pairs", "prime", "many", "partner", "told", "p", "a"] ++
  (fo7 (stAt 62) "_law_bent" "_law_bent" pmW 379 772 369 3 ["box", "value", "w", "form", "at", "part", "other", "words"] ++
  (fo7 (stAt 63) "_law_is_shown" "_law_is_shown" pmW 386 786 388 3 ["n", "kind", "a", "odd"] ++
  (fo5 (stAt 64) "_law_others_right" "_law_others_right" pmW 393 796 409 3 ++
  (fo7 (stAt 65) "law" "law" pmW 398 802 420 1 ["script", "box", "w", "tools", "n", "row", "whole", "part", "turn", "told", "other", "nine"])))))))))))))))))))))))))))))))))))))))))))))))))))))))
noncomputable def top_ents (P : Params) : List DictEntry := match hd.heap_39 P with
  | (_, o) :: _ => (match o.data with
    | .dict es _ => es.toList
    | _ => [])
  | [] => []
noncomputable def top_gob (P : Params) (m : Nat) (nm : Value) : Obj := { cls := .type "dict", data := .dict ⟨{ hash := PyData.keyHash P (Str.ofString "__name__"), key := .str (Str.ofString "__name__") 165, val := nm } :: ((top_ents P).take m).tail⟩ m }
noncomputable def top_fob (k : Nat) : Obj := { cls := .none, data := .fields ⟨((([(2, 20), (4, 33), (6, 45), (11, 52), (19, 59), (21, 66), (28, 73), (43, 80), (52, 87), (59, 94), (73, 101), (81, 122), (83, 127), (87, 134), (89, 141), (96, 146), (101, 153), (106, 160), (111, 167), (113, 174), (117, 179), (124, 186), (132, 191), (148, 196), (162, 203), (172, 210), (179, 217), (182, 224), (190, 231), (200, 238), (213, 245), (233, 252), (242, 257), (248, 264), (265, 271), (272, 278), (277, 285), (283, 292), (288, 297), (292, 304), (294, 311), (297, 318), (299, 325), (303, 332), (305, 339), (314, 346), (316, 351), (318, 358), (323, 365), (336, 370), (349, 377), (369, 384), (388, 391), (409, 396), (420, 403)] : List (Nat × Nat)).take k).flatMap fun x => [.int x.1 0, .int 0 0, .ref x.2])⟩ }
noncomputable def top_alt : Bool → List Obj → List Obj
  | _, [] => []
  | true, x :: r => x :: top_alt false r
  | false, _ :: r => top_alt true r
noncomputable def top_ofL : Nat → List Obj → BT
  | 0, _ => .nil
  | _, [] => .nil
  | k + 1, x :: r => .node x (top_ofL k (top_alt true r)) (top_ofL k (top_alt false r))
noncomputable def stT (n m k t : Nat) (nm : Value) (w : World) (os : OsState) : SharedT := ⟨top_ofL 10 ((top_laid w.params (top_gob w.params m nm) (top_fob k)).take n), n, {}, #[], {}, t, os⟩
noncomputable def tops1 (w : World) (os : OsState) : SharedT := stT 75 16 7 272 pmL w os
noncomputable def tops2 (w : World) (os : OsState) : SharedT := stT 148 33 16 405 pmP w os
noncomputable def tops3 (w : World) (os : OsState) : SharedT := stT 226 45 28 529 pmP w os
noncomputable def tops4 (w : World) (os : OsState) : SharedT := stT 299 56 39 659 pmW w os
noncomputable def tops5 (w : World) (os : OsState) : SharedT := stT 405 72 55 820 pmW w os
theorem open_ok : ∀ w : World, (fencedOpening treeTable PySem.Challenge.pw_nn0035_01 w 4926).map (fun s => (s.heap, s.gens, s.drawn, s.toks)) = some (boot_heap w.params, Array.mk [], boot_drawn, boot_toks) :=
  boot_open (by kernel_rfl) (by decide) (fun s => by kernel_rfl)
theorem size1 (w : World) : ((boot_heap w.params).isNs mainGlobals && (Array.mk [] : Array GenState).size == 0) = true := by kernel_rfl
theorem size2 (w : World) : (boot_heap w.params).objs.size = 11 := by kernel_rfl
theorem size3 (w : World) : (boot_heap w.params).nsMap mainGlobals "__annotations__" = some (.ref 6) := by kernel_rfl
theorem pre_ok (w : World) (os : OsState) : topGo treeTable PySem.Challenge.pw_nn0035_01 w 11 (some (.ref 6)) 12 ⟨boot_heap w.params, Array.mk [], boot_drawn, boot_toks, os⟩ (topStub PySem.Challenge.pw_nn0035_01) = some ((sT w os).abs, ⟨denote treeTable code0, code0, ⟨0, 0, 0, 0⟩, [topFrame ⟨0, 0, 0, 0⟩]⟩) := by kernel_rfl
theorem block_ok (w : World) (os : OsState) : segRun treeTable PySem.Challenge.pw_nn0035_01 w 11 (some (.ref 6)) 1 1 (sT w os).abs (blockOf (behindTheImports PySem.Challenge.pw_nn0035_01) env0 code0 ⟨0, 0, 0, 0⟩ [topFrame ⟨0, 0, 0, 0⟩]) = some (.next, (sT w os).abs, code0, ⟨0, 0, 0, 0⟩) := by kernel_rfl
theorem topm1 (w : World) (os : OsState) : segRunT treeTable PySem.Challenge.pw_nn0035_01 w 11 (some (.ref 6)) 1 577 (sT w os) (piecesOf ((behindTheImports PySem.Challenge.pw_nn0035_01).take 8) env0 code0 ⟨0, 0, 0, 0⟩ [topFrame ⟨0, 0, 0, 0⟩]) = some (.next, tops1 w os, code0, ⟨28, 0, 42, 16⟩) := by kernel_rfl
theorem topm2 (w : World) (os : OsState) : segRunT treeTable PySem.Challenge.pw_nn0035_01 w 11 (some (.ref 6)) 1 563 (tops1 w os) (piecesOf (((behindTheImports PySem.Challenge.pw_nn0035_01).drop 8).take 18) env0 code0 ⟨28, 0, 42, 16⟩ [topFrame ⟨0, 0, 0, 0⟩]) = some (.next, tops2 w os, code0, ⟨96, 0, 100, 73⟩) := by kernel_rfl
theorem topm3 (w : World) (os : OsState) : segRunT treeTable PySem.Challenge.pw_nn0035_01 w 11 (some (.ref 6)) 1 383 (tops2 w os) (piecesOf ((((behindTheImports PySem.Challenge.pw_nn0035_01).drop 8).drop 18).take 12) env0 code0 ⟨96, 0, 100, 73⟩ [topFrame ⟨0, 0, 0, 0⟩]) = some (.next, tops3 w os, code0, ⟨182, 0, 189, 47⟩) := by kernel_rfl
theorem topm4 (w : World) (os : OsState) : segRunT treeTable PySem.Challenge.pw_nn0035_01 w 11 (some (.ref 6)) 1 376 (tops3 w os) (piecesOf (((((behindTheImports PySem.Challenge.pw_nn0035_01).drop 8).drop 18).drop 12).take 12) env0 code0 ⟨182, 0, 189, 47⟩ [topFrame ⟨0, 0, 0, 0⟩]) = some (.next, tops4 w os, code0, ⟨288, 0, 291, 93⟩) := by kernel_rfl
theorem topm5 (w : World) (os : OsState) : segRunT treeTable PySem.Challenge.pw_nn0035_01 w 11 (some (.ref 6)) 1 509 (tops4 w os) (piecesOf (((((behindTheImports PySem.Challenge.pw_nn0035_01).drop 8).drop 18).drop 12).drop 12) env0 code0 ⟨288, 0, 291, 93⟩ [topFrame ⟨0, 0, 0, 0⟩]) = some (.next, tops5 w os, code0, ⟨420, 0, 441, 43⟩) := by kernel_rfl
noncomputable def topEnd (w : World) (os : OsState) : Shared := ⟨⟨⟨top_laid w.params (top_gob w.params 72 pmW) (top_fob 55)⟩, {}⟩, #[], {}, 820, os⟩
theorem top_end (w : World) (os : OsState) : topRun treeTable PySem.Challenge.pw_nn0035_01 w 11 (some (.ref 6)) 3 (tops5 w os).abs ⟨doneF .next, code0, ⟨420, 0, 441, 43⟩, [topFrame ⟨0, 0, 0, 0⟩]⟩ = some (topEnd w os) := by kernel_rfl
theorem step_ok {w : World} {n N k : Nat} {s s' : SharedT} {r : Shared} {b : List Stmt} {c c' : Pos} (h : segRunT treeTable PySem.Challenge.pw_nn0035_01 w 11 (some (.ref 6)) 1 n s (piecesOf (b.take k) env0 code0 c [topFrame ⟨0, 0, 0, 0⟩]) = some (.next, s', code0, c'))
    (q : topRun treeTable PySem.Challenge.pw_nn0035_01 w 11 (some (.ref 6)) N s'.abs (restOf (b.drop k) env0 code0 c' [topFrame ⟨0, 0, 0, 0⟩]) = some r) : topRun treeTable PySem.Challenge.pw_nn0035_01 w 11 (some (.ref 6)) (n + N) s.abs (restOf b env0 code0 c [topFrame ⟨0, 0, 0, 0⟩]) = some r := by
  have := piece_app (segRun_of h) q
  rwa [List.take_append_drop] at this
theorem run_ok (w : World) (os : OsState) : topRun treeTable PySem.Challenge.pw_nn0035_01 w 11 (some (.ref 6)) (12 + (1 + (577 + (563 + (383 + (376 + (509 + 3))))))) ⟨boot_heap w.params, Array.mk [], boot_drawn, boot_toks, os⟩ (topStub PySem.Challenge.pw_nn0035_01) = some (topEnd w os) := by
  have k := piece_app (rest := []) (segRun_of (topm5 w os)) (piece_nil (top_end w os))
  rw [List.append_nil] at k
  exact go_top (pre_ok w os) (piece_block (block_ok w os) (step_ok (topm1 w os) (step_ok (topm2 w os) (step_ok (topm3 w os) (step_ok (topm4 w os) k)))))
theorem left_run {p q : Program} {loose : List Str} {Xt : Shared → Bool} {α : Type} {Yf : Shared → α} {Ya : World → α} {N : Nat} {g0 : Bool} {H₀ : Params → Heap} {gs₀ : Array GenState} {d₀ : Drawn} {k₀ m₀ : Nat} {ann : Option Value} {M : Nat}
    (open_ : ∀ w : World, (fencedOpening treeTable p w N).map (fun s => (s.heap, s.gens, s.drawn, s.toks)) = some (H₀ w.params, gs₀, d₀, k₀))
    (z1 : ∀ w : World, ((H₀ w.params).isNs mainGlobals && gs₀.size == 0) = true) (z2 : ∀ w : World, (H₀ w.params).objs.size = m₀) (z3 : ∀ w : World, (H₀ w.params).nsMap mainGlobals "__annotations__" = ann) (le : Nat.ble M N = true)
    (looks : ∀ (w : World) (os : OsState), ∃ s, topRun treeTable p w m₀ ann M ⟨H₀ w.params, gs₀, d₀, k₀, os⟩ (topStub p) = some s ∧ (staticsOk (importedModules p.main.body) (H₀ w.params) s.heap && namesBound p s.heap && gensDone s && laidKept (H₀ w.params) s.heap) = true ∧ openSeen q loose (importedModules p.main.body) Xt g0 s = openGood q loose ∧ Yf s = Ya w) : LeftO p q loose Xt Yf Ya N g0 := fun w => by
  obtain ⟨⟨h, gs, d, k, os⟩, e, e'⟩ := Option.map_eq_some_iff.mp (open_ w)
  cases e'
  obtain ⟨s, r, l1, l2, l3⟩ := looks w os
  have r := topRun_mono (N - M) _ _ _ _ r
  rw [Nat.add_sub_of_le (Nat.le_of_ble_eq_true le)] at r
  have t : topFrom treeTable p w N ⟨H₀ w.params, gs, d, k, os⟩ = some s := by
    unfold topFrom
    dsimp only
    rw [z1 w, z2 w, z3 w, r]
    show (match staticsOk (importedModules p.main.body) (H₀ w.params) s.heap && namesBound p s.heap && gensDone s && laidKept (H₀ w.params) s.heap with | true => _ | false => _) = _
    rw [l1]
  unfold openEnds
  rw [e]
  show (topFrom treeTable p w N _).map _ = _
  rw [t]
  exact congrArg some (Prod.ext l2 l3)
theorem look_0 (w : World) (os : OsState) : (fun s : Shared => (staticsOk (importedModules PySem.Challenge.pw_nn0035_01.main.body) (boot_heap w.params) s.heap && namesBound PySem.Challenge.pw_nn0035_01 s.heap && gensDone s && laidKept (boot_heap w.params) s.heap)) (topEnd w os) = (true) := by kernel_rfl
theorem look_1 (w : World) (os : OsState) : (fun s : Shared => (seen ((recsOf view).map (·.name)) (ownsOf view) [] { s with gens := #[] })) (topEnd w os) = (expectedOf view) := by kernel_rfl
theorem look_2 (w : World) (os : OsState) : (fun s : Shared => (s.heap.bltView)) (topEnd w os) = (bltViewBooted) := by kernel_rfl
theorem look_3 (w : World) (os : OsState) : (fun s : Shared => (s.heap.keysOk (looseW view ([] : List Str)) ((recsOf view).map (·.name)) ((litsOf view).map (·.1)) ((clssOf view (looseW view ([] : List Str))).map (·.name)) && s.heap.accountedOkI (importedModules PySem.Challenge.pw_nn0035_01.main.body) && s.heap.isNs mainGlobals && s.heap.isNs builtinsNs && tablesOk view s.heap && (fun s => xlAt view [] s && recOk (RowW.records PySem.Challenge.rw_nn0035_01.row.toRowW) s) s && (if true then s.gens.size == 0 else !leftWithCleanup s.gens))) (topEnd w os) = (true) := by kernel_rfl
theorem look_4 (w : World) (os : OsState) : (fun s : Shared => (tabsOk view s)) (topEnd w os) = (true) := by kernel_rfl
theorem look_5 (w : World) (os : OsState) : (fun s : Shared => (pinSeenD view (drecsOf view) s)) (topEnd w os) = (pinGoodD (drecsOf view)) := by kernel_rfl
theorem look_6 (w : World) (os : OsState) : (fun s : Shared => (plainSeenE view (looseW view ([] : List Str)) s)) (topEnd w os) = (plainGoodE view (looseW view ([] : List Str))) := by kernel_rfl
theorem look_7 (w : World) (os : OsState) : (fun s : Shared => (plainSeenD view ([] : List Str) s)) (topEnd w os) = (plainGoodD view ([] : List Str)) := by kernel_rfl
theorem look_8 (w : World) (os : OsState) : (fun s : Shared => (wideSeen view s)) (topEnd w os) = (wideGood view) := by kernel_rfl
theorem look_9 (w : World) (os : OsState) : (fun s : Shared => (clsSeenW view ([] : List Str) s)) (topEnd w os) = (clsGoodW view ([] : List Str)) := by kernel_rfl
theorem look_10 (w : World) (os : OsState) : (fun s : Shared => (Hook.obs hook s)) (topEnd w os) = (Hook.val hook w) := by kernel_rfl
theorem left_ok : LeftO PySem.Challenge.pw_nn0035_01 view [] (fun s => xlAt view [] s && recOk (RowW.records PySem.Challenge.rw_nn0035_01.row.toRowW) s) (Hook.obs hook) (Hook.val hook) 4926 :=
  left_run open_ok size1 size2 size3 (M := 12 + (1 + (577 + (563 + (383 + (376 + (509 + 3))))))) (by decide) fun w os => by
    refine ⟨topEnd w os, run_ok w os, ?_⟩
    have c0 := look_0 w os
    have c1 := look_1 w os
    have c2 := look_2 w os
    have c3 := look_3 w os
    have c4 := look_4 w os
    have c5 := look_5 w os
    have c6 := look_6 w os
    have c7 := look_7 w os
    have c8 := look_8 w os
    have c9 := look_9 w os
    have c10 := look_10 w os
    generalize topEnd w os = s at c0 c1 c2 c3 c4 c5 c6 c7 c8 c9 c10 ⊢
    exact ⟨c0, Prod.ext c1 (Prod.ext c2 (Prod.ext c3 (Prod.ext c4 (Prod.ext c5 (Prod.ext c6 (Prod.ext c7 (Prod.ext c8 (c9)))))))), c10⟩
theorem look2 {a b : Bool} (x : a = true) (y : b = true) : (a && b) = true := by rw [x, y]; rfl
theorem said_looks : looksOpen PySem.Challenge.rw_nn0035_01.row.prog = true := by
  unfold looksOpen
  repeat' with_reducible apply look2
  all_goals decide +kernel
theorem said_part : OpenRow.partSaid PySem.Challenge.rw_nn0035_01.row = true := by
  unfold OpenRow.partSaid
  repeat' with_reducible apply look2
  all_goals first | with_reducible exact said_looks | decide +kernel
theorem said_row : OpenRow.wellSaid PySem.Challenge.rw_nn0035_01.row = true := by
  unfold OpenRow.wellSaid
  repeat' with_reducible apply look2
  all_goals first | with_reducible exact said_part | decide +kernel
theorem said_ok : OpenLaw.wellSaid PySem.Challenge.rw_nn0035_01 = true := by
  unfold OpenLaw.wellSaid
  repeat' with_reducible apply look2
  all_goals first | with_reducible exact said_row | decide +kernel
theorem head_ok (call : WalkO view [] (XL view []) (Hook.says hook) PySem.Challenge.rw_nn0035_01.row.toRowW lawDef.1 lawDef.2 fun f vs => PySem.call f vs) : PySem.Challenge.rw_nn0035_01.Holds :=
  holds_law (l := PySem.Challenge.rw_nn0035_01) said_ok fun said =>
    holds_open (r := PySem.Challenge.rw_nn0035_01.row) (q := view) (loose := []) (Xt := fun s => xlAt view [] s && recOk (RowW.records PySem.Challenge.rw_nn0035_01.row.toRowW) s) (XP := XL view []) (Yf := Hook.obs hook) (Ya := Hook.val hook) (YP := Hook.says hook) (N := 4926)
      left_ok (Hook.of hook) (Hook.keeps hook) (fun s e => xl_of s (Bool.and_eq_true_iff.mp e).1) XL.keeps law_eq (by kernel_rfl) (by kernel_rfl) (fun s e => recFacts_of (Bool.and_eq_true_iff.mp e).2) rfl said (by kernel_rfl) ⟨rfl, rfl, rfl, rfl, rfl, by decide +kernel⟩
      ⟨[.list []], by decide +kernel, by decide +kernel⟩ call
end Mine
namespace Mine

inductive D where
  | none
  | bool (b : Bool)
  | int (i : Int)
  | str (s : Str)
  | raw (v : Value)
  | range (a b c : Int)
  | inst (cls : Addr) (fs : List (Str × Value))
  | slice (lo hi st : Option Int)
  | list (l : List D)
  | tup (l : List D)

noncomputable def InstOf (h : Heap) (N : Addr → Prop) (cls : Addr) (fs : List (Str × Value)) (v : Value) : Prop :=
  ∃ x dx es n, v = .ref x ∧ ¬ N x ∧ ¬ N dx ∧ h.get? x = some (instObj cls dx) ∧ h.get? dx = some (dictOf es n) ∧
    (∃ ks : List (Int × Tok), es = List.zipWith (fun k f => (⟨k.1, .str f.1 k.2, f.2⟩ : DictEntry)) ks fs ∧ ks.length = fs.length)

noncomputable def PlainTup (h : Heap) (a : Addr) (items : Array Value) : Prop := ∃ n, h.get? a = some { cls := .type "tuple", data := .seq items n }
theorem PlainTup.isTup {h : Heap} {a : Addr} {items : Array Value} (x : PlainTup h a items) : IsTup h a items := let ⟨n, e⟩ := x; ⟨_, e, rfl, n, rfl⟩

mutual
noncomputable def Rep (h : Heap) (N : Addr → Prop) : D → Value → Prop
  | .none, v => v = .none
  | .bool b, v => v = .bool b
  | .int i, v => ∃ t, v = .int i t
  | .str x, v => ∃ t, v = .str x t
  | .raw u, v => v = u
  | .range a b c, v => ∃ r t1 t2 t3, v = .ref r ∧ ¬ N r ∧ IsRange h r a b c t1 t2 t3
  | .inst cls fs, v => InstOf h N cls fs v
  | .slice lo hi st, v => ∃ a vl vu vs, v = .ref a ∧ ¬ N a ∧ h.IsSliceOf a vl vu vs ∧ IsPart vl lo ∧ IsPart vu hi ∧ IsPart vs st
  | .list l, v => ∃ a xs, v = .ref a ∧ ¬ N a ∧ h.PlainList a xs ∧ Reps h N l xs.toList
  | .tup l, v => ∃ a xs, v = .ref a ∧ ¬ N a ∧ PlainTup h a xs ∧ Reps h N l xs.toList
noncomputable def Reps (h : Heap) (N : Addr → Prop) : List D → List Value → Prop
  | [], vs => vs = []
  | d :: ds, vs => ∃ v r, vs = v :: r ∧ Rep h N d v ∧ Reps h N ds r
end

noncomputable def Ext (E : Addr → Prop) (h h' : Heap) : Prop := ∀ a o, ¬ E a → h.get? a = some o → h'.get? a = some o

theorem Ext.refl (E : Addr → Prop) (h : Heap) : Ext E h h := fun _ _ _ e => e

mutual
theorem Rep.move {h h' : Heap} {N N' : Addr → Prop} (hk : ∀ a o, ¬ N a → h.get? a = some o → ¬ N' a ∧ h'.get? a = some o) :
    ∀ (d : D) (v : Value), Rep h N d v → Rep h' N' d v
  | .none, _, x => x
  | .bool _, _, x => x
  | .int _, _, x => x
  | .str _, _, x => x
  | .raw _, _, x => x
  | .range _ _ _, _, x => by
    obtain ⟨r, t1, t2, t3, e, n, hr⟩ := x
    exact ⟨r, t1, t2, t3, e, (hk _ _ n hr).1, (hk _ _ n hr).2⟩
  | .inst _ _, _, x => by
    obtain ⟨x, dx, es, n, e, n1, n2, h1, h2, h3⟩ := x
    exact ⟨x, dx, es, n, e, (hk _ _ n1 h1).1, (hk _ _ n2 h2).1, (hk _ _ n1 h1).2, (hk _ _ n2 h2).2, h3⟩
  | .slice _ _ _, _, x => by
    obtain ⟨a, vl, vu, vs, e, n, ⟨o, ho, r⟩, hr⟩ := x
    exact ⟨a, vl, vu, vs, e, (hk _ _ n ho).1, ⟨o, (hk _ _ n ho).2, r⟩, hr⟩
  | .list l, _, x => by
    obtain ⟨a, xs, e, n, ⟨k, ho⟩, hr⟩ := x
    exact ⟨a, xs, e, (hk _ _ n ho).1, ⟨k, (hk _ _ n ho).2⟩, Reps.move hk l _ hr⟩
  | .tup l, _, x => by
    obtain ⟨a, xs, e, n, ⟨k, ho⟩, hr⟩ := x
    exact ⟨a, xs, e, (hk _ _ n ho).1, ⟨k, (hk _ _ n ho).2⟩, Reps.move hk l _ hr⟩
theorem Reps.move {h h' : Heap} {N N' : Addr → Prop} (hk : ∀ a o, ¬ N a → h.get? a = some o → ¬ N' a ∧ h'.get? a = some o) :
    ∀ (ds : List D) (vs : List Value), Reps h N ds vs → Reps h' N' ds vs
  | [], _, x => x
  | d :: ds, _, x => by
    obtain ⟨v, r, e, hv, hr⟩ := x
    exact ⟨v, r, e, Rep.move hk d v hv, Reps.move hk ds r hr⟩
end

theorem Reps.length {h : Heap} {N : Addr → Prop} : ∀ {ds : List D} {vs : List Value}, Reps h N ds vs → vs.length = ds.length
  | [], vs, x => by have : vs = [] := x; subst this; rfl
  | d :: ds, vs, x => by obtain ⟨v, r, rfl, _, hr⟩ := x; simp [hr.length]

theorem Reps.get {h : Heap} {N : Addr → Prop} : ∀ {ds : List D} {vs : List Value}, Reps h N ds vs → ∀ {i : Nat} {d : D}, ds[i]? = some d → ∃ v, vs[i]? = some v ∧ Rep h N d v
  | [], vs, x, i, d, e => by simp at e
  | d' :: ds, vs, x, i, d, e => by
    obtain ⟨v, r, rfl, hv, hr⟩ := x
    cases i with
    | zero => simp at e; subst e; exact ⟨v, rfl, hv⟩
    | succ i => simp at e; simpa using hr.get e

theorem Reps.append {h : Heap} {N : Addr → Prop} : ∀ {ds es : List D} {vs us : List Value}, Reps h N ds vs → Reps h N es us → Reps h N (ds ++ es) (vs ++ us)
  | [], es, vs, us, x, y => by have : vs = [] := x; subst this; simpa using y
  | d :: ds, es, vs, us, x, y => by
    obtain ⟨v, r, rfl, hv, hr⟩ := x
    exact ⟨v, r ++ us, rfl, hv, hr.append y⟩

theorem Reps.one {h : Heap} {N : Addr → Prop} {d : D} {v : Value} (x : Rep h N d v) : Reps h N [d] [v] := ⟨v, [], rfl, x, rfl⟩

noncomputable abbrev Store := List (Addr × List D)
noncomputable abbrev Vars := List (Str × D)

noncomputable def Store.has (σ : Store) : Addr → Prop := fun a => a ∈ σ.map (·.1)

structure Cx where
  A : Around
  env : Env
  n : Nat

noncomputable def Cx.own (C : Cx) : Addr → Prop := fun a => a = C.env.locals ∨ ∃ y, C.env.cells.lookup y = some a
noncomputable def Cx.rx (C : Cx) (X : Addr → Prop) (σ : Store) : Addr → Prop := fun a => σ.has a ∨ C.own a ∨ X a

structure Cx.Ok (C : Cx) : Prop where
  kind : C.env.scope.kind = .function
  glob : C.env.globals = mainGlobals
  blt : C.env.builtins = builtinsNs
  room : C.A.depth + C.n < recursionLimit
  units : C.A.units + 20 * C.n + 100 < cLine
  unheld : C.A.handled = none

noncomputable def Bound (env : Env) (h : Heap) (m : Str → Option Value) (x : Str) (v : Value) : Prop :=
  (env.kindOf x = some .local ∧ m x = some v) ∨ ((env.kindOf x = some .cell ∨ env.kindOf x = some .free) ∧ ∃ c, env.cells.lookup x = some c ∧ h.IsCell c (some v))

structure Base (K : Frag) (b : Heap) : Prop where
  K : K.In b
  top : ∃ p loose mg mb, TopRead p loose mg mb b

structure StoreOk (h : Heap) (N : Addr → Prop) (σ : Store) : Prop where
  at' : ∀ a ds, (a, ds) ∈ σ → ∃ xs, h.PlainList a xs ∧ Reps h N ds xs.toList
  nodup : (σ.map (·.1)).Nodup

structure St (b : Heap) (C : Cx) (X : Addr → Prop) (m : Str → Option Value) (Γ : Vars) (σ : Store) (s : Shared) : Prop where
  ns : s.heap.Ns C.env.locals m
  keep : ∀ a o, b.get? a = some o → s.heap.get? a = some o
  new : ∀ a, σ.has a ∨ C.own a → b.get? a = none
  vars : ∀ x d, Γ.lookup x = some d → ∃ v, Bound C.env s.heap m x v ∧ Rep s.heap (C.rx X σ) d v
  store : StoreOk s.heap (C.rx X σ) σ
  apart : ∀ a, σ.has a → ¬ C.own a
  apartX : ∀ a, σ.has a → ¬ X a
  cells : ∀ y c, C.env.cells.lookup y = some c → ∃ v, s.heap.IsCell c v
  cellsApart : C.env.cells.Pairwise fun x y => x.2 ≠ y.2
  live : ∀ a, C.rx X σ a → ∃ o, s.heap.get? a = some o

structure Step (E : Addr → Prop) (σ : Store) (s : Shared) (σ' : Store) (s' : Shared) : Prop where
  same : ∃ h' tk, s' = { s with heap := h', toks := tk }
  ext : Ext E s.heap s'.heap
  fresh : ∀ a, σ'.has a → σ.has a ∨ s.heap.get? a = none

theorem Step.refl (E : Addr → Prop) (σ : Store) (s : Shared) : Step E σ s σ s := ⟨⟨s.heap, s.toks, rfl⟩, Ext.refl _ _, fun _ h => .inl h⟩

theorem Step.tok {E : Addr → Prop} {σ : Store} {s : Shared} (t : Nat) : Step E σ s σ { s with toks := t } := ⟨⟨s.heap, t, rfl⟩, Ext.refl _ _, fun _ h => .inl h⟩

theorem Step.trans {E : Addr → Prop} {σ σ' σ'' : Store} {s s' s'' : Shared} (x : Step σ.has σ s σ' s') (y : Step σ'.has σ' s' σ'' s'') (hE : ∀ a, σ.has a → E a) : Step E σ s σ'' s'' where
  same := by
    obtain ⟨h, t, rfl⟩ := x.same
    obtain ⟨h', t', rfl⟩ := y.same
    exact ⟨h', t', rfl⟩
  ext a o n e := by
    have n1 : ¬ σ.has a := fun q => n (hE a q)
    have e1 := x.ext a o n1 e
    refine y.ext a o (fun q => ?_) e1
    rcases x.fresh a q with q | q
    · exact n1 q
    · rw [e] at q; cases q
  fresh a h := by
    rcases y.fresh a h with h | h
    · exact x.fresh a h
    · by_cases q : σ.has a
      · exact .inl q
      · refine .inr ?_
        cases e : s.heap.get? a with
        | none => rfl
        | some o => rw [x.ext a o q e] at h; cases h

theorem Step.rep {C : Cx} {X E : Addr → Prop} {σ σ' : Store} {s s' : Shared} (x : Step E σ s σ' s') (hE : ∀ a, E a → C.rx X σ a) {d : D} {v : Value} (r : Rep s.heap (C.rx X σ) d v) : Rep s'.heap (C.rx X σ') d v := by
  refine Rep.move (fun a o n e => ⟨fun q => ?_, x.ext a o (fun q => n (hE a q)) e⟩) d v r
  rcases q with q | q | q
  · rcases x.fresh a q with q | q
    · exact n (.inl q)
    · rw [e] at q; cases q
  · exact n (.inr (.inl q))
  · exact n (.inr (.inr q))
theorem Step.reps {C : Cx} {X E : Addr → Prop} {σ σ' : Store} {s s' : Shared} (x : Step E σ s σ' s') (hE : ∀ a, E a → C.rx X σ a) {ds : List D} {vs : List Value} (r : Reps s.heap (C.rx X σ) ds vs) : Reps s'.heap (C.rx X σ') ds vs := by
  refine Reps.move (fun a o n e => ⟨fun q => ?_, x.ext a o (fun q => n (hE a q)) e⟩) ds vs r
  rcases q with q | q | q
  · rcases x.fresh a q with q | q
    · exact n (.inl q)
    · rw [e] at q; cases q
  · exact n (.inr (.inl q))
  · exact n (.inr (.inr q))

theorem St.grow {b : Heap} {C : Cx} {X : Addr → Prop} {m : Str → Option Value} {Γ : Vars} {σ : Store} {s s' : Shared} (S : St b C X m Γ σ s)
    (hk : ∀ a o, s.heap.get? a = some o → s'.heap.get? a = some o) : St b C X m Γ σ s' where
  ns := S.ns.keeps hk
  keep a o e := hk a o (S.keep a o e)
  new := S.new
  vars x d e := by
    obtain ⟨v, hb, hr⟩ := S.vars x d e
    refine ⟨v, ?_, Rep.move (fun a o n e => ⟨n, hk a o e⟩) d v hr⟩
    rcases hb with hb | ⟨h1, c, h2, h3⟩
    · exact .inl hb
    · exact .inr ⟨h1, c, h2, h3.keeps hk⟩
  store := ⟨fun a ds e => by
    obtain ⟨xs, h1, h2⟩ := S.store.at' a ds e
    exact ⟨xs, h1.at fun o => hk a o, Reps.move (fun a o n e => ⟨n, hk a o e⟩) ds _ h2⟩, S.store.nodup⟩
  apart := S.apart
  apartX := S.apartX
  cells y c e := by obtain ⟨v, x⟩ := S.cells y c e; exact ⟨v, x.keeps hk⟩
  cellsApart := S.cellsApart
  live a h := by obtain ⟨o, e⟩ := S.live a h; exact ⟨o, hk a o e⟩

theorem St.tok {b : Heap} {C : Cx} {X : Addr → Prop} {m : Str → Option Value} {Γ : Vars} {σ : Store} {s : Shared} (S : St b C X m Γ σ s) (t : Nat) : St b C X m Γ σ { s with toks := t } :=
  S.grow fun _ _ e => e

noncomputable abbrev NoE : Value → Shared → Prop := fun _ _ => False

noncomputable def Post (b : Heap) (C : Cx) (X : Addr → Prop) (m : Str → Option Value) (Γ : Vars) (σ : Store) (s : Shared) (Q : D → Store → Prop) (v : Value) (s' : Shared) : Prop :=
  ∃ d σ', Q d σ' ∧ St b C X m Γ σ' s' ∧ Rep s'.heap (C.rx X σ') d v ∧ Step σ.has σ s σ' s'
noncomputable def PostL (b : Heap) (C : Cx) (X : Addr → Prop) (m : Str → Option Value) (Γ : Vars) (σ : Store) (s : Shared) (Q : List D → Store → Prop) (vs : List Value) (s' : Shared) : Prop :=
  ∃ ds σ', Q ds σ' ∧ St b C X m Γ σ' s' ∧ Reps s'.heap (C.rx X σ') ds vs ∧ Step σ.has σ s σ' s'
noncomputable def PostT (b : Heap) (C : Cx) (X : Addr → Prop) (m : Str → Option Value) (Γ : Vars) (σ : Store) (s : Shared) (Q : Bool → Store → Prop) (x : Bool) (s' : Shared) : Prop :=
  ∃ σ', Q x σ' ∧ St b C X m Γ σ' s' ∧ Step σ.has σ s σ' s'

section
variable (M : Model) (b : Heap)

noncomputable def WE (C : Cx) (e : PySem.Expr) (Γ : Vars) (σ : Store) (Q : D → Store → Prop) : Prop :=
  ∀ X s m, St b C X m Γ σ s → wpAny M C.A (eval e C.env) (Post b C X m Γ σ s Q) NoE s
noncomputable def WArgs (C : Cx) (es : List PySem.Expr) (pos : Pos) (Γ : Vars) (σ : Store) (Q : List D → Store → Prop) : Prop :=
  ∀ X s m, St b C X m Γ σ s → wpAny M C.A (spliced (backTo pos (starEach es C.env))) (PostL b C X m Γ σ s Q) NoE s
noncomputable def WT (C : Cx) (e : PySem.Expr) (Γ : Vars) (σ : Store) (Q : Bool → Store → Prop) : Prop :=
  ∀ X s m, St b C X m Γ σ s → wpAny M C.A (isTrue e C.env (eval e C.env)) (PostT b C X m Γ σ s Q) NoE s
noncomputable def W1 (C : Cx) (t : Value → Sem Value) (d : D) (Γ : Vars) (σ : Store) (Q : D → Store → Prop) : Prop :=
  ∀ X s m v, St b C X m Γ σ s → Rep s.heap (C.rx X σ) d v → wpAny M C.A (t v) (Post b C X m Γ σ s Q) NoE s
noncomputable def W2 (C : Cx) (t : Value → Value → Sem Value) (d e : D) (Γ : Vars) (σ : Store) (Q : D → Store → Prop) : Prop :=
  ∀ X s m v u, St b C X m Γ σ s → Rep s.heap (C.rx X σ) d v → Rep s.heap (C.rx X σ) e u → wpAny M C.A (t v u) (Post b C X m Γ σ s Q) NoE s
noncomputable def WV (C : Cx) (t : List Value → Sem Value) (ds : List D) (Γ : Vars) (σ : Store) (Q : D → Store → Prop) : Prop :=
  ∀ X s m vs, St b C X m Γ σ s → Reps s.heap (C.rx X σ) ds vs → wpAny M C.A (t vs) (Post b C X m Γ σ s Q) NoE s
noncomputable def WB (C : Cx) (d : D) (Γ : Vars) (σ : Store) (Q : Bool → Store → Prop) : Prop :=
  ∀ X s m v, St b C X m Γ σ s → Rep s.heap (C.rx X σ) d v → wpAny M C.A (truthy v) (PostT b C X m Γ σ s Q) NoE s
end

theorem Post.then {b : Heap} {C : Cx} {X : Addr → Prop} {m : Str → Option Value} {Γ : Vars} {σ σ' : Store} {s s' : Shared} {Q : D → Store → Prop} (x : Step σ.has σ s σ' s') {v : Value} {s'' : Shared} (p : Post b C X m Γ σ' s' Q v s'') : Post b C X m Γ σ s Q v s'' := by
  obtain ⟨d, σ'', q, S, r, y⟩ := p
  exact ⟨d, σ'', q, S, r, x.trans y fun _ h => h⟩
theorem PostT.then {b : Heap} {C : Cx} {X : Addr → Prop} {m : Str → Option Value} {Γ : Vars} {σ σ' : Store} {s s' : Shared} {Q : Bool → Store → Prop} (x : Step σ.has σ s σ' s') {v : Bool} {s'' : Shared} (p : PostT b C X m Γ σ' s' Q v s'') : PostT b C X m Γ σ s Q v s'' := by
  obtain ⟨σ'', q, S, y⟩ := p
  exact ⟨σ'', q, S, x.trans y fun _ h => h⟩

theorem has_rx {C : Cx} {X : Addr → Prop} {σ : Store} : ∀ a, σ.has a → C.rx X σ a := fun _ h => .inl h

section
variable {M : Model} {b : Heap} {C : Cx} {Γ : Vars} {σ : Store} {Q : D → Store → Prop} {X : Addr → Prop}

theorem Post.now {m : Str → Option Value} {s s' : Shared} (S : St b C X m Γ σ s) (hk : ∃ h' tk, s' = { s with heap := h', toks := tk } ∧ ∀ a o, s.heap.get? a = some o → h'.get? a = some o) {d : D} {v : Value} (q : Q d σ) (r : Rep s'.heap (C.rx X σ) d v) : Post b C X m Γ σ s Q v s' := by
  obtain ⟨h', tk, rfl, hk⟩ := hk
  exact ⟨d, σ, q, S.grow hk, r, ⟨⟨h', tk, rfl⟩, fun a o _ e => hk a o e, fun _ h => .inl h⟩⟩
theorem Post.same {m : Str → Option Value} {s : Shared} (S : St b C X m Γ σ s) {d : D} {v : Value} (q : Q d σ) (r : Rep s.heap (C.rx X σ) d v) : Post b C X m Γ σ s Q v s := ⟨d, σ, q, S, r, Step.refl _ _ _⟩
theorem Post.tok {m : Str → Option Value} {s : Shared} {t : Nat} (S : St b C X m Γ σ s) {d : D} {v : Value} (q : Q d σ) (r : Rep s.heap (C.rx X σ) d v) : Post b C X m Γ σ s Q v { s with toks := t } := ⟨d, σ, q, S.tok t, r, Step.tok t⟩
theorem PostT.same {Q : Bool → Store → Prop} {m : Str → Option Value} {s : Shared} (S : St b C X m Γ σ s) {x : Bool} (q : Q x σ) : PostT b C X m Γ σ s Q x s := ⟨σ, q, S, Step.refl _ _ _⟩

theorem WE.int {i : Int} {k : Nat} {pos : Pos} (h : Q (.int i) σ) : WE M b C (.Constant (.int i) k pos) Γ σ Q := fun _ _ _ S => wpAny_Constant_int (Post.tok S h ⟨_, rfl⟩)
theorem WE.str {x : Str} {k : Nat} {pos : Pos} (h : Q (.str x) σ) : WE M b C (.Constant (.str x) k pos) Γ σ Q := fun _ _ _ S => Calls.Constant_str (Post.tok S h ⟨_, rfl⟩)
theorem WE.bool {x : Bool} {k : Nat} {pos : Pos} (h : Q (.bool x) σ) : WE M b C (.Constant (.bool x) k pos) Γ σ Q := fun _ _ _ S => wpAny_Constant_bool (Post.same S h rfl)
theorem WE.none {k : Nat} {pos : Pos} (h : Q .none σ) : WE M b C (.Constant .none k pos) Γ σ Q := fun _ _ _ S => wpAny_Constant_none (Post.same S h rfl)

theorem wp_bound {A : Around} {E : Value → Shared → Prop} {s : Shared} {env : Env} {m : Str → Option Value} {x : Str} {v : Value} {Q : Value → Shared → Prop} (hk : env.scope.kind = .function) (hn : s.heap.Ns env.locals m) (hb : Bound env s.heap m x v)
    (h : Q v s) (hn' : (x == ("__classdict__" : Str)) = false) : wpAny M A (loadName env x) Q E s := by
  rcases hb with ⟨h1, h2⟩ | ⟨h1 | h1, c, h2, h3⟩
  · exact wpAny_loadName_local hk h1 hn h2 h
  · exact wpAny_loadName_cell hk h1 h2 h3 h
  · exact wpAny_loadName_free hk h1 h2 h3 h hn'

theorem WE.var {x : Str} {pos : Pos} {d : D} (ok : C.Ok) (hv : Γ.lookup x = some d) (h : Q d σ) (hd : (x == ("__debug__" : Str)) = false := by decide) (hn : (x == ("__classdict__" : Str)) = false := by decide) : WE M b C (.Name x pos) Γ σ Q := fun _ _ _ S => by
  obtain ⟨v, hb, hr⟩ := S.vars x d hv
  exact wpAny_Name (wp_bound ok.kind S.ns hb (Post.same S h hr) hn) hd

theorem WE.glob {K : Frag} {x : Str} {pos : Pos} {v : Value} {d : D} (ok : C.Ok) (B : Base K b) (hx : C.env.kindOf x = some .globalImplicit) (e : nsIn K mainGlobals x = some (some v)) (hd : ∀ h N, Rep h N d v) (h : Q d σ)
    (hb : (x == ("__debug__" : Str)) = false := by decide) : WE M b C (.Name x pos) Γ σ Q := fun X s m S => by
  obtain ⟨p, loose, mg, mb, T⟩ := B.top
  refine Calls.Name_function_global ok.kind hx (Calls.loadGlobal_global (ok.glob ▸ T.g.keeps S.keep) (mg_of B.K T.g e) (Post.same S h (hd _ _))) hb
theorem WE.blt {K : Frag} {x : Str} {pos : Pos} {v : Value} (ok : C.Ok) (B : Base K b) (hx : C.env.kindOf x = some .globalImplicit) (e : nsIn K mainGlobals x = some Option.none) (hv : bootBuiltins x = some v) (h : Q (.raw v) σ)
    (hn : x ≠ "__name__" := by decide) (hb : (x == ("__debug__" : Str)) = false := by decide) : WE M b C (.Name x pos) Γ σ Q := fun X s m S => by
  obtain ⟨p, loose, mg, mb, T⟩ := B.top
  exact Calls.Name_function_global ok.kind hx (Calls.loadGlobal_builtin (ok.glob ▸ T.g.keeps S.keep) (mg_none_of B.K T.g e) (ok.blt ▸ T.b.keeps S.keep) ((T.builtins x hn).trans hv) (Post.same S h rfl)) hb

theorem WE.use2 {l r : PySem.Expr} {t : Value → Value → Sem Value} {Q' : D → Store → Prop} {X : Addr → Prop} {s : Shared} {m : Str → Option Value} (S : St b C X m Γ σ s)
    (h : WE M b C l Γ σ fun d σ1 => WE M b C r Γ σ1 fun e σ2 => W2 M b C t d e Γ σ2 Q') :
    wpAny M C.A (eval l C.env) (fun a s₁ => wpAny M C.A (eval r C.env) (fun b' s₂ => wpAny M C.A (t a b') (Post b C X m Γ σ s Q') NoE s₂) NoE s₁) NoE s := by
  refine wpAny_mono (h X s m S) (fun a s₁ p₁ => ?_) fun _ _ x => x
  obtain ⟨d, σ1, h1, S1, r1, x1⟩ := p₁
  refine wpAny_mono (h1 X s₁ m S1) (fun b' s₂ p₂ => ?_) fun _ _ x => x
  obtain ⟨e, σ2, h2, S2, r2, x2⟩ := p₂
  exact wpAny_mono (h2 X s₂ m a b' S2 (x2.rep has_rx r1) r2) (fun v s₃ p₃ => Post.then (x1.trans x2 fun _ h => h) p₃) fun _ _ x => x

theorem WE.binop {l r : PySem.Expr} {op : Operator} {pos : Pos} (h : WE M b C l Γ σ fun d σ1 => WE M b C r Γ σ1 fun e σ2 => W2 M b C (binaryOp op) d e Γ σ2 Q) : WE M b C (.BinOp l op r pos) Γ σ Q :=
  fun _ _ _ S => wpAny_BinOp (WE.use2 S h)
theorem WE.cmp {l r : PySem.Expr} {op : CmpOp} {pos : Pos} (h : WE M b C l Γ σ fun d σ1 => WE M b C r Γ σ1 fun e σ2 => W2 M b C (compareOp op) d e Γ σ2 Q) (hm : behindInMarks op r = false := by with_unfolding_all rfl) : WE M b C (.Compare l [op] [r] pos) Γ σ Q :=
  fun _ _ _ S => wpAny_Compare1 (WE.use2 S h) hm
end
end Mine
namespace Mine

theorem rx_new {b : Heap} {C : Cx} {X : Addr → Prop} {m : Str → Option Value} {Γ : Vars} {σ : Store} {s : Shared} (S : St b C X m Γ σ s) : ¬ C.rx X σ s.heap.objs.size := fun h => by
  obtain ⟨o, e⟩ := S.live _ h
  exact Nat.lt_irrefl _ (Heap.lt_size e)

section
variable {b : Heap} {C : Cx} {X : Addr → Prop} {m : Str → Option Value} {Γ : Vars} {σ : Store} {s : Shared} {Q : D → Store → Prop}

theorem Post.push (S : St b C X m Γ σ s) (o : Obj) {d : D} {v : Value} (q : Q d σ) (r : Rep (s.heap.push o) (C.rx X σ) d v) (t : Nat) : Post b C X m Γ σ s Q v { s with heap := s.heap.push o, toks := t } :=
  Post.now S ⟨_, t, rfl, fun _ _ e => Heap.get?_push_of_some _ e⟩ q r

theorem reps_push {N : Addr → Prop} {h : Heap} (o : Obj) {ds : List D} {vs : List Value} (r : Reps h N ds vs) : Reps (h.push o) N ds vs :=
  Reps.move (fun _ _ n e => ⟨n, Heap.get?_push_of_some _ e⟩) ds vs r
theorem Post.newList (S : St b C X m Γ σ s) {ds : List D} {xs : Array Value} (r : Reps s.heap (C.rx X σ) ds xs.toList) (q : Q (.list ds) σ) {n : Nat} (t : Nat) :
    Post b C X m Γ σ s Q (.ref s.heap.objs.size) { s with heap := s.heap.push { cls := .type "list", data := .seq xs n }, toks := t } :=
  Post.push S _ q ⟨_, xs, rfl, rx_new S, ⟨n, Heap.get?_push_size _ rfl⟩, reps_push _ r⟩ t
theorem Post.newTup (S : St b C X m Γ σ s) {ds : List D} {xs : Array Value} (r : Reps s.heap (C.rx X σ) ds xs.toList) (q : Q (.tup ds) σ) {n : Nat} (t : Nat) :
    Post b C X m Γ σ s Q (.ref s.heap.objs.size) { s with heap := s.heap.push { cls := .type "tuple", data := .seq xs n }, toks := t } :=
  Post.push S _ q ⟨_, xs, rfl, rx_new S, ⟨n, Heap.get?_push_size _ rfl⟩, reps_push _ r⟩ t
end

section
variable {prog : Program} {w : World} {b : Heap} {C : Cx} {Γ : Vars} {σ : Store} {Q : D → Store → Prop}

theorem W2.add {x y : Int} (h : Q (.int (x + y)) σ) : W2 (model prog w) b C (binaryOp .Add) (.int x) (.int y) Γ σ Q := by
  rintro X s m _ _ S ⟨t, rfl⟩ ⟨u, rfl⟩; exact PyProof.Rows.add_int (Post.tok S h ⟨_, rfl⟩)
theorem W2.sub {x y : Int} (h : Q (.int (x - y)) σ) : W2 (model prog w) b C (binaryOp .Sub) (.int x) (.int y) Γ σ Q := by
  rintro X s m _ _ S ⟨t, rfl⟩ ⟨u, rfl⟩; exact PyProof.Rows.sub_int (Post.tok S h ⟨_, rfl⟩)
theorem W2.mul {x y : Int} (hm : IntMulOk x y) (h : Q (.int (x * y)) σ) : W2 (model prog w) b C (binaryOp .Mult) (.int x) (.int y) Γ σ Q := by
  rintro X s m _ _ S ⟨t, rfl⟩ ⟨u, rfl⟩; exact PyProof.Rows.mul_int (Post.tok S h ⟨_, rfl⟩) hm
theorem W2.fdiv {x y : Int} (h0 : y ≠ 0) (hp : Builtin.divisionGoesByPylong x y = false) (h : Q (.int (x.fdiv y)) σ) : W2 (model prog w) b C (binaryOp .FloorDiv) (.int x) (.int y) Γ σ Q := by
  rintro X s m _ _ S ⟨t, rfl⟩ ⟨u, rfl⟩; exact PyProof.Rows.floordiv_int h0 (Post.tok S h ⟨_, rfl⟩) (.inl hp)
theorem W2.fmod {x y : Int} (h0 : y ≠ 0) (h : Q (.int (x.fmod y)) σ) : W2 (model prog w) b C (binaryOp .Mod) (.int x) (.int y) Γ σ Q := by
  rintro X s m _ _ S ⟨t, rfl⟩ ⟨u, rfl⟩; exact PyProof.Rows.mod_int' h0 (Post.tok S h ⟨_, rfl⟩)
theorem W2.pow {x y : Int} (h0 : 0 ≤ y) (hs : (Builtin.Int.intBits x : Int) * y ≤ 2 ^ 27) (h : Q (.int (x ^ y.toNat)) σ) : W2 (model prog w) b C (binaryOp .Pow) (.int x) (.int y) Γ σ Q := by
  rintro X s m _ _ S ⟨t, rfl⟩ ⟨u, rfl⟩; exact PyProof.Rows.pow_int h0 hs (Post.tok S h ⟨_, rfl⟩)
theorem W2.shl {x y : Int} (h0 : 0 ≤ y) (hs : (Builtin.Int.intBits x : Int) + y ≤ 2 ^ 27) (h : Q (.int (x * 2 ^ y.toNat)) σ) : W2 (model prog w) b C (binaryOp .LShift) (.int x) (.int y) Γ σ Q := by
  rintro X s m _ _ S ⟨t, rfl⟩ ⟨u, rfl⟩; exact PyProof.Rows.lshift_int h0 hs (Post.tok S h ⟨_, rfl⟩)
theorem W2.shr {x y : Int} (h0 : 0 ≤ y) (h : Q (.int (x.fdiv (2 ^ y.toNat))) σ) : W2 (model prog w) b C (binaryOp .RShift) (.int x) (.int y) Γ σ Q := by
  rintro X s m _ _ S ⟨t, rfl⟩ ⟨u, rfl⟩; exact PyProof.Rows.rshift_int h0 (Post.tok S h ⟨_, rfl⟩)
theorem W2.band {x y : Int} (h : Q (.int (Builtin.bitAnd x y)) σ) : W2 (model prog w) b C (binaryOp .BitAnd) (.int x) (.int y) Γ σ Q := by
  rintro X s m _ _ S ⟨t, rfl⟩ ⟨u, rfl⟩; exact PyProof.Rows.and_int (Post.tok S h ⟨_, rfl⟩)
theorem W2.bor {x y : Int} (h : Q (.int (Builtin.bitOr x y)) σ) : W2 (model prog w) b C (binaryOp .BitOr) (.int x) (.int y) Γ σ Q := by
  rintro X s m _ _ S ⟨t, rfl⟩ ⟨u, rfl⟩; exact PyProof.Rows.or_int (Post.tok S h ⟨_, rfl⟩)
theorem W2.iadd {x y : Int} (h : Q (.int (x + y)) σ) : W2 (model prog w) b C (inplaceOp .Add) (.int x) (.int y) Γ σ Q := by
  rintro X s m _ _ S ⟨t, rfl⟩ ⟨u, rfl⟩; exact wpAny_iadd_int (Post.tok S h ⟨_, rfl⟩)
theorem W2.isub {x y : Int} (h : Q (.int (x - y)) σ) : W2 (model prog w) b C (inplaceOp .Sub) (.int x) (.int y) Γ σ Q := by
  rintro X s m _ _ S ⟨t, rfl⟩ ⟨u, rfl⟩; exact PyProof.Rows.isub_int (Post.tok S h ⟨_, rfl⟩)
theorem W2.ishr {x y : Int} (h0 : 0 ≤ y) (h : Q (.int (x.fdiv (2 ^ y.toNat))) σ) : W2 (model prog w) b C (inplaceOp .RShift) (.int x) (.int y) Γ σ Q := by
  rintro X s m _ _ S ⟨t, rfl⟩ ⟨u, rfl⟩; exact PyProof.Rows.irshift_int h0 (Post.tok S h ⟨_, rfl⟩)
theorem W2.lt {x y : Int} (h : Q (.bool (decide (x < y))) σ) : W2 (model prog w) b C (compareOp .Lt) (.int x) (.int y) Γ σ Q := by
  rintro X s m _ _ S ⟨t, rfl⟩ ⟨u, rfl⟩; exact PyProof.Rows.lt_int (Post.same S h rfl)
theorem W2.gt {x y : Int} (h : Q (.bool (decide (y < x))) σ) : W2 (model prog w) b C (compareOp .Gt) (.int x) (.int y) Γ σ Q := by
  rintro X s m _ _ S ⟨t, rfl⟩ ⟨u, rfl⟩; exact PyProof.Rows.gt_int (Post.same S h rfl)
theorem W2.le {x y : Int} (h : Q (.bool (decide (x ≤ y))) σ) : W2 (model prog w) b C (compareOp .LtE) (.int x) (.int y) Γ σ Q := by
  rintro X s m _ _ S ⟨t, rfl⟩ ⟨u, rfl⟩; exact PyProof.Rows.le_int (Post.same S h rfl)
theorem W2.ge {x y : Int} (h : Q (.bool (decide (y ≤ x))) σ) : W2 (model prog w) b C (compareOp .GtE) (.int x) (.int y) Γ σ Q := by
  rintro X s m _ _ S ⟨t, rfl⟩ ⟨u, rfl⟩; exact PyProof.Rows.ge_int (Post.same S h rfl)
theorem W2.eqi {x y : Int} (h : Q (.bool (decide (x = y))) σ) : W2 (model prog w) b C (compareOp .Eq) (.int x) (.int y) Γ σ Q := by
  rintro X s m _ _ S ⟨t, rfl⟩ ⟨u, rfl⟩; exact PyProof.Rows.eq_int (Post.same S h (by show Value.bool (x == y) = _; by_cases e : x = y <;> simp [e]))
theorem W2.nei {x y : Int} (h : Q (.bool (decide (x ≠ y))) σ) : W2 (model prog w) b C (compareOp .NotEq) (.int x) (.int y) Γ σ Q := by
  rintro X s m _ _ S ⟨t, rfl⟩ ⟨u, rfl⟩; exact PyProof.Rows.ne_int (Post.same S h (by show Value.bool (x != y) = _; by_cases e : x = y <;> simp [e]))
theorem W2.eqs {x y : Str} (h : Q (.bool (decide (x = y))) σ) : W2 (model prog w) b C (compareOp .Eq) (.str x) (.str y) Γ σ Q := by
  rintro X s m _ _ S ⟨t, rfl⟩ ⟨u, rfl⟩; exact PyProof.Rows.eq_str (Post.same S h (by show Value.bool (x == y) = _; by_cases e : x = y <;> simp [e]))
theorem W2.nes {x y : Str} (h : Q (.bool (decide (x ≠ y))) σ) : W2 (model prog w) b C (compareOp .NotEq) (.str x) (.str y) Γ σ Q := by
  rintro X s m _ _ S ⟨t, rfl⟩ ⟨u, rfl⟩; exact PyProof.Rows.ne_str (Post.same S h (by show Value.bool (x != y) = _; by_cases e : x = y <;> simp [e]))

noncomputable def D.isNone : D → Bool
  | .none => true
  | .raw v => v == .none
  | _ => false
theorem Rep.isNone {h : Heap} {N : Addr → Prop} : ∀ {d : D} {v : Value}, Rep h N d v → (v == .none) = d.isNone
  | .none, _, x => by have x : _ = _ := x; subst x; rfl
  | .bool _, _, x => by have x : _ = _ := x; subst x; rfl
  | .int _, _, x => by obtain ⟨t, rfl⟩ := x; rfl
  | .str _, _, x => by obtain ⟨t, rfl⟩ := x; rfl
  | .raw _, _, x => by have x : _ = _ := x; subst x; rfl
  | .range _ _ _, _, x => by obtain ⟨r, t1, t2, t3, rfl, _⟩ := x; rfl
  | .inst _ _, _, x => by obtain ⟨r, t1, t2, t3, rfl, _⟩ := x; rfl
  | .slice _ _ _, _, x => by obtain ⟨r, t1, t2, t3, rfl, _⟩ := x; rfl
  | .list _, _, x => by obtain ⟨r, t1, rfl, _⟩ := x; rfl
  | .tup _, _, x => by obtain ⟨r, t1, rfl, _⟩ := x; rfl
theorem W2.isNone {d : D} (h : Q (.bool d.isNone) σ) : W2 (model prog w) b C (compareOp .Is) d .none Γ σ Q := by
  intro X s m v u S r e
  have e : u = .none := e
  subst e
  exact is_none (Post.same S h (by show Value.bool _ = _; rw [r.isNone]))
theorem W2.isNotNone {d : D} (h : Q (.bool (!d.isNone)) σ) : W2 (model prog w) b C (compareOp .IsNot) d .none Γ σ Q := by
  intro X s m v u S r e
  have e : u = .none := e
  subst e
  exact isNot_none (Post.same S h (by show Value.bool _ = _; rw [← r.isNone]; try rfl))

mutual
noncomputable def D.pd : D → Option PyData
  | .none => some .none
  | .bool x => some (.bool x)
  | .int x => some (.int x)
  | .str x => some (.str x)
  | .list l => (pds l).map .list
  | .tup l => (pds l).map .tuple
  | _ => Option.none
noncomputable def pds : List D → Option (List PyData)
  | [] => some []
  | d :: r => match d.pd, pds r with
    | some x, some y => some (x :: y)
    | _, _ => Option.none
end
mutual
theorem Rep.reads {h : Heap} {N : Addr → Prop} : ∀ (d : D) (v : Value) (p : PyData), Rep h N d v → d.pd = some p → ∃ as, Reads h v p as
  | .none, _, p, x, e => by have x : _ = _ := x; subst x; cases e; exact ⟨_, .none⟩
  | .bool _, _, p, x, e => by have x : _ = _ := x; subst x; cases e; exact ⟨_, .bool _⟩
  | .int _, _, p, x, e => by obtain ⟨t, rfl⟩ := x; cases e; exact ⟨_, .int _ _⟩
  | .str _, _, p, x, e => by obtain ⟨t, rfl⟩ := x; cases e; exact ⟨_, .str _ _⟩
  | .raw _, _, p, x, e => by cases e
  | .range _ _ _, _, p, x, e => by cases e
  | .inst _ _, _, p, x, e => by cases e
  | .slice _ _ _, _, p, x, e => by cases e
  | .list l, _, p, x, e => by
    obtain ⟨a, xs, rfl, _, ⟨n, ho⟩, hr⟩ := x
    replace e := Option.map_eq_some_iff.mp (show (pds l).map PyData.list = some p from e)
    obtain ⟨ps, e, rfl⟩ := e
    obtain ⟨as, ra⟩ := Reps.reads l _ ps hr e
    exact ⟨_, .list ho rfl rfl ra⟩
  | .tup l, _, p, x, e => by
    obtain ⟨a, xs, rfl, _, ⟨n, ho⟩, hr⟩ := x
    replace e := Option.map_eq_some_iff.mp (show (pds l).map PyData.tuple = some p from e)
    obtain ⟨ps, e, rfl⟩ := e
    obtain ⟨as, ra⟩ := Reps.reads l _ ps hr e
    exact ⟨_, .tuple ho rfl rfl ra⟩
theorem Reps.reads {h : Heap} {N : Addr → Prop} : ∀ (ds : List D) (vs : List Value) (ps : List PyData), Reps h N ds vs → pds ds = some ps → ∃ as, ReadsAll h vs ps as
  | [], _, ps, x, e => by have x : _ = _ := x; subst x; cases e; exact ⟨_, .nil⟩
  | d :: r, _, ps, x, e => by
    obtain ⟨v, rs, rfl, hv, hr⟩ := x
    simp only [pds] at e
    split at e
    · rename_i y z e1 e2
      cases e
      obtain ⟨as, ra⟩ := Rep.reads d _ y hv e1
      obtain ⟨bs, rb⟩ := Reps.reads r _ z hr e2
      exact ⟨_, .cons ra rb⟩
    · cases e
end
theorem W2.eqd {d e : D} {p q : PyData} (ok : C.Ok) (hp : d.pd = some p) (hq : e.pd = some q) (h1 : SeqAt.shaped p = true) (h2 : SeqAt.shaped q = true) (h : Q (.bool (p.eqv q)) σ) : W2 (model prog w) b C (compareOp .Eq) d e Γ σ Q := by
  intro X s m v u S r1 r2
  obtain ⟨as, ra⟩ := Rep.reads d v p r1 hp
  obtain ⟨bs, rb⟩ := Rep.reads e u q r2 hq
  exact eq_dataH ra rb h1 h2 (by have := ok.units; omega) (Post.same S h rfl)
theorem W2.ned {d e : D} {p q : PyData} (ok : C.Ok) (hp : d.pd = some p) (hq : e.pd = some q) (h1 : SeqAt.shaped p = true) (h2 : SeqAt.shaped q = true) (h : Q (.bool (!p.eqv q)) σ) : W2 (model prog w) b C (compareOp .NotEq) d e Γ σ Q := by
  intro X s m v u S r1 r2
  obtain ⟨as, ra⟩ := Rep.reads d v p r1 hp
  obtain ⟨bs, rb⟩ := Rep.reads e u q r2 hq
  exact ne_dataH ra rb h1 h2 (by have := ok.units; omega) (Post.same S h rfl)

theorem W2.addList {l r : List D} (hz : l.length + r.length ≤ sizeLine) (h : Q (.list (l ++ r)) σ) : W2 (model prog w) b C (binaryOp .Add) (.list l) (.list r) Γ σ Q := by
  rintro X s m _ _ S ⟨a, xs, rfl, na, ⟨n, ho⟩, ra⟩ ⟨a', ys, rfl, na', ⟨n2, ho2⟩, ra'⟩
  have e1 := ra.length; have e2 := ra'.length
  rw [Array.length_toList] at e1 e2
  refine concat_meets ⟨_, ho, rfl⟩ ⟨_, ho2, rfl⟩ noFill_list_add seq_list_add PySem.F.slot_list_add PySem.F.entry_list_add (PySem.F.args_list_add_2 _ _) (list_addW a a' xs ys n n2 none none #[] #[] (by omega)) ⟨ho, ho2, ?_⟩
  exact Post.newList S (xs := xs ++ ys) (by rw [Array.toList_append]; exact ra.append ra') h _
theorem W2.addTup {l r : List D} (hz : l.length + r.length ≤ sizeLine) (h : Q (.tup (l ++ r)) σ) : W2 (model prog w) b C (binaryOp .Add) (.tup l) (.tup r) Γ σ Q := by
  rintro X s m _ _ S ⟨a, xs, rfl, na, ⟨n, ho⟩, ra⟩ ⟨a', ys, rfl, na', ⟨n2, ho2⟩, ra'⟩
  have e1 := ra.length; have e2 := ra'.length
  rw [Array.length_toList] at e1 e2
  by_cases hv : xs.isEmpty = true
  · have hl : l = [] := by rw [← List.length_eq_zero_iff]; have := Array.isEmpty_iff_size_eq_zero.mp hv; (clear hz e2; omega)
    subst hl
    exact concat_meets ⟨_, ho, rfl⟩ ⟨_, ho2, rfl⟩ noFill_tuple_add seq_tuple_add PySem.F.slot_tuple_add PySem.F.entry_tuple_add (PySem.F.args_tuple_add_2 _ _)
      (tuple_addW0 a a' xs ys n n2 none none #[] #[] hv) ⟨ho, ho2, Post.same S h ⟨a', ys, rfl, na', ⟨n2, ho2⟩, ra'⟩⟩
  · by_cases hw : ys.isEmpty = true
    · have hl : r = [] := by rw [← List.length_eq_zero_iff]; have := Array.isEmpty_iff_size_eq_zero.mp hw; (clear hz e1; omega)
      subst hl
      rw [List.append_nil] at h
      exact concat_meets ⟨_, ho, rfl⟩ ⟨_, ho2, rfl⟩ noFill_tuple_add seq_tuple_add PySem.F.slot_tuple_add PySem.F.entry_tuple_add (PySem.F.args_tuple_add_2 _ _)
        (tuple_addW1 a a' xs ys n n2 none none #[] #[] (by simpa using hv) hw) ⟨ho, ho2, Post.same S h ⟨a, xs, rfl, na, ⟨n, ho⟩, ra⟩⟩
    · refine concat_meets ⟨_, ho, rfl⟩ ⟨_, ho2, rfl⟩ noFill_tuple_add seq_tuple_add PySem.F.slot_tuple_add PySem.F.entry_tuple_add (PySem.F.args_tuple_add_2 _ _)
        (tuple_addW2 a a' xs ys n n2 none none #[] #[] (by simpa using hv) (by simpa using hw) (by omega)) ⟨ho, ho2, ?_⟩
      exact Post.newTup S (xs := xs ++ ys) (by rw [Array.toList_append]; exact ra.append ra') h _

@[reducible] noncomputable def consK (d : D) (Q : List D → Store → Prop) : List D → Store → Prop := fun ds σ => Q (d :: ds) σ
@[reducible] noncomputable def argsK (M : Model) (b : Heap) (C : Cx) (rest : List PySem.Expr) (pos : Pos) (Γ : Vars) (Q : List D → Store → Prop) : D → Store → Prop := fun d σ => WArgs M b C rest pos Γ σ (consK d Q)
@[reducible] noncomputable def seqK (f : List D → D) (Q : D → Store → Prop) : List D → Store → Prop := fun ds σ => ds.length ≤ sizeLine ∧ Q (f ds) σ
theorem WArgs.nil {pos : Pos} {Q : List D → Store → Prop} (h : Q [] σ) : WArgs (model prog w) b C [] pos Γ σ Q := fun _ _ _ S => wpAny_items_nil ⟨[], σ, h, S, rfl, Step.refl _ _ _⟩
theorem WArgs.cons {e : PySem.Expr} {rest : List PySem.Expr} {pos : Pos} {Q : List D → Store → Prop} (h : WE (model prog w) b C e Γ σ (argsK (model prog w) b C rest pos Γ Q))
    (he : starEach (e :: rest) C.env = (false, eval e C.env) :: starEach rest C.env := by rfl) : WArgs (model prog w) b C (e :: rest) pos Γ σ Q := fun X s m S => by
  refine wpAny_items_cons (wpAny_mono (h X s m S) (fun v s₁ p₁ => ?_) fun _ _ x => x) he
  obtain ⟨d, σ1, h1, S1, r1, x1⟩ := p₁
  refine wpAny_mono (h1 X s₁ m S1) (fun vs s₂ p₂ => ?_) fun _ _ x => x
  obtain ⟨ds, σ2, h2, S2, r2, x2⟩ := p₂
  exact ⟨d :: ds, σ2, h2, S2, ⟨v, vs, rfl, x2.rep has_rx r1, r2⟩, x1.trans x2 fun _ h => h⟩
theorem WE.list {es : List PySem.Expr} {pos : Pos} (h : WArgs (model prog w) b C es pos Γ σ (seqK .list Q)) : WE (model prog w) b C (.List es pos) Γ σ Q := fun X s m S => by
  refine wpAny_List (wpAny_mono (h X s m S) (fun vs s₁ p => ?_) fun _ _ x => x)
  obtain ⟨ds, σ1, ⟨hz, h1⟩, S1, r1, x1⟩ := p
  exact ⟨by rw [r1.length]; exact hz, Post.then x1 (Post.newList S1 (xs := vs.toArray) r1 h1 _)⟩
theorem WE.tup {es : List PySem.Expr} {k : Nat} {pos : Pos} (h : WArgs (model prog w) b C es pos Γ σ (seqK .tup Q)) : WE (model prog w) b C (.Tuple es k pos) Γ σ Q := fun X s m S => by
  refine wpAny_Tuple (wpAny_mono (h X s m S) (fun vs s₁ p => ?_) fun _ _ x => x)
  obtain ⟨ds, σ1, ⟨hz, h1⟩, S1, r1, x1⟩ := p
  exact ⟨by rw [r1.length]; exact hz, Post.then x1 (Post.newTup S1 (xs := vs.toArray) r1 h1 _)⟩

theorem WE.sub {value slice : PySem.Expr} {pos : Pos} (h : WE (model prog w) b C value Γ σ fun d σ1 => WE (model prog w) b C slice Γ σ1 fun e σ2 => W2 (model prog w) b C (subscriptTail value slice) d e Γ σ2 Q) : WE (model prog w) b C (.Subscript value slice pos) Γ σ Q :=
  fun _ _ _ S => Subscript_ (WE.use2 S h)

theorem W2.item {value slice : PySem.Expr} {l : List D} {i : Int} {d : D} (h0 : 0 ≤ i) (h1 : i < 2 ^ 63) (hx : l[i.toNat]? = some d) (h : Q d σ)
    (hs : ∀ o j, subscripted slice false o j = operate [o, j] (getItem o j) := by intro _ _; rfl) : W2 (model prog w) b C (subscriptTail value slice) (.list l) (.int i) Γ σ Q := by
  rintro X s m _ _ S ⟨a, xs, rfl, na, hl, ra⟩ ⟨t, rfl⟩
  obtain ⟨v, hv, rv⟩ := ra.get hx
  exact tail_any hl.isList.typeIs slot_list_getitem.lookup (wpAny_getItem_list hl.isList h0 h1 (by simpa using hv) (Post.same S h rv)) (hs _ _)
theorem W2.itemT {value slice : PySem.Expr} {l : List D} {i : Int} {d : D} (h0 : 0 ≤ i) (h1 : i < 2 ^ 63) (hx : l[i.toNat]? = some d) (h : Q d σ)
    (hs : ∀ o j, subscripted slice false o j = operate [o, j] (getItem o j) := by intro _ _; rfl) : W2 (model prog w) b C (subscriptTail value slice) (.tup l) (.int i) Γ σ Q := by
  rintro X s m _ _ S ⟨a, xs, rfl, na, hl, ra⟩ ⟨t, rfl⟩
  obtain ⟨v, hv, rv⟩ := ra.get hx
  rw [Array.getElem?_toList] at hv
  have hj : seqIndex? i xs.size = some i.toNat := by
    unfold seqIndex?
    rw [if_neg (Int.not_lt.mpr h0), if_pos]
    exact Bool.and_eq_true_iff.mpr ⟨decide_eq_true h0, decide_eq_true ((Int.toNat_lt h0).mp (Array.getElem?_eq_some_iff.mp hv).1)⟩
  exact tail_any hl.isTup.typeIs slot_tuple_getitem.lookup (getItem_tuple hl.isTup (Int.le_trans (by decide) h0) h1 hj hv (Post.same S h rv)) (hs _ _)
theorem last_ix (n : Nat) : ((-1 : Int) + (n : Int)).toNat = n - 1 := by
  cases n with
  | zero => rfl
  | succ n => rw [show (-1 : Int) + ((n + 1 : Nat) : Int) = n from (Int.add_comm ..).trans (Int.add_sub_cancel n 1)]; rfl
theorem last_any {A : Around} {a : Addr} {xs : Array Value} {l : List D} {d : D} {N : Addr → Prop} {s : Shared} {t : Nat} {P : Value → Shared → Prop} {E : Value → Shared → Prop} (hl : s.heap.IsList a xs) (ra : Reps s.heap N l xs.toList)
    (hx : l.getLast? = some d) (k : ∀ v, Rep s.heap N d v → P v s) : wpAny (model prog w) A (getItem (.ref a) (.int (-1) t)) P E s := by
  rw [List.getLast?_eq_getElem?] at hx
  obtain ⟨v, hv, rv⟩ := ra.get hx
  rw [Array.getElem?_toList] at hv
  have e : xs.size = l.length := ra.length
  refine wpAny_getItem_list_neg hl (by decide) (Int.neg_le_neg (Int.ofNat_le.mpr (Nat.zero_lt_of_lt (Array.getElem?_eq_some_iff.mp hv).1))) (by decide) ?_ (k v rv)
  rw [last_ix, e]
  exact hv
theorem W2.last {value slice : PySem.Expr} {l : List D} {d : D} (hx : l.getLast? = some d) (h : Q d σ)
    (hs : ∀ o j, subscripted slice false o j = operate [o, j] (getItem o j) := by intro _ _; rfl) : W2 (model prog w) b C (subscriptTail value slice) (.list l) (.int (-1)) Γ σ Q := by
  rintro X s m _ _ S ⟨a, xs, rfl, na, hl, ra⟩ ⟨t, rfl⟩
  exact tail_any hl.isList.typeIs slot_list_getitem.lookup (last_any hl.isList ra hx fun v rv => Post.same S h rv) (hs _ _)
end
end Mine
namespace Mine

section
variable {prog : Program} {w : World} {b : Heap} {C : Cx} {Γ : Vars} {σ : Store} {Q : D → Store → Prop} {T : Bool → Store → Prop}

theorem WB.of {x : Bool} {X : Addr → Prop} {s : Shared} {m : Str → Option Value} {v : Value} (S : St b C X m Γ σ s) (r : Rep s.heap (C.rx X σ) (.bool x) v) {E : Value → Shared → Prop} {Q : Bool → Shared → Prop} (h : Q x s) : wpAny (model prog w) C.A (truthy v) Q E s := by
  have r : v = .bool x := r
  subst r; exact wpAny_truthy_bool h

theorem W1.not {x : Bool} (h : Q (.bool (!x)) σ) : W1 (model prog w) b C (unaryOp .Not) (.bool x) Γ σ Q := by
  intro X s m v S r
  have e : v = .bool x := r
  subst e
  exact not_of (wpAny_truthy_bool (Post.same S h rfl))
theorem W1.neg {x : Int} (h : Q (.int (-x)) σ) : W1 (model prog w) b C (unaryOp .USub) (.int x) Γ σ Q := by
  rintro X s m v S ⟨t, rfl⟩
  exact PyProof.Rows.neg_int (Post.tok S h ⟨_, rfl⟩)
theorem WE.unary {op : UnaryOp} {x : PySem.Expr} {pos : Pos} (h : WE (model prog w) b C x Γ σ fun d σ1 => W1 (model prog w) b C (unaryOp op) d Γ σ1 Q) : WE (model prog w) b C (.UnaryOp op x pos) Γ σ Q := fun X s m S => by
  refine wpAny_UnaryOp (wpAny_mono (h X s m S) (fun v s₁ p => ?_) fun _ _ x => x)
  obtain ⟨d, σ1, h1, S1, r1, x1⟩ := p
  exact wpAny_mono (h1 X s₁ m v S1 r1) (fun _ _ p => Post.then x1 p) fun _ _ x => x

theorem boolOp_cons (pos : Pos) (op : BoolOp) (x y : Sem Value) (r : List (Sem Value)) : boolOp pos op (x :: y :: r) = (do
    let v ← x
    standAt pos
    let t ← holding [v] (truthy v)
    match op, t with
    | .And, false | .Or, true => pure v
    | _, _ => boolOp pos op (y :: r)) := rfl
theorem WE.or {x y : PySem.Expr} {r : List PySem.Expr} {pos : Pos} (h : WE (model prog w) b C x Γ σ fun d σ1 => ∃ t, d = .bool t ∧ (t = true → Q (.bool true) σ1) ∧ (t = false → WE (model prog w) b C (.BoolOp .Or (y :: r) pos) Γ σ1 Q)) : WE (model prog w) b C (.BoolOp .Or (x :: y :: r) pos) Γ σ Q := fun X s m S => by
  show wpAny (model prog w) C.A (boolOp pos .Or (eval x C.env :: eval y C.env :: evalEach r C.env)) _ _ s
  rw [boolOp_cons]
  refine wpAny_bind (wpAny_mono (h X s m S) (fun v s₁ p => ?_) fun _ _ x => x)
  obtain ⟨d, σ1, ⟨t, rfl, h1, h2⟩, S1, r1, x1⟩ := p
  refine wpAny_bind (wpAny_standAt (wpAny_bind (wpAny_holding (WB.of S1 r1 ?_))))
  cases t with
  | true => exact wpAny_pure ⟨_, σ1, h1 rfl, S1, r1, x1⟩
  | false => exact wpAny_mono (h2 rfl X s₁ m S1) (fun _ _ p => Post.then x1 p) fun _ _ x => x
theorem WE.and {x y : PySem.Expr} {r : List PySem.Expr} {pos : Pos} (h : WE (model prog w) b C x Γ σ fun d σ1 => ∃ t, d = .bool t ∧ (t = false → Q (.bool false) σ1) ∧ (t = true → WE (model prog w) b C (.BoolOp .And (y :: r) pos) Γ σ1 Q)) : WE (model prog w) b C (.BoolOp .And (x :: y :: r) pos) Γ σ Q := fun X s m S => by
  show wpAny (model prog w) C.A (boolOp pos .And (eval x C.env :: eval y C.env :: evalEach r C.env)) _ _ s
  rw [boolOp_cons]
  refine wpAny_bind (wpAny_mono (h X s m S) (fun v s₁ p => ?_) fun _ _ x => x)
  obtain ⟨d, σ1, ⟨t, rfl, h1, h2⟩, S1, r1, x1⟩ := p
  refine wpAny_bind (wpAny_standAt (wpAny_bind (wpAny_holding (WB.of S1 r1 ?_))))
  cases t with
  | false => exact wpAny_pure ⟨_, σ1, h1 rfl, S1, r1, x1⟩
  | true => exact wpAny_mono (h2 rfl X s₁ m S1) (fun _ _ p => Post.then x1 p) fun _ _ x => x
theorem WE.bool1 {x : PySem.Expr} {op : BoolOp} {pos : Pos} (h : WE (model prog w) b C x Γ σ Q) : WE (model prog w) b C (.BoolOp op [x] pos) Γ σ Q := fun X s m S => by
  show wpAny (model prog w) C.A (boolOp pos op [eval x C.env]) _ _ s
  exact h X s m S

@[reducible] noncomputable def ifK (M : Model) (b : Heap) (C : Cx) (x y : PySem.Expr) (Γ : Vars) (Q : D → Store → Prop) : Bool → Store → Prop := fun c σ => (c = true → WE M b C x Γ σ Q) ∧ (c = false → WE M b C y Γ σ Q)
theorem WE.ifexp {t x y : PySem.Expr} {pos : Pos} (h : WT (model prog w) b C t Γ σ (ifK (model prog w) b C x y Γ Q)) : WE (model prog w) b C (.IfExp t x y pos) Γ σ Q := fun X s m S => by
  refine wpAny_IfExp (wpAny_mono (h X s m S) (fun c s₁ p => ?_) fun _ _ x => x)
  obtain ⟨σ1, ⟨h1, h2⟩, S1, x1⟩ := p
  cases c with
  | true => exact wpAny_mono (h1 rfl X s₁ m S1) (fun _ _ p => Post.then x1 p) fun _ _ x => x
  | false => exact wpAny_mono (h2 rfl X s₁ m S1) (fun _ _ p => Post.then x1 p) fun _ _ x => x

theorem WE.chain {l r r' : PySem.Expr} {op op' : CmpOp} {pos : Pos} (h : WE (model prog w) b C l Γ σ fun d σ1 => WE (model prog w) b C r Γ σ1 fun e σ2 => W2 (model prog w) b C (compareOp op) d e Γ σ2 fun c σ3 => ∃ t, c = .bool t ∧ (t = false → Q (.bool false) σ3) ∧
      (t = true → WE (model prog w) b C r' Γ σ3 fun f σ4 => W2 (model prog w) b C (compareOp op') e f Γ σ4 Q))
    (hm : lastMarks [op, op'] [r, r'] = false := by with_unfolding_all rfl) : WE (model prog w) b C (.Compare l [op, op'] [r, r'] pos) Γ σ Q := fun X s m S => by
  refine Compare_chain (wpAny_mono (h X s m S) (fun v s₁ p => ?_) fun _ _ x => x) hm
  obtain ⟨d, σ1, h1, S1, r1, x1⟩ := p
  refine chain_link (wpAny_mono (h1 X s₁ m S1) (fun u s₂ p => ?_) fun _ _ x => x)
  obtain ⟨e, σ2, h2, S2, r2, x2⟩ := p
  refine wpAny_mono (h2 X s₂ m v u S2 (x2.rep has_rx r1) r2) (fun c s₃ p => ?_) fun _ _ x => x
  obtain ⟨_, σ3, ⟨t, rfl, h3, h4⟩, S3, r3, x3⟩ := p
  have x13 := (x1.trans x2 fun _ h => h).trans x3 fun _ h => h
  refine WB.of S3 r3 ?_
  cases t with
  | false => exact ⟨_, σ3, h3 rfl, S3, r3, x13⟩
  | true =>
    refine chain_last (wpAny_mono (h4 rfl X s₃ m S3) (fun f s₄ p => ?_) fun _ _ x => x)
    obtain ⟨f', σ4, h5, S4, r4, x4⟩ := p
    refine wpAny_mono (h5 X s₄ m u f S4 (x4.rep has_rx (x3.rep has_rx r2)) r4) (fun _ _ p => Post.then (x13.trans x4 fun _ h => h) p) fun _ _ x => x

@[reducible] noncomputable def boolK (T : Bool → Store → Prop) : D → Store → Prop := fun d σ => ∃ t, d = .bool t ∧ T t σ
@[reducible] noncomputable def notK (T : Bool → Store → Prop) : Bool → Store → Prop := fun t σ => T (!t) σ
@[reducible] noncomputable def orK (M : Model) (b : Heap) (C : Cx) (r : List PySem.Expr) (pos : Pos) (Γ : Vars) (T : Bool → Store → Prop) : Bool → Store → Prop := fun t σ => (t = true → T true σ) ∧ (t = false → WT M b C (.BoolOp .Or r pos) Γ σ T)
@[reducible] noncomputable def andK (M : Model) (b : Heap) (C : Cx) (r : List PySem.Expr) (pos : Pos) (Γ : Vars) (T : Bool → Store → Prop) : Bool → Store → Prop := fun t σ => (t = false → T false σ) ∧ (t = true → WT M b C (.BoolOp .And r pos) Γ σ T)
theorem WT.val {e : PySem.Expr} (h : WE (model prog w) b C e Γ σ (boolK T))
    (he : ∀ whole, isTrue e C.env whole = (do let v ← whole; standAt e.pos; holding [v] (truthy v)) := by intro _; rfl) : WT (model prog w) b C e Γ σ T := fun X s m S => by
  refine wpAny_isTrue_value (wpAny_mono (h X s m S) (fun v s₁ p => ?_) fun _ _ x => x) (he _)
  obtain ⟨_, σ1, ⟨t, rfl, h1⟩, S1, r1, x1⟩ := p
  exact WB.of S1 r1 ⟨σ1, h1, S1, x1⟩
theorem WT.not {x : PySem.Expr} {pos : Pos} (h : WT (model prog w) b C x Γ σ (notK T)) : WT (model prog w) b C (.UnaryOp .Not x pos) Γ σ T := fun X s m S =>
  wpAny_isTrue_Not (wpAny_mono (h X s m S) (fun c s₁ p => p) fun _ _ x => x)
theorem WT.or_nil {pos : Pos} (h : T false σ) : WT (model prog w) b C (.BoolOp .Or [] pos) Γ σ T := fun X s m S => wpAny_isTrue_BoolOp (wpAny_allTrue_Or_nil (PostT.same S h))
theorem WT.and_nil {pos : Pos} (h : T true σ) : WT (model prog w) b C (.BoolOp .And [] pos) Γ σ T := fun X s m S => wpAny_isTrue_BoolOp (wpAny_allTrue_And_nil (PostT.same S h))
theorem WT.or {x : PySem.Expr} {r : List PySem.Expr} {pos : Pos} (h : WT (model prog w) b C x Γ σ (orK (model prog w) b C r pos Γ T)) : WT (model prog w) b C (.BoolOp .Or (x :: r) pos) Γ σ T := fun X s m S => by
  refine wpAny_isTrue_BoolOp (wpAny_allTrue_Or_cons (wpAny_mono (h X s m S) (fun t s₁ p => ?_) fun _ _ x => x))
  obtain ⟨σ1, ⟨h1, h2⟩, S1, x1⟩ := p
  cases t with
  | true => exact ⟨σ1, h1 rfl, S1, x1⟩
  | false => exact wpAny_mono (h2 rfl X s₁ m S1) (fun _ _ p => PostT.then x1 p) fun _ _ x => x
theorem WT.and {x : PySem.Expr} {r : List PySem.Expr} {pos : Pos} (h : WT (model prog w) b C x Γ σ (andK (model prog w) b C r pos Γ T)) : WT (model prog w) b C (.BoolOp .And (x :: r) pos) Γ σ T := fun X s m S => by
  refine wpAny_isTrue_BoolOp (wpAny_allTrue_And_cons (wpAny_mono (h X s m S) (fun t s₁ p => ?_) fun _ _ x => x))
  obtain ⟨σ1, ⟨h1, h2⟩, S1, x1⟩ := p
  cases t with
  | false => exact ⟨σ1, h1 rfl, S1, x1⟩
  | true => exact wpAny_mono (h2 rfl X s₁ m S1) (fun _ _ p => PostT.then x1 p) fun _ _ x => x
theorem WT.cmp {l r : PySem.Expr} {op : CmpOp} {pos : Pos} (h : WE (model prog w) b C l Γ σ fun d σ1 => WE (model prog w) b C r Γ σ1 fun e σ2 => W2 (model prog w) b C (compareOp op) d e Γ σ2 (boolK T))
    (hm : behindInMarks op r = false := by with_unfolding_all rfl) : WT (model prog w) b C (.Compare l [op] [r] pos) Γ σ T := fun X s m S => by
  refine wpAny_isTrue_Compare1 (wpAny_mono (h X s m S) (fun v s₁ p => ?_) fun _ _ x => x) hm
  obtain ⟨d, σ1, h1, S1, r1, x1⟩ := p
  refine wpAny_mono (h1 X s₁ m S1) (fun u s₂ p => ?_) fun _ _ x => x
  obtain ⟨e, σ2, h2, S2, r2, x2⟩ := p
  refine wpAny_mono (h2 X s₂ m v u S2 (x2.rep has_rx r1) r2) (fun c s₃ p => ?_) fun _ _ x => x
  obtain ⟨_, σ3, ⟨t, rfl, h3⟩, S3, r3, x3⟩ := p
  exact WB.of S3 r3 ⟨σ3, h3, S3, (x1.trans x2 fun _ h => h).trans x3 fun _ h => h⟩
theorem WT.chain {l r r' : PySem.Expr} {op op' : CmpOp} {pos : Pos} (h : WE (model prog w) b C l Γ σ fun d σ1 => WE (model prog w) b C r Γ σ1 fun e σ2 => W2 (model prog w) b C (compareOp op) d e Γ σ2 fun c σ3 => ∃ t, c = .bool t ∧ (t = false → T false σ3) ∧
      (t = true → WE (model prog w) b C r' Γ σ3 fun f σ4 => W2 (model prog w) b C (compareOp op') e f Γ σ4 (boolK T)))
    (hm : lastMarks [op, op'] [r, r'] = false := by with_unfolding_all rfl) : WT (model prog w) b C (.Compare l [op, op'] [r, r'] pos) Γ σ T := fun X s m S => by
  refine isTrue_chain (wpAny_mono (h X s m S) (fun v s₁ p => ?_) fun _ _ x => x) hm
  obtain ⟨d, σ1, h1, S1, r1, x1⟩ := p
  refine test_link (wpAny_mono (h1 X s₁ m S1) (fun u s₂ p => ?_) fun _ _ x => x)
  obtain ⟨e, σ2, h2, S2, r2, x2⟩ := p
  refine wpAny_mono (h2 X s₂ m v u S2 (x2.rep has_rx r1) r2) (fun c s₃ p => ?_) fun _ _ x => x
  obtain ⟨_, σ3, ⟨t, rfl, h3, h4⟩, S3, r3, x3⟩ := p
  have x13 := (x1.trans x2 fun _ h => h).trans x3 fun _ h => h
  refine WB.of S3 r3 ?_
  cases t with
  | false => exact ⟨σ3, h3 rfl, S3, x13⟩
  | true =>
    refine test_last (wpAny_mono (h4 rfl X s₃ m S3) (fun f s₄ p => ?_) fun _ _ x => x)
    obtain ⟨f', σ4, h5, S4, r4, x4⟩ := p
    refine wpAny_mono (h5 X s₄ m u f S4 (x4.rep has_rx (x3.rep has_rx r2)) r4) (fun c s₅ p => ?_) fun _ _ x => x
    obtain ⟨_, σ5, ⟨t', rfl, h6⟩, S5, r5, x5⟩ := p
    exact WB.of S5 r5 ⟨σ5, h6, S5, (x13.trans x4 fun _ h => h).trans x5 fun _ h => h⟩
end

noncomputable def pick {α : Type} (l : List α) (lo hi st : Option Int) : List α := (sliceRange (sliceBounds lo hi st l.length).1 (sliceBounds lo hi st l.length).2.1 (sliceBounds lo hi st l.length).2.2).filterMap (l[·]?)
theorem slicePick_eq (xs : Array Value) (lo hi st : Option Int) : (slicePick xs lo hi st).toList = pick xs.toList lo hi st := by
  unfold slicePick pick
  simp
theorem Reps.gather {h : Heap} {N : Addr → Prop} {ds : List D} {vs : List Value} (r : Reps h N ds vs) : ∀ ks : List Nat, Reps h N (ks.filterMap (ds[·]?)) (ks.filterMap (vs[·]?))
  | [] => rfl
  | k :: ks => by
    have ih := r.gather ks
    simp only [List.filterMap_cons]
    cases e : ds[k]? with
    | none =>
      have : vs[k]? = none := by rw [List.getElem?_eq_none_iff] at e ⊢; rw [r.length]; exact e
      rw [this]; exact ih
    | some d =>
      obtain ⟨v, hv, rv⟩ := r.get e
      rw [hv]
      exact ⟨v, _, rfl, rv, ih⟩
theorem Reps.pick {h : Heap} {N : Addr → Prop} {ds : List D} {vs : List Value} (r : Reps h N ds vs) (lo hi st : Option Int) : Reps h N (pick ds lo hi st) (pick vs lo hi st) := by
  unfold Mine.pick; rw [r.length]; exact r.gather _

theorem pick_run' {α : Type} (l : List α) (n : Nat) : (List.range n).filterMap (l[·]?) = l.take n := by
  have h := pick_run l.toArray 0 n
  rw [List.map_congr_left (g := id) fun x _ => Nat.zero_add x, List.map_id] at h
  rwa [show (l.toArray[·]?) = (l[·]?) from funext fun x => List.getElem?_toArray] at h
theorem pick_to {α : Type} {l : List α} {i : Int} (n : Nat) (e : max 0 (min (if i < 0 then i + l.length else i) l.length) = (n : Int)) : pick l none (some i) none = l.take n := by
  have e1 : sliceBounds none (some i) none l.length = (((0 : Nat) : Int), (n : Int), 1) := congrArg (fun x => ((0 : Int), x, (1 : Int))) e
  unfold pick
  rw [e1]
  refine (congrArg (List.filterMap (l[·]?)) (sliceRange_one 0 n)).trans ?_
  rw [List.map_congr_left (g := id) fun x _ => Nat.zero_add x, List.map_id]
  exact pick_run' l n
theorem nn0 (j : Nat) : max 0 (j : Int) = j := Int.max_eq_right (Int.natCast_nonneg j)
theorem pick_over {α : Type} (l : List α) (k : Nat) : pick l none (some (k : Int)) none = l.take k := by
  have n : (if (k : Int) < 0 then (k : Int) + l.length else k) = k := if_neg (Int.not_lt.mpr (Int.natCast_nonneg k))
  cases Nat.le_total k l.length with
  | inl h => exact pick_to k (by rw [n, Int.min_eq_left (Int.ofNat_le.mpr h), nn0])
  | inr h =>
    rw [List.take_of_length_le h]
    exact (pick_to l.length (by rw [n, Int.min_eq_right (Int.ofNat_le.mpr h), nn0])).trans List.take_length
theorem pick_init {α : Type} (l : List α) : pick l none (some (-1)) none = l.dropLast := by
  rw [List.dropLast_eq_take]
  refine pick_to _ ?_
  cases l.length with
  | zero => rfl
  | succ n =>
    show max 0 (min ((-1 : Int) + ((n + 1 : Nat) : Int)) (n + 1 : Nat)) = _
    rw [show (-1 : Int) + ((n + 1 : Nat) : Int) = n from (Int.add_comm ..).trans (Int.add_sub_cancel n 1), Int.min_eq_left (Int.ofNat_le.mpr (Nat.le_succ n)), nn0]
    rfl
theorem range_rev (n : Nat) : (List.range n).reverse = (List.range n).map (n - 1 - ·) := by
  have := @List.reverse_range' 0 n
  rwa [← List.range_eq_range', Nat.zero_add] at this
theorem rev_map (n : Nat) : (List.range n).map (fun k : Nat => ((n : Int) - 1 + (k : Int) * -1).toNat) = (List.range n).reverse := by
  rw [range_rev]
  cases n with
  | zero => rfl
  | succ n =>
    rw [show ((n + 1 : Nat) : Int) - 1 = n from Int.add_sub_cancel n 1]
    exact List.map_congr_left fun k hk => by
      have hk : k ≤ n := Nat.le_of_lt_succ (List.mem_range.mp hk)
      show ((n : Int) + (k : Int) * -1).toNat = n - k
      rw [Int.mul_neg, Int.mul_one, ← Int.sub_eq_add_neg, ← Int.natCast_sub hk]
      rfl
theorem pick_all {α : Type} (l : List α) : (List.range l.length).reverse.filterMap (l[·]?) = l.reverse := by
  rw [List.filterMap_reverse, pick_run', List.take_length]
theorem pick_rev {α : Type} (l : List α) : pick l none none (some (-1)) = l.reverse := by
  have e : ∀ n : Nat, sliceRange ((n : Int) - 1) (-1) (-1) = (List.range n).map (fun k : Nat => ((n : Int) - 1 + (k : Int) * -1).toNat) := fun n => by
    cases n with
    | zero => rfl
    | succ n =>
      rw [show ((n + 1 : Nat) : Int) - 1 = n from Int.add_sub_cancel n 1]
      show List.map _ (List.range ((if (n : Int) > -1 then ((n : Int) + 1 + 1 - 1) / 1 else 0)).toNat) = _
      rw [if_pos (Int.lt_of_lt_of_le (by decide) (Int.natCast_nonneg n)), Int.ediv_one, Int.add_sub_cancel]
      exact List.map_congr_left fun k _ => congrArg (fun x => ((n : Int) + x).toNat) (Int.mul_comm ..)
  show List.filterMap _ (sliceRange ((l.length : Int) - 1) (-1) (-1)) = _
  rw [e, rev_map, pick_all]

section
variable {prog : Program} {w : World} {b : Heap} {C : Cx} {Γ : Vars} {σ : Store} {Q : D → Store → Prop}

noncomputable def D.part : D → Option (Option Int)
  | .none => some Option.none
  | .int i => some (some i)
  | _ => Option.none
theorem Rep.part {h : Heap} {N : Addr → Prop} {d : D} {v : Value} {p : Option Int} (r : Rep h N d v) (e : d.part = some p) : IsPart v p := by
  cases d with
  | none => cases e; have r : v = .none := r; subst r; exact .none
  | int i => cases e; obtain ⟨t, rfl⟩ := r; exact .int _ _
  | _ => cases e

noncomputable def WPart (M : Model) (b : Heap) (C : Cx) (e : Option PySem.Expr) (Γ : Vars) (σ : Store) (Q : D → Store → Prop) : Prop := match e with
  | none => Q .none σ
  | some e => WE M b C e Γ σ Q
theorem WPart.use {M : Model} {e : Option PySem.Expr} (h : WPart M b C e Γ σ Q) {X : Addr → Prop} {s : Shared} {m : Str → Option Value} (S : St b C X m Γ σ s) : wpAny M C.A (evalPart e C.env) (Post b C X m Γ σ s Q) NoE s := by
  cases e with
  | none => exact wpAny_pure (Post.same S h rfl)
  | some e => exact h X s m S

theorem WE.slice {lo hi st : Option PySem.Expr} {pos : Pos} (h : WPart (model prog w) b C lo Γ σ fun d σ1 => WPart (model prog w) b C hi Γ σ1 fun e σ2 => WPart (model prog w) b C st Γ σ2 fun f σ3 => ∃ p q r, d.part = some p ∧ e.part = some q ∧ f.part = some r ∧ Q (.slice p q r) σ3) : WE (model prog w) b C (.Slice lo hi st pos) Γ σ Q := fun X s m S => by
  refine wpAny_Slice (wpAny_mono (h.use S) (fun v s₁ p => ?_) fun _ _ x => x)
  obtain ⟨d, σ1, h1, S1, r1, x1⟩ := p
  refine wpAny_mono (WPart.use h1 S1) (fun u s₂ p => ?_) fun _ _ x => x
  obtain ⟨e, σ2, h2, S2, r2, x2⟩ := p
  refine wpAny_mono (WPart.use h2 S2) (fun z s₃ p => ?_) fun _ _ x => x
  obtain ⟨f, σ3, ⟨p, q, r, e1, e2, e3, h3⟩, S3, r3, x3⟩ := p
  refine Post.then ((x1.trans x2 fun _ h => h).trans x3 fun _ h => h) ?_
  refine Post.push S3 _ h3 ⟨_, v, u, z, rfl, rx_new S3, Heap.IsSliceOf.new .., ?_, ?_, ?_⟩ _
  · exact (x3.rep has_rx (x2.rep has_rx r1)).part e1
  · exact (x3.rep has_rx r2).part e2
  · exact r3.part e3

theorem W2.sliceL {value slice : PySem.Expr} {l : List D} {lo hi st : Option Int} (h0 : st ≠ some 0) (hz : l.length ≤ sizeLine) (h : Q (.list (pick l lo hi st)) σ)
    (hs : ∀ o j, ∃ ops, subscripted slice false o j = operate ops (getItem o j) := by intro _ _; exact ⟨_, rfl⟩) : W2 (model prog w) b C (subscriptTail value slice) (.list l) (.slice lo hi st) Γ σ Q := by
  rintro X s m _ _ S ⟨a, xs, rfl, na, hl, ra⟩ ⟨a', vl, vu, vs, rfl, na', hs', p1, p2, p3⟩
  obtain ⟨ops, hs⟩ := hs (.ref a) (.ref a')
  have e1 := ra.length
  rw [Array.length_toList] at e1
  refine tail_any hl.isList.typeIs slot_list_getitem.lookup (wpAny_getItem_list_slice hl.isList hs' p1 p2 p3 h0 ?_ (by omega)) hs
  exact Post.newList S (xs := slicePick xs lo hi st) (by rw [slicePick_eq]; exact ra.pick ..) h _
end
end Mine
namespace Mine

inductive Fl where
  | next | brk | cont
  | ret (d : D)

noncomputable def Fl.rel (h : Heap) (N : Addr → Prop) : Fl → Flow → Prop
  | .next, f => f = .next
  | .brk, f => f = .brk
  | .cont, f => f = .cont
  | .ret d, f => ∃ v, f = .ret v ∧ Rep h N d v

noncomputable def Cx.ex (C : Cx) (σ : Store) : Addr → Prop := fun a => σ.has a ∨ C.own a

theorem ex_rx {C : Cx} {X : Addr → Prop} {σ : Store} : ∀ a, C.ex σ a → C.rx X σ a := fun _ h => h.elim .inl fun h => .inr (.inl h)
theorem has_ex {C : Cx} {σ : Store} : ∀ a, σ.has a → C.ex σ a := fun _ h => .inl h

theorem Step.wider {E E' : Addr → Prop} {σ σ' : Store} {s s' : Shared} (x : Step E σ s σ' s') (h : ∀ a, E a → E' a) : Step E' σ s σ' s' := ⟨x.same, fun a o n e => x.ext a o (fun q => n (h a q)) e, x.fresh⟩

theorem Step.transX {C : Cx} {σ σ' σ'' : Store} {s s' s'' : Shared} (x : Step (C.ex σ) σ s σ' s') (y : Step (C.ex σ') σ' s' σ'' s'') (live : ∀ a, C.own a → ∃ o, s'.heap.get? a = some o) : Step (C.ex σ) σ s σ'' s'' where
  same := by
    obtain ⟨h, t, rfl⟩ := x.same
    obtain ⟨h', t', rfl⟩ := y.same
    exact ⟨h', t', rfl⟩
  ext a o n e := by
    have e1 := x.ext a o n e
    refine y.ext a o (fun q => ?_) e1
    rcases q with q | q
    · rcases x.fresh a q with q | q
      · exact n (.inl q)
      · rw [e] at q; cases q
    · exact n (.inr q)
  fresh a h := by
    rcases y.fresh a h with h | h
    · exact x.fresh a h
    · by_cases q : σ.has a
      · exact .inl q
      · refine .inr ?_
        cases e : s.heap.get? a with
        | none => rfl
        | some o =>
          by_cases q' : C.own a
          · obtain ⟨o', e'⟩ := live a q'; rw [e'] at h; cases h
          · rw [x.ext a o (fun z => z.elim q q') e] at h; cases h

noncomputable def PostS (b : Heap) (C : Cx) (X : Addr → Prop) (σ : Store) (s : Shared) (Q : Fl → Vars → Store → Prop) (fl : Flow) (s' : Shared) : Prop :=
  ∃ f Γ' σ' m', Q f Γ' σ' ∧ St b C X m' Γ' σ' s' ∧ Fl.rel s'.heap (C.rx X σ') f fl ∧ Step (C.ex σ) σ s σ' s'
noncomputable def PostU (b : Heap) (C : Cx) (X : Addr → Prop) (σ : Store) (s : Shared) (Q : Vars → Store → Prop) (_ : Unit) (s' : Shared) : Prop :=
  ∃ Γ' σ' m', Q Γ' σ' ∧ St b C X m' Γ' σ' s' ∧ Step (C.ex σ) σ s σ' s'

theorem St.ownLive {b : Heap} {C : Cx} {X : Addr → Prop} {m : Str → Option Value} {Γ : Vars} {σ : Store} {s : Shared} (S : St b C X m Γ σ s) : ∀ a, C.own a → ∃ o, s.heap.get? a = some o := fun a h => S.live a (.inr (.inl h))

theorem PostS.then {b : Heap} {C : Cx} {X : Addr → Prop} {σ σ' : Store} {s s' : Shared} {Q : Fl → Vars → Store → Prop} (x : Step (C.ex σ) σ s σ' s') (live : ∀ a, C.own a → ∃ o, s'.heap.get? a = some o) {fl : Flow} {s'' : Shared} (p : PostS b C X σ' s' Q fl s'') : PostS b C X σ s Q fl s'' := by
  obtain ⟨f, Γ', σ'', m', q, S, r, y⟩ := p
  exact ⟨f, Γ', σ'', m', q, S, r, x.transX y live⟩
theorem PostU.then {b : Heap} {C : Cx} {X : Addr → Prop} {σ σ' : Store} {s s' : Shared} {Q : Vars → Store → Prop} (x : Step (C.ex σ) σ s σ' s') (live : ∀ a, C.own a → ∃ o, s'.heap.get? a = some o) {u : Unit} {s'' : Shared} (p : PostU b C X σ' s' Q u s'') : PostU b C X σ s Q u s'' := by
  obtain ⟨Γ', σ'', m', q, S, y⟩ := p
  exact ⟨Γ', σ'', m', q, S, x.transX y live⟩

section
variable (M : Model) (b : Heap)
noncomputable def WX (C : Cx) (st : Stmt) (Γ : Vars) (σ : Store) (Q : Fl → Vars → Store → Prop) : Prop :=
  ∀ X s m, St b C X m Γ σ s → wpAny M C.A (exec st C.env) (PostS b C X σ s Q) NoE s
noncomputable def WS (C : Cx) (ss : List Stmt) (Γ : Vars) (σ : Store) (Q : Fl → Vars → Store → Prop) : Prop :=
  ∀ X s m, St b C X m Γ σ s → wpAny M C.A (execs ss C.env) (PostS b C X σ s Q) NoE s
noncomputable def WA (C : Cx) (t : PySem.Expr) (d : D) (Γ : Vars) (σ : Store) (Q : Vars → Store → Prop) : Prop :=
  ∀ X s m v, St b C X m Γ σ s → Rep s.heap (C.rx X σ) d v → wpAny M C.A (assign t C.env v) (PostU b C X σ s Q) NoE s
end

noncomputable def andW (M : Model) (b : Heap) (C : Cx) (rest : List Stmt) (Q : Fl → Vars → Store → Prop) : Fl → Vars → Store → Prop
  | .next, Γ, σ => WS M b C rest Γ σ Q
  | .brk, Γ, σ => Q .brk Γ σ
  | .cont, Γ, σ => Q .cont Γ σ
  | .ret d, Γ, σ => Q (.ret d) Γ σ
section
variable {M : Model} {b : Heap} {C : Cx} {Γ : Vars} {σ : Store} {Q : Fl → Vars → Store → Prop}

theorem WS.nil (h : Q .next Γ σ) : WS M b C [] Γ σ Q := fun X s m S => wpAny_execs_nil ⟨.next, Γ, σ, m, h, S, rfl, Step.refl _ _ _⟩
theorem WS.cons {st : Stmt} {rest : List Stmt} (h : WX M b C st Γ σ (andW M b C rest Q)) : WS M b C (st :: rest) Γ σ Q := fun X s m S => by
  refine wpAny_execs_cons (wpAny_mono (h X s m S) (fun fl s' p => ?_) fun _ _ x => x)
  obtain ⟨f, Γ', σ', m', q, S', r, x⟩ := p
  cases f with
  | next =>
    have r : fl = .next := r
    subst r
    exact wpAny_mono (q X s' m' S') (fun _ _ p => PostS.then x S'.ownLive p) fun _ _ e => e
  | brk => have r : fl = .brk := r; subst r; exact ⟨.brk, Γ', σ', m', q, S', rfl, x⟩
  | cont => have r : fl = .cont := r; subst r; exact ⟨.cont, Γ', σ', m', q, S', rfl, x⟩
  | ret d =>
    obtain ⟨v, rfl, r⟩ := r
    exact ⟨.ret d, Γ', σ', m', q, S', ⟨v, rfl, r⟩, x⟩

@[reducible] noncomputable def retK (Γ : Vars) (Q : Fl → Vars → Store → Prop) : D → Store → Prop := fun d σ => Q (.ret d) Γ σ
@[reducible] noncomputable def asgK (x : Str) (Γ : Vars) (Q : Fl → Vars → Store → Prop) : D → Store → Prop := fun d σ => Q .next ((x, d) :: Γ) σ
@[reducible] noncomputable def iteK (M : Model) (b : Heap) (C : Cx) (x y : List Stmt) (Γ : Vars) (Q : Fl → Vars → Store → Prop) : Bool → Store → Prop := fun c σ => (c = true → WS M b C x Γ σ Q) ∧ (c = false → WS M b C y Γ σ Q)
@[reducible] noncomputable def bodyK (M : Model) (b : Heap) (C : Cx) (body : List Stmt) (Q : Fl → Vars → Store → Prop) : Vars → Store → Prop := fun Γ σ => WS M b C body Γ σ Q
theorem WX.ret {e : PySem.Expr} {pos : Pos} (h : WE M b C e Γ σ (retK Γ Q)) : WX M b C (.Return (some e) pos) Γ σ Q := fun X s m S => by
  refine wpAny_Return_some (wpAny_mono (h X s m S) (fun v s' p => ?_) fun _ _ x => x)
  obtain ⟨d, σ', q, S', r, x⟩ := p
  exact ⟨.ret d, Γ, σ', m, q, S', ⟨v, rfl, r⟩, x.wider has_ex⟩
theorem WX.ite {t : PySem.Expr} {x y : List Stmt} {pos : Pos} (h : WT M b C t Γ σ (iteK M b C x y Γ Q)) : WX M b C (.If t x y pos) Γ σ Q := fun X s m S => by
  refine wpAny_If (wpAny_mono (h X s m S) (fun c s' p => ?_) fun _ _ x => x)
  obtain ⟨σ', ⟨h1, h2⟩, S', x'⟩ := p
  cases c with
  | true => exact wpAny_mono (h1 rfl X s' m S') (fun _ _ p => PostS.then (x'.wider has_ex) S'.ownLive p) fun _ _ e => e
  | false => exact wpAny_mono (h2 rfl X s' m S') (fun _ _ p => PostS.then (x'.wider has_ex) S'.ownLive p) fun _ _ e => e
end

noncomputable def Mayst (env : Env) (x : Str) : Bool := match env.kindOf x with
  | some .local => true
  | some .cell => (env.cells.lookup x).isSome
  | _ => false

theorem mem_cells {env : Env} {x : Str} {c : Addr} (h : env.cells.lookup x = some c) : ∃ y, env.cells.lookup y = some c := ⟨x, h⟩

section
variable {M : Model} {b : Heap} {C : Cx} {Γ : Vars} {σ : Store}

theorem wp_store {A : Around} {E : Value → Shared → Prop} {X : Addr → Prop} {s : Shared} {m : Str → Option Value} {x : Str} {d : D} {v : Value} {Q : Unit → Shared → Prop} (ok : C.Ok) (S : St b C X m Γ σ s) (r : Rep s.heap (C.rx X σ) d v) (hx : Mayst C.env x = true)
    (h : ∀ s' m', St b C X m' ((x, d) :: Γ) σ s' → Step (C.ex σ) σ s σ s' → Q () s') : wpAny M A (storeName C.env x v) Q E s := by
  unfold Mayst at hx
  have key : ∀ {a : Addr} {h' : Heap}, C.own a → Heap.SameBut a s.heap h' → ∀ y o, ¬ C.rx X σ y → s.heap.get? y = some o → ¬ C.rx X σ y ∧ h'.get? y = some o := fun ha hs y o n e =>
    ⟨n, hs.extBut y o (fun q => n (.inr (.inl (q ▸ ha)))) e⟩
  have live : ∀ {a : Addr} {h' : Heap}, (∃ o, h'.get? a = some o) → Heap.SameBut a s.heap h' → ∀ y, C.rx X σ y → ∃ o, h'.get? y = some o := fun {a h'} ha hs y hy => by
    by_cases q : y = a
    · exact q ▸ ha
    · obtain ⟨o, e⟩ := S.live y hy; exact ⟨o, hs.extBut y o q e⟩
  have base : ∀ {a : Addr} {h' : Heap}, C.own a → Heap.SameBut a s.heap h' → ∀ y o, b.get? y = some o → h'.get? y = some o := fun ha hs y o e => by
    refine hs.extBut y o (fun q => ?_) (S.keep y o e)
    have := S.new y (.inr (q ▸ ha)); rw [e] at this; cases this
  have sto : ∀ {a : Addr} {h' : Heap}, C.own a → Heap.SameBut a s.heap h' → StoreOk h' (C.rx X σ) σ := fun ha hs => ⟨fun y ds e => by
    obtain ⟨xs, h1, h2⟩ := S.store.at' y ds e
    have hy : σ.has y := List.mem_map.mpr ⟨(y, ds), e, rfl⟩
    exact ⟨xs, h1.extBut hs.extBut (fun q => S.apart y hy (q ▸ ha)), Reps.move (key ha hs) ds _ h2⟩, S.store.nodup⟩
  have step : ∀ {a : Addr} {h' : Heap} {t : Nat}, C.own a → Heap.SameBut a s.heap h' → Step (C.ex σ) σ s σ { s with heap := h', toks := t } := fun ha hs =>
    ⟨⟨_, _, rfl⟩, fun y o n e => hs.extBut y o (fun q => n (.inr (q ▸ ha))) e, fun _ h => .inl h⟩
  split at hx
  · rename_i hk
    have hL : C.own C.env.locals := .inl rfl
    have hp : (C.env.scope.kind == .class || (C.env.scope.kind == .module && C.env.locals != C.env.globals)) = false := by rw [ok.kind]; rfl
    refine wpAny_storeName_local hk S.ns (fun h' hn hs => h _ (fun y => if y = x then some v else m y) ?_ (step hL hs)) hp
    refine ⟨hn, base hL hs, S.new, fun y e hy => ?_, sto hL hs, S.apart, S.apartX, fun y c hc => ?_, S.cellsApart, live (by obtain ⟨o, _, _, ho, _⟩ := hn; exact ⟨o, ho⟩) hs⟩
    · rw [List.lookup_cons] at hy
      cases hb : y == x with
      | true =>
        rw [hb] at hy; cases hy
        have e2 := beq_iff_eq.mp hb
        subst e2
        exact ⟨v, .inl ⟨hk, by simp⟩, Rep.move (key hL hs) d v r⟩
      | false =>
        rw [hb] at hy
        obtain ⟨u, hu, ru⟩ := S.vars y e hy
        refine ⟨u, ?_, Rep.move (key hL hs) e u ru⟩
        have ne : y ≠ x := by intro q; rw [q] at hb; simp at hb
        rcases hu with ⟨h1, h2⟩ | ⟨h1, c, h2, h3⟩
        · exact .inl ⟨h1, by simp only [ne, if_false]; exact h2⟩
        · refine .inr ⟨h1, c, h2, h3.sameBut hs ?_⟩
          rintro rfl
          obtain ⟨o, e1, e2⟩ := h3
          obtain ⟨o', _, _, e3, e4, _⟩ := S.ns
          rw [e1] at e3; cases e3; rw [e2] at e4; cases e4
    · obtain ⟨u, hu⟩ := S.cells y c hc
      refine ⟨u, hu.sameBut hs ?_⟩
      rintro rfl
      obtain ⟨o, e1, e2⟩ := hu
      obtain ⟨o', _, _, e3, e4, _⟩ := S.ns
      rw [e1] at e3; cases e3; rw [e2] at e4; cases e4
  · rename_i hk
    obtain ⟨c, hc⟩ := Option.isSome_iff_exists.mp hx
    have hO : C.own c := .inr (mem_cells hc)
    obtain ⟨u₀, hu₀⟩ := S.cells x c hc
    refine wpAny_storeName_cell ok.kind hk hc hu₀ fun h' hv' hs => h _ m ?_ (step hO hs)
    have nL : C.env.locals ≠ c := by
      rintro q
      obtain ⟨o, e1, e2⟩ := hu₀
      obtain ⟨o', _, _, e3, e4, _⟩ := S.ns
      rw [← q, e3] at e1; cases e1; rw [e2] at e4; cases e4
    refine ⟨S.ns.sameBut hs nL, base hO hs, S.new, fun y e hy => ?_, sto hO hs, S.apart, S.apartX, fun y c' hc' => ?_, S.cellsApart, live (by obtain ⟨o, ho, _⟩ := hv'; exact ⟨o, ho⟩) hs⟩
    · rw [List.lookup_cons] at hy
      cases hb : y == x with
      | true =>
        rw [hb] at hy; cases hy
        have e2 := beq_iff_eq.mp hb
        subst e2
        exact ⟨v, .inr ⟨.inl hk, c, hc, hv'⟩, Rep.move (key hO hs) d v r⟩
      | false =>
        rw [hb] at hy
        obtain ⟨u, hu, ru⟩ := S.vars y e hy
        refine ⟨u, ?_, Rep.move (key hO hs) e u ru⟩
        have ne : y ≠ x := by intro q; rw [q] at hb; simp at hb
        rcases hu with ⟨h1, h2⟩ | ⟨h1, c', h2, h3⟩
        · exact .inl ⟨h1, h2⟩
        · refine .inr ⟨h1, c', h2, h3.sameBut hs ?_⟩
          rintro rfl
          exact ne (name_of_addr S.cellsApart (mem_of_lookup h2) (mem_of_lookup hc))
    · by_cases q : c' = c
      · subst q; exact ⟨_, hv'⟩
      · obtain ⟨u, hu⟩ := S.cells y c' hc'
        exact ⟨u, hu.sameBut hs q⟩
  · cases hx

theorem WA.name {x : Str} {pos : Pos} {d : D} {Q : Vars → Store → Prop} (ok : C.Ok) (h : Q ((x, d) :: Γ) σ) (hx : Mayst C.env x = true := by rfl) : WA M b C (.Name x pos) d Γ σ Q := fun X s m v S r =>
  wpAny_assign_Name (wp_store ok S r hx fun s' m' S' x => ⟨_, σ, m', h, S', x⟩)

theorem WX.assign {x : Str} {p pos : Pos} {e : PySem.Expr} {Q : Fl → Vars → Store → Prop} (ok : C.Ok) (h : WE M b C e Γ σ (asgK x Γ Q)) (hx : Mayst C.env x = true := by rfl)
    (hs : swapsWith e (some (.Name x p)) pos.line C.env = pure false := by rfl) : WX M b C (.Assign [.Name x p] e pos) Γ σ Q := fun X s m S => by
  refine wpAny_Assign_Name (wpAny_mono (h X s m S) (fun v s' p => ?_) fun _ _ x => x) hs
  obtain ⟨d, σ', q, S', r, x'⟩ := p
  exact wp_store ok S' r hx fun s'' m'' S'' x'' => ⟨.next, _, σ', m'', q, S'', rfl, (x'.wider has_ex).transX x'' S'.ownLive⟩

theorem WX.aug {x : Str} {p pos : Pos} {op : Operator} {e : PySem.Expr} {c : D} {Q : Fl → Vars → Store → Prop} (ok : C.Ok) (hc : Γ.lookup x = some c) (h : WE M b C e Γ σ fun d σ1 => W2 M b C (inplaceOp op) c d Γ σ1 (asgK x Γ Q)) (hx : Mayst C.env x = true := by rfl)
    (hn : (x == ("__classdict__" : Str)) = false := by decide) : WX M b C (.AugAssign (.Name x p) op e pos) Γ σ Q := fun X s m S => by
  obtain ⟨v, hb, hr⟩ := S.vars x c hc
  refine wpAny_AugAssign_Name (wp_bound ok.kind S.ns hb (wpAny_mono (h X s m S) (fun u s₁ p => ?_) fun _ _ x => x) hn)
  obtain ⟨d, σ1, h1, S1, r1, x1⟩ := p
  refine wpAny_mono (h1 X s₁ m v u S1 (x1.rep has_rx hr) r1) (fun z s₂ p => ?_) fun _ _ x => x
  obtain ⟨r, σ2, h2, S2, r2, x2⟩ := p
  exact wp_store ok S2 r2 hx fun s'' m'' S'' x'' => ⟨.next, _, σ2, m'', h2, S'', rfl, ((x1.trans x2 fun _ h => h).wider has_ex).transX x'' S2.ownLive⟩
end

noncomputable def namesOf : List PySem.Expr → Option (List Str)
  | [] => some []
  | .Name x _ :: r => (namesOf r).map (x :: ·)
  | _ => none
theorem names_cons {e : PySem.Expr} {es : List PySem.Expr} {xs : List Str} (h : namesOf (e :: es) = some xs) : ∃ x p ys, e = .Name x p ∧ namesOf es = some ys ∧ xs = x :: ys := by
  cases e with
  | Name x p =>
    obtain ⟨ys, h1, h2⟩ := Option.map_eq_some_iff.mp (show (namesOf es).map (x :: ·) = some xs from h)
    exact ⟨x, p, ys, rfl, h1, h2.symm⟩
  | _ => cases h
noncomputable def bindAll : List Str → List D → Vars → Vars
  | x :: xs, d :: ds, Γ => bindAll xs ds ((x, d) :: Γ)
  | _, _, Γ => Γ

section
variable {prog : Program} {w : World} {b : Heap} {C : Cx} {Γ : Vars} {σ : Store}

theorem wp_names {X : Addr → Prop} {Q : Vars → Store → Prop} (ok : C.Ok) : ∀ (es : List PySem.Expr) (xs : List Str) (ds : List D) (vs : List Value) (Γ : Vars) (s : Shared) (m : Str → Option Value), namesOf es = some xs → St b C X m Γ σ s → Reps s.heap (C.rx X σ) ds vs → xs.length = ds.length → (∀ x ∈ xs, Mayst C.env x = true) →
    Q (bindAll xs ds Γ) σ → wpAny (model prog w) C.A (assignInOrder ((assignEach es C.env).map (·.2)) vs) (PostU b C X σ s Q) NoE s := by
  intro es
  induction es with
  | nil =>
    intro xs ds vs Γ s m hn S r hl _ q
    cases hn
    cases ds with
    | cons d ds => simp at hl
    | nil => have r : vs = [] := r; subst r; exact wpAny_assignInOrder_none ⟨Γ, σ, m, q, S, Step.refl _ _ _⟩
  | cons e es ih =>
    intro xs ds vs Γ s m hn S r hl hm q
    replace hn := names_cons hn
    obtain ⟨x, p, ys, rfl, hn, rfl⟩ := hn
    cases ds with
    | nil => simp at hl
    | cons d ds =>
      obtain ⟨v, us, rfl, rv, rs⟩ := r
      show wpAny (model prog w) C.A (assignInOrder (assign (.Name x p) C.env :: (assignEach es C.env).map (·.2)) (v :: us)) _ _ s
      refine wpAny_assignInOrder_more (wpAny_assign_Name (wp_store ok S rv (hm x (.head _)) fun s' m' S' x' => ?_))
      refine wpAny_mono (ih ys ds us _ s' m' hn S' (x'.reps ex_rx rs) (by simpa using hl) (fun y hy => hm y (.tail _ hy)) q) (fun _ _ p => PostU.then x' S'.ownLive p) fun _ _ e => e

theorem assignEach_names (env : Env) : ∀ (es : List PySem.Expr) (xs : List Str), namesOf es = some xs → (assignEach es env).length = xs.length ∧ (assignEach es env).findIdx? (·.1) = none
  | [], xs, h => by cases h; exact ⟨rfl, rfl⟩
  | e :: es, xs, h => by
    replace h := names_cons h
    obtain ⟨x, p, ys, rfl, h, rfl⟩ := h
    obtain ⟨h1, h2⟩ := assignEach_names env es ys h
    have e : assignEach (.Name x p :: es) env = (false, assign (.Name x p) env) :: assignEach es env := rfl
    rw [e]
    refine ⟨by simp [h1], ?_⟩
    rw [List.findIdx?_cons]
    simp [h2]

theorem WA.tup {es : List PySem.Expr} {k : Nat} {pos : Pos} {ds : List D} {xs : List Str} {Q : Vars → Store → Prop} (ok : C.Ok) (hn : namesOf es = some xs) (hl : xs.length = ds.length) (hm : (xs.all fun x => Mayst C.env x) = true) (h : Q (bindAll xs ds Γ) σ) : WA (model prog w) b C (.Tuple es k pos) (.tup ds) Γ σ Q := by
  rintro X s m _ S ⟨a, items, rfl, na, ht, ra⟩
  obtain ⟨h1, h2⟩ := assignEach_names C.env es xs hn
  have e1 := ra.length
  rw [Array.length_toList] at e1
  refine wpAny_assign_Tuple ok.unheld ht.isTup (by rw [h1, e1, hl]) h2 fun h' he => ?_
  have hk : ∀ y o, s.heap.get? y = some o → h'.get? y = some o := fun y o e => he y o (Nat.ne_of_lt (Heap.lt_size e)) e
  have S' : St b C X m Γ σ { s with heap := h' } := S.grow hk
  refine wpAny_mono (wp_names ok es xs ds _ Γ _ m hn S' (Reps.move (fun y o n e => ⟨n, hk y o e⟩) ds _ ra) hl (List.all_eq_true.mp hm) h) (fun _ _ p => PostU.then (σ' := σ) ⟨⟨h', s.toks, rfl⟩, fun y o _ e => hk y o e, fun _ h => .inl h⟩ S'.ownLive p) fun _ _ e => e

theorem wp_swapped {X : Addr → Prop} {Q : Vars → Store → Prop} (ok : C.Ok) : ∀ (xs : List Str) (ds : List D) (vs : List Value) (Γ : Vars) (s : Shared) (m : Str → Option Value), St b C X m Γ σ s → Reps s.heap (C.rx X σ) ds vs → xs.length = ds.length → (∀ x ∈ xs, Mayst C.env x = true) →
    Q (bindAll xs ds Γ) σ → wpAny (model prog w) C.A (assignInOrder (xs.map fun n => bindName C.env n) vs) (PostU b C X σ s Q) NoE s := by
  intro xs
  induction xs with
  | nil =>
    intro ds vs Γ s m S r hl _ q
    cases ds with
    | cons d ds => simp at hl
    | nil => have r : vs = [] := r; subst r; exact wpAny_assignInOrder_none ⟨Γ, σ, m, q, S, Step.refl _ _ _⟩
  | cons x xs ih =>
    intro ds vs Γ s m S r hl hm q
    cases ds with
    | nil => simp at hl
    | cons d ds =>
      obtain ⟨v, us, rfl, rv, rs⟩ := r
      refine wpAny_assignInOrder_more (wpAny_bindName (wp_store ok S rv (hm x (.head _)) fun s' m' S' x' => ?_))
      refine wpAny_mono (ih ds us _ s' m' S' (x'.reps ex_rx rs) (by simpa using hl) (fun y hy => hm y (.tail _ hy)) q) (fun _ _ p => PostU.then x' S'.ownLive p) fun _ _ e => e

theorem Reps.reverse {h : Heap} {N : Addr → Prop} : ∀ {ds : List D} {vs : List Value}, Reps h N ds vs → Reps h N ds.reverse vs.reverse
  | [], vs, x => by have : vs = [] := x; subst this; exact rfl
  | d :: ds, vs, x => by
    obtain ⟨v, r, rfl, hv, hr⟩ := x
    rw [List.reverse_cons, List.reverse_cons]
    exact hr.reverse.append (Reps.one hv)

theorem WX.assignT {es : List PySem.Expr} {k : Nat} {tpos pos : Pos} {e : PySem.Expr} {xs : List Str} {Q : Fl → Vars → Store → Prop} (ok : C.Ok) (hn : namesOf es = some xs)
    (h : WE (model prog w) b C e Γ σ fun d σ' => ∃ ds, d = .tup ds ∧ xs.length = ds.length ∧ Q .next (bindAll xs ds Γ) σ') (hm : (xs.all fun x => Mayst C.env x) = true := by rfl)
    (hs : swapsWithSole [.Tuple es k tpos] e pos.line C.env = pure false := by rfl) (hw : swappedStores [.Tuple es k tpos] e C.env = pure none := by rfl) : WX (model prog w) b C (.Assign [.Tuple es k tpos] e pos) Γ σ Q := fun X s m S => by
  refine Assign_Tuple (wpAny_mono (h X s m S) (fun v s' p => ?_) fun _ _ x => x) hs hw
  obtain ⟨d, σ', ⟨ds, rfl, hl, q⟩, S', r, x'⟩ := p
  refine wpAny_mono (WA.tup (Q := fun Γ σ => Q .next Γ σ) ok hn hl hm q X s' m v S' r) (fun _ s'' p => ?_) fun _ _ e => e
  obtain ⟨Γ'', σ'', m'', q'', S'', x''⟩ := p
  exact ⟨.next, Γ'', σ'', m'', q'', S'', rfl, (x'.wider has_ex).transX x'' S'.ownLive⟩
theorem WX.assignSw {es : List PySem.Expr} {k : Nat} {tpos pos : Pos} {e : PySem.Expr} {xs : List Str} {Q : Fl → Vars → Store → Prop} (ok : C.Ok)
    (h : WE (model prog w) b C e Γ σ fun d σ' => ∃ ds, d = .tup ds ∧ xs.length = ds.length ∧ Q .next (bindAll xs.reverse ds.reverse Γ) σ')
    (hw : swappedStores [.Tuple es k tpos] e C.env = pure (some xs) := by rfl) (hm : (xs.all fun x => Mayst C.env x) = true := by rfl)
    (hs : swapsWithSole [.Tuple es k tpos] e pos.line C.env = pure false := by rfl) : WX (model prog w) b C (.Assign [.Tuple es k tpos] e pos) Γ σ Q := fun X s m S => by
  refine Assign_Tuple_swapped (wpAny_mono (h X s m S) (fun v s' p => ?_) fun _ _ x => x) hs hw
  obtain ⟨d, σ', ⟨ds, rfl, hl, q⟩, S', r, x'⟩ := p
  obtain ⟨a, items, rfl, na, ht, ra⟩ := r
  have e1 := ra.length
  rw [Array.length_toList] at e1
  rw [hl, ← e1]
  refine unpackItems_tuple ok.unheld ht.isTup fun h' he => ?_
  have hk : ∀ y o, s'.heap.get? y = some o → h'.get? y = some o := fun y o e => he y o (Nat.ne_of_lt (Heap.lt_size e)) e
  have S1 : St b C X m Γ σ' { s' with heap := h' } := S'.grow hk
  have x1 : Step (C.ex σ') σ' s' σ' { s' with heap := h' } := ⟨⟨h', s'.toks, rfl⟩, fun y o _ e => hk y o e, fun _ h => .inl h⟩
  refine wpAny_mono (wp_swapped (Q := fun Γ σ => Q .next Γ σ) ok xs.reverse ds.reverse _ Γ _ m S1 (Reps.move (fun y o n e => ⟨n, hk y o e⟩) ds _ ra).reverse (by simpa using hl) (fun x hx => List.all_eq_true.mp hm x (List.mem_reverse.mp hx)) q) (fun _ s'' p => ?_) fun _ _ e => e
  obtain ⟨Γ'', σ'', m'', q'', S'', x''⟩ := p
  exact ⟨.next, Γ'', σ'', m'', q'', S'', rfl, ((x'.wider has_ex).transX x1 S'.ownLive).transX x'' S1.ownLive⟩
end
end Mine
namespace Mine

noncomputable def Only (J : Addr → Prop) (s s' : Shared) : Prop := (∃ h' tk, s' = { s with heap := h', toks := tk }) ∧ Ext J s.heap s'.heap

theorem extOf {J : Addr → Prop} {a : Addr} {h h' : Heap} (x : Heap.ExtBut a h h') (ha : J a) : Ext J h h' := fun y o n e => x y o (fun q => n (q ▸ ha)) e

structure Feeds (prog : Program) (w : World) (A : Around) (t : PySem.Expr) (J : Addr → Prop) (I : Addr) (K : Heap → (Addr → Prop) → List D → Prop) : Prop where
  move : ∀ h h' N N' r, K h N r → (∀ a o, J a → h.get? a = some o → h'.get? a = some o) → (∀ a o, ¬ N a → h.get? a = some o → ¬ N' a ∧ h'.get? a = some o) → K h' N' r
  live : ∀ h N r, K h N r → ∀ a, J a → ∃ o, h.get? a = some o
  item : ∀ (s : Shared) (N : Addr → Prop) (x : D) (r : List D) (Qn : Shared → Prop) (Q : Value → Shared → Prop) (E : Value → Shared → Prop), K s.heap N (x :: r) → (∀ a, J a → N a) → (∀ a, N a → ∃ o, s.heap.get? a = some o) →
    (∀ v s', K s'.heap N r → Rep s'.heap N x v → Only J s s' → Q v s') →
    wpAny (model prog w) A (pyNext (.ref I)) (fun o s₁ => match o with | none => Qn s₁ | some v => wpAny (model prog w) A (letOwnedTupleGo t (.ref I) v) (fun _ s₂ => Q v s₂) E s₁) E s
  done : ∀ (s : Shared) (N : Addr → Prop) (Qn : Shared → Prop) (Q : Value → Shared → Prop) (E : Value → Shared → Prop), K s.heap N [] → (∀ s', Only J s s' → Qn s') →
    wpAny (model prog w) A (pyNext (.ref I)) (fun o s₁ => match o with | none => Qn s₁ | some v => wpAny (model prog w) A (letOwnedTupleGo t (.ref I) v) (fun _ s₂ => Q v s₂) E s₁) E s

theorem drop_cons {α : Type} {l : List α} {i : Nat} {x : α} {r : List α} (h : l.drop i = x :: r) : l[i]? = some x ∧ l.drop (i + 1) = r := by
  have hlt : i < l.length := by
    rcases Nat.lt_or_ge i l.length with q | q
    · exact q
    · rw [List.drop_eq_nil_of_le q] at h; cases h
  rw [List.drop_eq_getElem_cons hlt] at h
  cases h
  exact ⟨by simp [hlt], rfl⟩
theorem drop_nil {α : Type} {l : List α} {i : Nat} (h : l.drop i = []) : l[i]? = none := by simpa using h

section
variable {prog : Program} {w : World} {A : Around} {E : Value → Shared → Prop} {s : Shared}
theorem nextOf_tuple_item {it l : Addr} {i : Nat} {items} {x : Value} {Q : Value → Shared → Prop} (hit : IsTupIter s.heap it l i)
    (hl : IsTup s.heap l items) (hx : items[i]? = some x)
    (hQ : ∀ h', IsTupIter h' it l (i + 1) → Heap.SameBut it s.heap h' → Q x { s with heap := h' }) :
    wpAny (model prog w) A (Builtin.SmallTypes.nextOf (.ref it)) Q E s := by
  obtain ⟨o, ho, hc, hd⟩ := id hit
  obtain ⟨ol, hol, _, nl, hdl⟩ := hl
  unfold Builtin.SmallTypes.nextOf
  refine wpAny_bind (wpAny_callSpecial?_slot (name := Str.ofString "__next__") hit.typeIs slot_tupleiter_next
    (wpAny_call_entry slot_tupleiter_next hit.typeIs entry_tupleiter_next ?_ (args_tupleiter_next _)))
  show wpAny _ _ (field (.ref it) 0 >>= _) _ _ s
  refine wpAny_bind (wpAny_field ho hd (x := .ref l) rfl ?_)
  show wpAny _ _ (if (Value.ref l == Value.none) = true then _ else _) _ _ s
  rw [if_neg (show ¬ ((Value.ref l == Value.none) = true) from Bool.false_ne_true)]
  show wpAny _ _ (field (.ref it) 1 >>= _) _ _ s
  refine wpAny_bind (wpAny_field ho hd (x := .int i 0) rfl ?_)
  show wpAny _ _ (seqItems? (.ref l) >>= _) _ _ s
  refine wpAny_bind (wpAny_seqItems hol hdl ?_)
  simp only [Int.toNat_natCast, hx]
  refine wpAny_bind (wpAny_setField ho hd (by simp) (wpAny_pure ⟨x, rfl, wpAny_pure (hQ _ ?_ (Heap.SameBut.update ..))⟩))
  exact ⟨_, Heap.get?_update_self _ ho (Obj.isFreed_of_fields (Obj.data_mapFields hd _)), (Obj.cls_mapFields ..).trans hc, by
    rw [Obj.data_mapFields hd]; simp [rawInt]⟩
theorem nextOf_tuple_end {it l : Addr} {i : Nat} {items} {Q : Value → Shared → Prop} (hh : A.handled = none)
    (hit : IsTupIter s.heap it l i) (hl : IsTup s.heap l items) (hx : items[i]? = none)
    (hE : ∀ h' e, Heap.ExtBut it s.heap h' → (∃ o, h'.get? e = some o ∧ o.cls = .type "StopIteration") → E (.ref e) { s with heap := h' }) :
    wpAny (model prog w) A (Builtin.SmallTypes.nextOf (.ref it)) Q E s := by
  obtain ⟨o, ho, hc, hd⟩ := id hit
  obtain ⟨ol, hol, _, nl, hdl⟩ := hl
  unfold Builtin.SmallTypes.nextOf
  refine wpAny_bind (wpAny_callSpecial?_slot (name := Str.ofString "__next__") hit.typeIs slot_tupleiter_next
    (wpAny_call_entry slot_tupleiter_next hit.typeIs entry_tupleiter_next ?_ (args_tupleiter_next _)))
  show wpAny _ _ (field (.ref it) 0 >>= _) _ _ s
  refine wpAny_bind (wpAny_field ho hd (x := .ref l) rfl ?_)
  show wpAny _ _ (if (Value.ref l == Value.none) = true then _ else _) _ _ s
  rw [if_neg (show ¬ ((Value.ref l == Value.none) = true) from Bool.false_ne_true)]
  show wpAny _ _ (field (.ref it) 1 >>= _) _ _ s
  refine wpAny_bind (wpAny_field ho hd (x := .int i 0) rfl ?_)
  show wpAny _ _ (seqItems? (.ref l) >>= _) _ _ s
  refine wpAny_bind (wpAny_seqItems hol hdl ?_)
  simp only [Int.toNat_natCast, hx]
  refine wpAny_bind (wpAny_rule (wpAny_bind (wpAny_setField ho hd (by simp) ?_)))
  show wpAny _ _ (newExc (.type "StopIteration") [] >>= _) _ _ _
  refine wpAny_bind ?_
  simp only [newExc, newTuple]
  refine wpAny_bind (wpAny_newObj_type ?_ (by size_fits))
  refine wpAny_bind (m := firstArgMember _ _) (wpAny_of_eq (a := Value.none) (by first | rfl | (simp only [firstArgMember]; rfl)) ?_)
  refine wpAny_newObj_type ?_ (by size_fits)
  simp only [raiseNew]
  refine wpAny_bind (wpAny_handled ?_)
  first | rw [show A.in1.handled = none from hh] | rw [hh]
  refine wpAny_bind (wpAny_pure (wpAny_throw ?_))
  exact hE _ _ (((Heap.SameBut.update ..).extBut.push _).push _) ⟨_, Heap.get?_push_size _ rfl, rfl⟩
end

theorem drawsTuple {prog : Program} {w : World} {A : Around} (hh : A.handled = none) (it l : Addr) (hne : l ≠ it) (items : Array Value) :
    Draws prog w A it [it, l] items.size (fun i v => items[i]? = some v) (fun i h => IsTupIter h it l i ∧ IsTup h l items) where
  live := fun _ _ st => let ⟨o, ho, _⟩ := st.1; ⟨o, ho⟩
  frame := fun _ _ _ st hk => by
    obtain ⟨⟨o, ho, r⟩, o', ho', r'⟩ := st
    exact ⟨⟨o, hk it (by simp) o ho, r⟩, o', hk l (by simp) o' ho', r'⟩
  item := fun i s Q E hi st hQ => by
    refine nextOf_tuple_item st.1 st.2 (x := items[i]) (by simp [hi]) fun h' hit' hs' => ?_
    obtain ⟨o', ho', r'⟩ := st.2
    exact hQ _ h' s.toks (by simp [hi]) ⟨hit', o', hs'.extBut _ _ hne ho', r'⟩ hs'
  done := fun s Q E st hE => nextOf_tuple_end hh st.1 st.2 (by simp) hE

section
variable {prog : Program} {w : World} {A : Around} {E : Value → Shared → Prop} {s : Shared}

theorem letGo_other {t : PySem.Expr} {I : Addr} {v : Value} {o : Obj} {n : String} {vs : Array Value} {Q : Unit → Shared → Prop} (ho : s.heap.get? I = some o) (hc : o.cls = .type n) (hd : o.data = .fields vs)
    (hn : (["enumerate", "zip", "dict_itemiterator", "dict_reverseitemiterator", "odict_iterator", "itertools.zip_longest", "itertools.pairwise"].contains n) = false) (hQ : Q () s) :
    wpAny (model prog w) A (letOwnedTupleGo t (.ref I) v) Q E s := by
  have two : wpAny (model prog w) A (do
      let (.ref r, .ref a) := (Value.ref I, v) | return
      let o ← load r
      match o.cls, o.data with
      | .type n, .fields vs =>
        if ["enumerate", "zip", "dict_itemiterator", "dict_reverseitemiterator", "odict_iterator", "itertools.zip_longest", "itertools.pairwise"].contains n && vs[0]? == some (rawInt a) then
          rule "for.unpacks-the-owned-tuple"
          updateField r 0 .none
      | _, _ => pure ()) Q E s := by
    cases v with
    | ref a =>
      refine wpAny_bind (wpAny_load ho ?_)
      rw [hc, hd]
      show wpAny _ A (if (_ && _) = true then _ else _) Q E s
      rw [if_neg (by rw [hn]; simp)]
      exact wpAny_pure hQ
    | _ => exact wpAny_pure hQ
  cases t with
  | Tuple => exact two
  | List => exact two
  | _ => exact wpAny_pure hQ

end

noncomputable def KList (I : Addr) (h : Heap) (N : Addr → Prop) (r : List D) : Prop := ∃ a xs ds i, h.IsListIter I a i ∧ h.PlainList a xs ∧ ¬ N a ∧ Reps h N ds xs.toList ∧ r = ds.drop i
noncomputable def KTup (I : Addr) (h : Heap) (N : Addr → Prop) (r : List D) : Prop := ∃ a xs ds i, IsTupIter h I a i ∧ PlainTup h a xs ∧ ¬ N a ∧ Reps h N ds xs.toList ∧ r = ds.drop i
noncomputable def KRange (I : Addr) (h : Heap) (N : Addr → Prop) (r : List D) : Prop := ∃ (x step : Int) (n : Nat), IsRangeIter h I x n step ∧ r = (List.range n).map fun (k : Nat) => D.int (x + k * step)
noncomputable def KEnumL (e it : Addr) (h : Heap) (N : Addr → Prop) (r : List D) : Prop := ∃ a xs ds i old, IsEnum h e it (i : Nat) old ∧ h.IsListIter it a i ∧ h.PlainList a xs ∧ ¬ N a ∧ Reps h N ds xs.toList ∧ r = (ds.zipIdx.drop i).map fun p => D.tup [.int (p.2 : Nat), p.1]
noncomputable def KEnumT (e it : Addr) (h : Heap) (N : Addr → Prop) (r : List D) : Prop := ∃ a xs ds i old, i ≤ ds.length ∧ IsEnum h e it (i : Nat) old ∧ IsTupIter h it a i ∧ PlainTup h a xs ∧ ¬ N a ∧ Reps h N ds xs.toList ∧ r = (ds.zipIdx.drop i).map fun p => D.tup [.int (p.2 : Nat), p.1]

section
variable {prog : Program} {w : World} {A : Around}

theorem feedsList (hh : A.handled = none) (t : PySem.Expr) (I : Addr) : Feeds prog w A t (fun x => x = I) I (KList I) where
  move h h' N N' r K hJ hk := by
    obtain ⟨a, xs, ds, i, h1, ⟨n, e⟩, h3, h4, rfl⟩ := K
    exact ⟨a, xs, ds, i, h1.at fun o e => hJ _ o rfl e, ⟨n, (hk _ _ h3 e).2⟩, (hk _ _ h3 e).1, Reps.move hk _ _ h4, rfl⟩
  live h N r K a ha := by obtain ⟨a, xs, ds, i, ⟨o, ho, _⟩, _⟩ := K; exact ⟨o, ha ▸ ho⟩
  item s N x r Qn Q E K hN hl hQ := by
    obtain ⟨a, xs, ds, i, h1, h2, h3, h4, e⟩ := K
    obtain ⟨e1, e2⟩ := drop_cons e.symm
    obtain ⟨v, hv, rv⟩ := h4.get e1
    have ne : a ≠ I := fun q => h3 (hN a q)
    refine wpAny_pyNext_list_item h1 h2.isList (x := v) (by simpa using hv) fun h' hit hs => ?_
    have hk : ∀ y o, ¬ N y → s.heap.get? y = some o → ¬ N y ∧ h'.get? y = some o := fun y o n e => ⟨n, hs.extBut y o (fun q => n (hN y q)) e⟩
    obtain ⟨o, ho, hc, hd⟩ := id hit
    refine letGo_other (s := { s with heap := h' }) ho hc hd (by decide) (hQ v _ ?_ (Rep.move hk _ _ rv) ⟨⟨h', s.toks, rfl⟩, extOf hs.extBut rfl⟩)
    exact ⟨a, xs, ds, i + 1, hit, h2.extBut hs.extBut ne, h3, Reps.move hk _ _ h4, e2.symm⟩
  done s N Qn Q E K hQ := by
    obtain ⟨a, xs, ds, i, h1, h2, h3, h4, e⟩ := K
    have e1 := drop_nil e.symm
    have e2 : xs[i]? = none := by
      have := h4.length
      rw [Array.length_toList] at this
      rw [List.getElem?_eq_none_iff] at e1
      rw [Array.getElem?_eq_none_iff]; omega
    exact wpAny_pyNext_list_end hh h1 h2.isList e2 fun h' he => hQ _ ⟨⟨h', s.toks, rfl⟩, extOf he rfl⟩

theorem feedsTup (hh : A.handled = none) (t : PySem.Expr) (I : Addr) : Feeds prog w A t (fun x => x = I) I (KTup I) where
  move h h' N N' r K hJ hk := by
    obtain ⟨a, xs, ds, i, ⟨o, ho, r⟩, ⟨n, e⟩, h3, h4, rfl⟩ := K
    exact ⟨a, xs, ds, i, ⟨o, hJ _ _ rfl ho, r⟩, ⟨n, (hk _ _ h3 e).2⟩, (hk _ _ h3 e).1, Reps.move hk _ _ h4, rfl⟩
  live h N r K a ha := by obtain ⟨a, xs, ds, i, ⟨o, ho, _⟩, _⟩ := K; exact ⟨o, ha ▸ ho⟩
  item s N x r Qn Q E K hN hl hQ := by
    obtain ⟨a, xs, ds, i, h1, ⟨n, h2⟩, h3, h4, e⟩ := K
    obtain ⟨e1, e2⟩ := drop_cons e.symm
    obtain ⟨v, hv, rv⟩ := h4.get e1
    have ne : a ≠ I := fun q => h3 (hN a q)
    refine next_tuple_item h1 (PlainTup.isTup ⟨n, h2⟩) (x := v) (by simpa using hv) fun h' hit hs => ?_
    have hk : ∀ y o, ¬ N y → s.heap.get? y = some o → ¬ N y ∧ h'.get? y = some o := fun y o n e => ⟨n, hs.extBut y o (fun q => n (hN y q)) e⟩
    obtain ⟨o, ho, hc, hd⟩ := id hit
    refine letGo_other (s := { s with heap := h' }) ho hc hd (by decide) (hQ v _ ?_ (Rep.move hk _ _ rv) ⟨⟨h', s.toks, rfl⟩, extOf hs.extBut rfl⟩)
    exact ⟨a, xs, ds, i + 1, hit, ⟨n, hs.extBut _ _ ne h2⟩, h3, Reps.move hk _ _ h4, e2.symm⟩
  done s N Qn Q E K hQ := by
    obtain ⟨a, xs, ds, i, h1, h2, h3, h4, e⟩ := K
    have e1 := drop_nil e.symm
    have e2 : xs[i]? = none := by
      have := h4.length
      rw [Array.length_toList] at this
      rw [List.getElem?_eq_none_iff] at e1
      rw [Array.getElem?_eq_none_iff]; omega
    exact next_tuple_end hh h1 h2.isTup e2 fun h' he => hQ _ ⟨⟨h', s.toks, rfl⟩, extOf he rfl⟩

theorem feedsRange (hh : A.handled = none) (t : PySem.Expr) (I : Addr) : Feeds prog w A t (fun x => x = I) I (KRange I) where
  move h h' N N' r K hJ hk := by
    obtain ⟨x, step, n, h1, rfl⟩ := K
    exact ⟨x, step, n, hJ _ _ rfl h1, rfl⟩
  live h N r K a ha := by obtain ⟨x, step, n, h1, _⟩ := K; exact ⟨_, ha ▸ h1⟩
  item s N x r Qn Q E K hN hl hQ := by
    obtain ⟨y, step, n, h1, e⟩ := K
    cases n with
    | zero => cases e
    | succ n =>
      rw [List.range_succ_eq_map, List.map_cons, List.map_map] at e
      cases e
      refine wpAny_pyNext_range_item h1 (by omega) fun h' hit hs => ?_
      have hk : ∀ y o, ¬ N y → s.heap.get? y = some o → ¬ N y ∧ h'.get? y = some o := fun y o n e => ⟨n, hs.extBut y o (fun q => n (hN y q)) e⟩
      refine letGo_other (s := { s with heap := h', toks := s.toks + 1 }) hit rfl rfl (by decide) (hQ _ _ ?_ ⟨s.toks, by simp⟩ ⟨⟨h', s.toks + 1, rfl⟩, extOf hs.extBut rfl⟩)
      refine ⟨y + step, step, n, ?_, ?_⟩
      · rw [show ((n : Nat) : Int) = ((n + 1 : Nat) : Int) - 1 by omega]; exact hit
      · apply List.map_congr_left
        intro k _
        show D.int _ = D.int _
        congr 1
        rw [Int.natCast_succ, Int.add_mul, Int.one_mul]; omega
  done s N Qn Q E K hQ := by
    obtain ⟨y, step, n, h1, e⟩ := K
    have : n = 0 := by
      cases n with
      | zero => rfl
      | succ n => rw [List.range_succ_eq_map] at e; cases e
    subst this
    exact wpAny_pyNext_range_end hh h1 (by simp) fun h' he => hQ _ ⟨⟨h', s.toks, rfl⟩, extOf he rfl⟩

theorem map_drop_cons {ds : List D} {i : Nat} {x : D} {r : List D} (e : x :: r = (ds.zipIdx.drop i).map fun p => D.tup [.int (p.2 : Nat), p.1]) : ∃ d, ds[i]? = some d ∧ x = D.tup [.int (i : Nat), d] ∧ r = (ds.zipIdx.drop (i + 1)).map fun p => D.tup [.int (p.2 : Nat), p.1] := by
  cases q : ds.zipIdx.drop i with
  | nil => rw [q] at e; cases e
  | cons p ps =>
    rw [q] at e
    cases e
    obtain ⟨e1, e2⟩ := drop_cons q
    rw [List.getElem?_zipIdx] at e1
    cases z : ds[i]? with
    | none => rw [z] at e1; cases e1
    | some d =>
      rw [z] at e1
      cases e1
      exact ⟨d, rfl, by simp, by rw [e2]⟩
theorem map_drop_nil {ds : List D} {i : Nat} (e : [] = (ds.zipIdx.drop i).map fun p => D.tup [.int (p.2 : Nat), p.1]) : ds.length ≤ i := by
  have := List.map_eq_nil_iff.mp e.symm
  simpa using this

theorem feedsEnumL (hh : A.handled = none) (es : List PySem.Expr) (k : Nat) (p : Pos) (e it : Addr) (hne : e ≠ it) : Feeds prog w A (.Tuple es k p) (fun x => x = e ∨ x = it) e (KEnumL e it) where
  move h h' N N' r K hJ hk := by
    obtain ⟨a, xs, ds, i, old, h0, h1, ⟨n, e⟩, h3, h4, rfl⟩ := K
    exact ⟨a, xs, ds, i, old, hJ _ _ (.inl rfl) h0, h1.at fun o e => hJ _ o (.inr rfl) e, ⟨n, (hk _ _ h3 e).2⟩, (hk _ _ h3 e).1, Reps.move hk _ _ h4, rfl⟩
  live h N r K a ha := by
    obtain ⟨a, xs, ds, i, old, h0, ⟨o, ho, _⟩, _⟩ := K
    rcases ha with rfl | rfl
    · exact ⟨_, h0⟩
    · exact ⟨o, ho⟩
  item s N x r Qn Q E K hN hl hQ := by
    obtain ⟨a, xs, ds, i, old, h0, h1, h2, h3, h4, q⟩ := K
    obtain ⟨d, e1, rfl, rfl⟩ := map_drop_cons q
    obtain ⟨v, hv, rv⟩ := h4.get e1
    have ne1 : a ≠ e := fun z => h3 (hN a (.inl z))
    have ne2 : a ≠ it := fun z => h3 (hN a (.inr z))
    refine wpAny_pyNext_enum_item h0 h1 h2.isList (x := v) (by simpa using hv) hne fun h₁ heo hit ht hz hk₁ => ?_
    refine wpAny_letOwnedTupleGo_enum heo fun h₂ he₂ hs₂ => ?_
    replace hs₂ : Heap.SameBut e h₁ h₂ := hs₂
    have hk : ∀ y o, ¬ N y → s.heap.get? y = some o → ¬ N y ∧ h₂.get? y = some o := fun y o n z =>
      ⟨n, hs₂.extBut y o (fun q => n (hN y (.inl q))) (hk₁ y o (fun q => n (hN y (.inl q))) (fun q => n (hN y (.inr q))) z)⟩
    have sz : s.heap.objs.size ≠ e := fun z => Nat.lt_irrefl _ (by have := Heap.lt_size h0; rw [← z] at this; exact this)
    have nN : ¬ N s.heap.objs.size := fun z => by obtain ⟨o, ho⟩ := hl _ z; exact Nat.lt_irrefl _ (Heap.lt_size ho)
    refine hQ _ _ ?_ ⟨_, #[.int i s.toks, v], rfl, nN, ⟨0, hs₂.extBut _ _ sz ht⟩, ⟨_, _, rfl, ⟨_, rfl⟩, Reps.one (Rep.move hk _ _ rv)⟩⟩ ⟨⟨h₂, s.toks + 1, rfl⟩, fun y o n z => hs₂.extBut y o (fun q => n (.inl q)) (hk₁ y o (fun q => n (.inl q)) (fun q => n (.inr q)) z)⟩
    refine ⟨a, xs, ds, i + 1, v, he₂, ?_, ?_, h3, Reps.move hk _ _ h4, rfl⟩
    · exact hit.at fun o z => hs₂.extBut it o (Ne.symm hne) z
    · obtain ⟨n, z⟩ := h2
      exact ⟨n, (hk _ _ h3 z).2⟩
  done s N Qn Q E K hQ := by
    obtain ⟨a, xs, ds, i, old, h0, h1, h2, h3, h4, q⟩ := K
    have e1 := map_drop_nil q
    have e2 : xs[i]? = none := by
      have := h4.length
      rw [Array.length_toList] at this
      rw [Array.getElem?_eq_none_iff]; (clear hne; omega)
    exact wpAny_pyNext_enum_end hh h0 h1 h2.isList e2 fun h' he => hQ _ ⟨⟨h', s.toks, rfl⟩, extOf he (.inr rfl)⟩

theorem feedsEnumT (hh : A.handled = none) (es : List PySem.Expr) (k : Nat) (p : Pos) (e it : Addr) (hne : e ≠ it) : Feeds prog w A (.Tuple es k p) (fun x => x = e ∨ x = it) e (KEnumT e it) where
  move h h' N N' r K hJ hk := by
    obtain ⟨a, xs, ds, i, old, hi, h0, ⟨o, ho, r⟩, ⟨n, e⟩, h3, h4, rfl⟩ := K
    exact ⟨a, xs, ds, i, old, hi, hJ _ _ (.inl rfl) h0, ⟨o, hJ _ o (.inr rfl) ho, r⟩, ⟨n, (hk _ _ h3 e).2⟩, (hk _ _ h3 e).1, Reps.move hk _ _ h4, rfl⟩
  live h N r K a ha := by
    obtain ⟨a, xs, ds, i, old, _, h0, ⟨o, ho, _⟩, _⟩ := K
    rcases ha with rfl | rfl
    · exact ⟨_, h0⟩
    · exact ⟨o, ho⟩
  item s N x r Qn Q E K hN hl hQ := by
    obtain ⟨a, xs, ds, i, old, hi, h0, h1, ⟨n, h2⟩, h3, h4, q⟩ := K
    obtain ⟨d, e1, rfl, rfl⟩ := map_drop_cons q
    obtain ⟨v, hv, rv⟩ := h4.get e1
    have ne1 : a ≠ e := fun z => h3 (hN a (.inl z))
    have ne2 : a ≠ it := fun z => h3 (hN a (.inr z))
    have hv' : xs[i]? = some v := by simpa using hv
    have hlt : i < xs.size := (Array.getElem?_eq_some_iff.mp hv').1
    refine wpAny_pyNext_enum_itemD (drawsTuple (A := A.in1) hh it a ne2 xs) h0 ⟨h1, PlainTup.isTup ⟨n, h2⟩⟩ hlt hne (by simp [hne, Ne.symm ne1]) fun x h₁ tk hx heo hit ht hz hk₁ => ?_
    rw [hv'] at hx
    cases hx
    refine wpAny_letOwnedTupleGo_enum heo fun h₂ he₂ hs₂ => ?_
    replace hs₂ : Heap.SameBut e h₁ h₂ := hs₂
    have hk : ∀ y o, ¬ N y → s.heap.get? y = some o → ¬ N y ∧ h₂.get? y = some o := fun y o n z =>
      ⟨n, hs₂.extBut y o (fun q => n (hN y (.inl q))) (hk₁ y o (fun q => n (hN y (.inl q))) (fun q => n (hN y (.inr q))) z)⟩
    have sz : s.heap.objs.size ≠ e := fun z => Nat.lt_irrefl _ (by have := Heap.lt_size h0; rw [← z] at this; exact this)
    have nN : ¬ N s.heap.objs.size := fun z => by obtain ⟨o, ho⟩ := hl _ z; exact Nat.lt_irrefl _ (Heap.lt_size ho)
    refine hQ _ _ ?_ ⟨_, #[.int i tk, v], rfl, nN, ⟨0, hs₂.extBut _ _ sz ht⟩, ⟨_, _, rfl, ⟨_, rfl⟩, Reps.one (Rep.move hk _ _ rv)⟩⟩ ⟨⟨h₂, tk + 1, rfl⟩, fun y o n z => hs₂.extBut y o (fun q => n (.inl q)) (hk₁ y o (fun q => n (.inl q)) (fun q => n (.inr q)) z)⟩
    refine ⟨a, xs, ds, i + 1, v, by have := h4.length; rw [Array.length_toList] at this; (clear hne hi ne1 ne2 hz sz; omega), he₂, ?_, ⟨n, (hk _ _ h3 h2).2⟩, h3, Reps.move hk _ _ h4, rfl⟩
    obtain ⟨⟨o, ho, r⟩, _⟩ := hit
    exact ⟨o, hs₂.extBut it o (Ne.symm hne) ho, r⟩
  done s N Qn Q E K hQ := by
    obtain ⟨a, xs, ds, i, old, hi, h0, h1, h2, h3, h4, q⟩ := K
    have e1 := map_drop_nil q
    have := h4.length
    rw [Array.length_toList] at this
    have ne2 : a ≠ it := by
      rintro rfl
      obtain ⟨o, ho, hc, _⟩ := h1
      obtain ⟨n, e⟩ := h2
      rw [e] at ho; cases ho; simp at hc
    have hi' : i = xs.size := by (clear hne ne2; omega)
    subst hi'
    exact wpAny_pyNext_enum_endD (drawsTuple (A := A.in1) hh it a ne2 xs) h0 ⟨h1, h2.isTup⟩ fun h' he => hQ _ ⟨⟨h', s.toks, rfl⟩, extOf he (.inr rfl)⟩
end
end Mine
namespace Mine

theorem Step.transO {O : Addr → Prop} {σ σ' σ'' : Store} {s s' s'' : Shared} (x : Step (fun a => σ.has a ∨ O a) σ s σ' s') (y : Step (fun a => σ'.has a ∨ O a) σ' s' σ'' s'') (live : ∀ a, O a → ∃ o, s'.heap.get? a = some o) : Step (fun a => σ.has a ∨ O a) σ s σ'' s'' where
  same := by
    obtain ⟨h, t, rfl⟩ := x.same
    obtain ⟨h', t', rfl⟩ := y.same
    exact ⟨h', t', rfl⟩
  ext a o n e := by
    have e1 := x.ext a o n e
    refine y.ext a o (fun q => ?_) e1
    rcases q with q | q
    · rcases x.fresh a q with q | q
      · exact n (.inl q)
      · rw [e] at q; cases q
    · exact n (.inr q)
  fresh a h := by
    rcases y.fresh a h with h | h
    · exact x.fresh a h
    · by_cases q : σ.has a
      · exact .inl q
      · refine .inr ?_
        cases e : s.heap.get? a with
        | none => rfl
        | some o =>
          by_cases q' : O a
          · obtain ⟨o', e'⟩ := live a q'; rw [e'] at h; cases h
          · rw [x.ext a o (fun z => z.elim q q') e] at h; cases h

noncomputable def loopK (k : Vars → Store → Prop) (Q : Fl → Vars → Store → Prop) : Fl → Vars → Store → Prop
  | .next, Γ, σ => k Γ σ
  | .cont, Γ, σ => k Γ σ
  | .brk, Γ, σ => Q .next Γ σ
  | .ret d, Γ, σ => Q (.ret d) Γ σ

section
variable (M : Model) (b : Heap)
noncomputable def Loop (C : Cx) (t : PySem.Expr) (body : List Stmt) (Q : Fl → Vars → Store → Prop) : List D → Vars → Store → Prop
  | [], Γ, σ => Q .next Γ σ
  | x :: xs, Γ, σ => WA M b C t x Γ σ fun Γ1 σ1 => WS M b C body Γ1 σ1 (loopK (fun Γ' σ' => Loop C t body Q xs Γ' σ') Q)
noncomputable def LoopW (C : Cx) (t : PySem.Expr) (body : List Stmt) (Q : Fl → Vars → Store → Prop) : Nat → Vars → Store → Prop
  | 0, _, _ => False
  | n + 1, Γ, σ => WT M b C t Γ σ fun c σ1 => (c = true → WS M b C body Γ σ1 (loopK (fun Γ' σ' => LoopW C t body Q n Γ' σ') Q)) ∧ (c = false → Q .next Γ σ1)
end

theorem St.weakX {b : Heap} {C : Cx} {X Y : Addr → Prop} {m : Str → Option Value} {Γ : Vars} {σ : Store} {s : Shared} (S : St b C Y m Γ σ s) (h : ∀ a, X a → Y a) : St b C X m Γ σ s := by
  have sub : ∀ a, C.rx X σ a → C.rx Y σ a := fun a q => by
    rcases q with q | q | q
    · exact .inl q
    · exact .inr (.inl q)
    · exact .inr (.inr (h a q))
  have hk : ∀ a o, ¬ C.rx Y σ a → s.heap.get? a = some o → ¬ C.rx X σ a ∧ s.heap.get? a = some o := fun a o n e => ⟨fun q => n (sub a q), e⟩
  exact { S with
    vars := fun x d e => by obtain ⟨v, h1, h2⟩ := S.vars x d e; exact ⟨v, h1, Rep.move hk _ _ h2⟩
    store := ⟨fun a ds e => by obtain ⟨xs, h1, h2⟩ := S.store.at' a ds e; exact ⟨xs, h1, Reps.move hk _ _ h2⟩, S.store.nodup⟩
    apartX := fun a q z => S.apartX a q (h a z)
    live := fun a q => S.live a (sub a q) }
theorem Rep.weakX {C : Cx} {X Y : Addr → Prop} {σ : Store} {h : Heap} {d : D} {v : Value} (r : Rep h (C.rx Y σ) d v) (hx : ∀ a, X a → Y a) : Rep h (C.rx X σ) d v :=
  Rep.move (fun a o n e => ⟨fun q => n (by
    rcases q with q | q | q
    · exact .inl q
    · exact .inr (.inl q)
    · exact .inr (.inr (hx a q))), e⟩) d v r
theorem St.moreX {b : Heap} {C : Cx} {X J : Addr → Prop} {m : Str → Option Value} {Γ : Vars} {σ : Store} {s s' : Shared} (S : St b C X m Γ σ s)
    (hk : ∀ a o, s.heap.get? a = some o → s'.heap.get? a = some o) (hn : ∀ a, J a → s.heap.get? a = none) (hl : ∀ a, J a → ∃ o, s'.heap.get? a = some o) : St b C (fun a => X a ∨ J a) m Γ σ s' := by
  have hk' : ∀ a o, ¬ C.rx X σ a → s.heap.get? a = some o → ¬ C.rx (fun a => X a ∨ J a) σ a ∧ s'.heap.get? a = some o := fun a o n e => ⟨fun q => by
    rcases q with q | q | q | q
    · exact n (.inl q)
    · exact n (.inr (.inl q))
    · exact n (.inr (.inr q))
    · rw [hn a q] at e; exact (nomatch e), hk a o e⟩
  have S1 : St b C X m Γ σ s' := S.grow hk
  exact { S1 with
    vars := fun x d e => by
      obtain ⟨v, h1, h2⟩ := S.vars x d e
      refine ⟨v, ?_, Rep.move hk' _ _ h2⟩
      rcases h1 with h1 | ⟨h1, c, h3, h4⟩
      · exact .inl h1
      · exact .inr ⟨h1, c, h3, h4.keeps hk⟩
    store := ⟨fun a ds e => by obtain ⟨xs, h1, h2⟩ := S.store.at' a ds e; exact ⟨xs, h1.at fun o => hk a o, Reps.move hk' _ _ h2⟩, S.store.nodup⟩
    apartX := fun a q z => z.elim (S.apartX a q) fun z => by obtain ⟨o, e⟩ := S.live a (.inl q); rw [hn a z] at e; cases e
    live := fun a q => by
      rcases q with q | q | q | q
      · exact S1.live a (.inl q)
      · exact S1.live a (.inr (.inl q))
      · exact S1.live a (.inr (.inr q))
      · exact hl a q }

theorem St.only {b : Heap} {C : Cx} {X J : Addr → Prop} {m : Str → Option Value} {Γ : Vars} {σ : Store} {s s' : Shared} (S : St b C X m Γ σ s) (h : Only J s s') (hX : ∀ a, J a → X a) (hb : ∀ a, J a → b.get? a = none)
    (ho : ∀ a, J a → ¬ C.own a) (hs : ∀ a, J a → ¬ σ.has a) (hl : ∀ a, J a → ∃ o, s'.heap.get? a = some o) : St b C X m Γ σ s' := by
  have hk : ∀ a o, ¬ C.rx X σ a → s.heap.get? a = some o → ¬ C.rx X σ a ∧ s'.heap.get? a = some o := fun a o n e => ⟨n, h.2 a o (fun q => n (.inr (.inr (hX a q)))) e⟩
  have own : ∀ a o, C.own a → s.heap.get? a = some o → s'.heap.get? a = some o := fun a o n e => h.2 a o (fun q => ho a q n) e
  have sto : ∀ a o, σ.has a → s.heap.get? a = some o → s'.heap.get? a = some o := fun a o n e => h.2 a o (fun q => hs a q n) e
  exact { S with
    ns := S.ns.at' fun o e => own _ o (.inl rfl) e
    keep := fun a o e => h.2 a o (fun q => by rw [hb a q] at e; cases e) (S.keep a o e)
    vars := fun x d e => by
      obtain ⟨v, h1, h2⟩ := S.vars x d e
      refine ⟨v, ?_, Rep.move hk _ _ h2⟩
      rcases h1 with h1 | ⟨h1, c, h3, o, h4, h5⟩
      · exact .inl h1
      · exact .inr ⟨h1, c, h3, o, own _ o (.inr (mem_cells h3)) h4, h5⟩
    store := ⟨fun a ds e => by
      obtain ⟨xs, h1, h2⟩ := S.store.at' a ds e
      exact ⟨xs, h1.at fun o z => sto a o (List.mem_map.mpr ⟨_, e, rfl⟩) z, Reps.move hk _ _ h2⟩, S.store.nodup⟩
    cells := fun y c e => by
      obtain ⟨v, o, h1, h2⟩ := S.cells y c e
      exact ⟨v, o, own _ o (.inr ⟨y, e⟩) h1, h2⟩
    live := fun a q => by
      by_cases z : J a
      · exact hl a z
      · obtain ⟨o, e⟩ := S.live a q; exact ⟨o, h.2 a o z e⟩ }

theorem St.onlyOut {b : Heap} {C : Cx} {X J : Addr → Prop} {m : Str → Option Value} {Γ : Vars} {σ : Store} {s s' : Shared} (S : St b C (fun a => X a ∨ J a) m Γ σ s) (h : Only J s s') (hd : ∀ a, J a → ¬ X a) (hb : ∀ a, J a → b.get? a = none)
    (ho : ∀ a, J a → ¬ C.own a) (hs : ∀ a, J a → ¬ σ.has a) : St b C X m Γ σ s' := by
  have sub : ∀ a, C.rx X σ a → C.rx (fun a => X a ∨ J a) σ a := fun a q => by
    rcases q with q | q | q
    · exact .inl q
    · exact .inr (.inl q)
    · exact .inr (.inr (.inl q))
  have hk : ∀ a o, ¬ C.rx (fun a => X a ∨ J a) σ a → s.heap.get? a = some o → ¬ C.rx X σ a ∧ s'.heap.get? a = some o := fun a o n e => ⟨fun q => n (sub a q), h.2 a o (fun q => n (.inr (.inr (.inr q)))) e⟩
  have own : ∀ a o, C.own a → s.heap.get? a = some o → s'.heap.get? a = some o := fun a o n e => h.2 a o (fun q => ho a q n) e
  have sto : ∀ a o, σ.has a → s.heap.get? a = some o → s'.heap.get? a = some o := fun a o n e => h.2 a o (fun q => hs a q n) e
  exact { S with
    ns := S.ns.at' fun o e => own _ o (.inl rfl) e
    keep := fun a o e => h.2 a o (fun q => by rw [hb a q] at e; cases e) (S.keep a o e)
    vars := fun x d e => by
      obtain ⟨v, h1, h2⟩ := S.vars x d e
      refine ⟨v, ?_, Rep.move hk _ _ h2⟩
      rcases h1 with h1 | ⟨h1, c, h3, o, h4, h5⟩
      · exact .inl h1
      · exact .inr ⟨h1, c, h3, o, own _ o (.inr (mem_cells h3)) h4, h5⟩
    store := ⟨fun a ds e => by
      obtain ⟨xs, h1, h2⟩ := S.store.at' a ds e
      exact ⟨xs, h1.at fun o z => sto a o (List.mem_map.mpr ⟨_, e, rfl⟩) z, Reps.move hk _ _ h2⟩, S.store.nodup⟩
    apartX := fun a q z => S.apartX a q (.inl z)
    cells := fun y c e => by
      obtain ⟨v, o, h1, h2⟩ := S.cells y c e
      exact ⟨v, o, own _ o (.inr ⟨y, e⟩) h1, h2⟩
    live := fun a q => by
      obtain ⟨o, e⟩ := S.live a (sub a q)
      refine ⟨o, h.2 a o (fun z => ?_) e⟩
      rcases q with q | q | q
      · exact hs a z q
      · exact ho a z q
      · exact hd a z q }

section
variable {prog : Program} {w : World} {b : Heap} {C : Cx}

noncomputable def LoopEnd (b : Heap) (C : Cx) (X J : Addr → Prop) (σ : Store) (s : Shared) (Q : Fl → Vars → Store → Prop) (r : Result) (s' : Shared) : Prop := match r with
  | .ok fl => ∃ f Γ' σ' m', Q f Γ' σ' ∧ St b C X m' Γ' σ' s' ∧ Fl.rel s'.heap (C.rx X σ') f fl ∧ Step (fun a => σ.has a ∨ (C.own a ∨ J a)) σ s σ' s'
  | .error _ => False

theorem noE_of {α : Type} {A : Around} {t : Sem α} {Q Q' : α → Shared → Prop} {E : Value → Shared → Prop} {s : Shared} (h : wpAny (model prog w) A t Q NoE s) (hQ : ∀ a s, Q a s → Q' a s) : wpAny (model prog w) A t Q' E s := wpAny_mono h hQ fun _ _ e => e.elim

theorem loop_core {X J : Addr → Prop} {m : Str → Option Value} {Γ : Vars} {σ : Store} {s : Shared} {t : PySem.Expr} {body : List Stmt} {I : Addr} {K : Heap → (Addr → Prop) → List D → Prop} {xs : List D} {Q : Fl → Vars → Store → Prop}
    (F : Feeds prog w C.A t J I K) (S : St b C (fun a => X a ∨ J a) m Γ σ s) (hd : ∀ a, J a → ¬ X a) (hb : ∀ a, J a → b.get? a = none) (ho : ∀ a, J a → ¬ C.own a) (hs : ∀ a, J a → ¬ σ.has a)
    (k : K s.heap (C.rx (fun a => X a ∨ J a) σ) xs) (h : Loop (model prog w) b C t body Q xs Γ σ) :
    codeAny (model prog w) C.A (.forLoop t (.ref I) body [] C.env) (LoopEnd b C X J σ s Q) s := by
  refine codeAny_forLoop_any (fun n s' => ∃ xs' Γ' σ' m', n = xs'.length ∧ Loop (model prog w) b C t body Q xs' Γ' σ' ∧ St b C (fun a => X a ∨ J a) m' Γ' σ' s' ∧ K s'.heap (C.rx (fun a => X a ∨ J a) σ') xs' ∧ (∀ a, J a → ¬ σ'.has a) ∧
    Step (fun a => σ.has a ∨ (C.own a ∨ J a)) σ s σ' s') ?_ xs.length ⟨xs, Γ, σ, m, rfl, h, S, k, hs, Step.refl _ _ _⟩
  rintro n s' ⟨xs', Γ', σ', m', rfl, h', S', k', hs', x'⟩
  have hN : ∀ a, J a → C.rx (fun a => X a ∨ J a) σ' a := fun a q => .inr (.inr (.inr q))
  have ownJ : ∀ {σ1 : Store} {s1 : Shared} {m1 : Str → Option Value} {Γ1 : Vars}, St b C (fun a => X a ∨ J a) m1 Γ1 σ1 s1 → ∀ a, C.own a ∨ J a → ∃ o, s1.heap.get? a = some o := fun S1 a q => q.elim (fun q => S1.live a (.inr (.inl q))) fun q => S1.live a (.inr (.inr (.inr q)))
  have stepOnly : ∀ {σ1 : Store} {s1 s2 : Shared}, Only J s1 s2 → Step (fun a => σ1.has a ∨ (C.own a ∨ J a)) σ1 s1 σ1 s2 := fun q => ⟨q.1, fun a o n e => q.2 a o (fun z => n (.inr (.inr z))) e, fun _ z => .inl z⟩
  cases xs' with
  | nil =>
    refine noE_of (F.done s' _ (fun s₁ => Only J s' s₁) (fun _ _ => False) NoE k' fun s₁ o => o) (fun r s₁ q => ?_)
    cases r with
    | none =>
      have q : Only J s' s₁ := q
      exact wpAny_execs_nil ⟨.next, Γ', σ', m', h', S'.onlyOut q hd hb ho hs', rfl, x'.transO (stepOnly q) (ownJ S')⟩
    | some v => exact wpAny_mono q (fun _ _ f => f.elim) fun _ _ f => f.elim
  | cons x xs' =>
    refine noE_of (F.item s' _ x xs' (fun _ => False) (fun v s₂ => K s₂.heap (C.rx (fun a => X a ∨ J a) σ') xs' ∧ Rep s₂.heap (C.rx (fun a => X a ∨ J a) σ') x v ∧ Only J s' s₂) NoE k' hN (fun a q => S'.live a q) fun v s₂ a b c => ⟨a, b, c⟩) (fun r s₁ q => ?_)
    cases r with
    | none => exact q.elim
    | some v =>
      refine noE_of q fun _ s₂ q => ?_
      obtain ⟨k2, r2, o2⟩ := q
      have S2 := S'.only o2 (fun a q => .inr q) hb ho hs' (F.live _ _ _ k2)
      have x2 := x'.transO (stepOnly o2) (ownJ S')
      refine noE_of (h' _ s₂ m' v S2 r2) fun _ s₃ q => ?_
      obtain ⟨Γ3, σ3, m3, h3, S3, y3⟩ := q
      have hs3 : ∀ a, J a → ¬ σ3.has a := fun a q z => by
        rcases y3.fresh a z with z | z
        · exact hs' a q z
        · obtain ⟨o, e⟩ := F.live _ _ _ k2 a q; rw [e] at z; cases z
      have nJ : ∀ {σ1 : Store}, (∀ a, J a → ¬ σ1.has a) → ∀ a, J a → ¬ C.ex σ1 a := fun hz a q z => z.elim (hz a q) (ho a q)
      have k3 := F.move _ s₃.heap _ (C.rx (fun a => X a ∨ J a) σ3) _ k2 (fun a o q e => y3.ext a o (nJ hs' a q) e) (fun a o n e => ⟨fun z => by
        rcases z with z | z
        · rcases y3.fresh a z with z | z
          · exact n (.inl z)
          · rw [e] at z; cases z
        · exact n (.inr z), y3.ext a o (fun z => n (ex_rx a z)) e⟩)
      have wide : ∀ {σ1 σ2 : Store} {s1 s2 : Shared}, Step (C.ex σ1) σ1 s1 σ2 s2 → Step (fun a => σ1.has a ∨ (C.own a ∨ J a)) σ1 s1 σ2 s2 := fun y => y.wider fun a q => q.elim .inl fun q => .inr (.inl q)
      have x3 := x2.transO (wide y3) (ownJ S2)
      refine noE_of (h3 _ s₃ m3 S3) fun fl s₄ q => ?_
      obtain ⟨f, Γ4, σ4, m4, h4, S4, r4, y4⟩ := q
      have x4 := x3.transO (wide y4) (ownJ S3)
      have hs4 : ∀ a, J a → ¬ σ4.has a := fun a q z => by
        rcases y4.fresh a z with z | z
        · exact hs3 a q z
        · obtain ⟨o, e⟩ := F.live _ _ _ k3 a q; rw [e] at z; cases z
      have k4 := F.move _ s₄.heap _ (C.rx (fun a => X a ∨ J a) σ4) _ k3 (fun a o q e => y4.ext a o (nJ hs3 a q) e) (fun a o n e => ⟨fun z => by
        rcases z with z | z
        · rcases y4.fresh a z with z | z
          · exact n (.inl z)
          · rw [e] at z; cases z
        · exact n (.inr z), y4.ext a o (fun z => n (ex_rx a z)) e⟩)
      cases f with
      | next => have r4 : fl = .next := r4; subst r4; exact ⟨xs'.length, by simp, xs', Γ4, σ4, m4, rfl, h4, S4, k4, hs4, x4⟩
      | cont => have r4 : fl = .cont := r4; subst r4; exact ⟨xs'.length, by simp, xs', Γ4, σ4, m4, rfl, h4, S4, k4, hs4, x4⟩
      | brk => have r4 : fl = .brk := r4; subst r4; exact ⟨.next, Γ4, σ4, m4, h4, S4.weakX fun a q => .inl q, rfl, x4⟩
      | ret d =>
        obtain ⟨v, rfl, r4⟩ := r4
        exact ⟨.ret d, Γ4, σ4, m4, h4, S4.weakX fun a q => .inl q, ⟨v, rfl, r4.weakX fun a q => .inl q⟩, x4⟩

theorem while_core {X : Addr → Prop} {Γ : Vars} {σ : Store} {s : Shared} {m : Str → Option Value} {t : PySem.Expr} {body : List Stmt} {Q : Fl → Vars → Store → Prop} (n : Nat) (S : St b C X m Γ σ s) (h : LoopW (model prog w) b C t body Q n Γ σ) :
    codeAny (model prog w) C.A (.whileLoop t body [] C.env) (fun r s' => match r with | .ok fl => PostS b C X σ s Q fl s' | .error _ => False) s := by
  refine codeAny_whileLoop (fun n s' => ∃ Γ' σ' m', LoopW (model prog w) b C t body Q n Γ' σ' ∧ St b C X m' Γ' σ' s' ∧ Step (C.ex σ) σ s σ' s') ?_ n ⟨Γ, σ, m, h, S, Step.refl _ _ _⟩
  rintro n s' ⟨Γ', σ', m', h', S', x'⟩
  cases n with
  | zero => exact h'.elim
  | succ n =>
    refine noE_of (h' _ s' m' S') fun c s₁ q => ?_
    obtain ⟨σ1, ⟨h1, h2⟩, S1, x1⟩ := q
    have x01 := x'.transX (x1.wider has_ex) S'.ownLive
    cases c with
    | false => exact wpAny_execs_nil ⟨.next, Γ', σ1, m', h2 rfl, S1, rfl, x01⟩
    | true =>
      simp only [if_true]
      refine noE_of (h1 rfl _ s₁ m' S1) fun fl s₂ q => ?_
      obtain ⟨f, Γ2, σ2, m2, h3, S2, r2, x2⟩ := q
      have x02 := x01.transX x2 S1.ownLive
      cases f with
      | next => have r2 : fl = .next := r2; subst r2; exact ⟨n, Nat.lt_succ_self n, Γ2, σ2, m2, h3, S2, x02⟩
      | cont => have r2 : fl = .cont := r2; subst r2; exact ⟨n, Nat.lt_succ_self n, Γ2, σ2, m2, h3, S2, x02⟩
      | brk => have r2 : fl = .brk := r2; subst r2; exact ⟨.next, Γ2, σ2, m2, h3, S2, rfl, x02⟩
      | ret d =>
        obtain ⟨v, rfl, r2⟩ := r2
        exact ⟨.ret d, Γ2, σ2, m2, h3, S2, ⟨v, rfl, r2⟩, x02⟩

theorem WX.while {t : PySem.Expr} {body : List Stmt} {pos : Pos} {Γ : Vars} {σ : Store} {Q : Fl → Vars → Store → Prop} (h : ∃ n, LoopW (model prog w) b C t body Q n Γ σ) : WX (model prog w) b C (.While t body [] pos) Γ σ Q := fun X s m S => by
  obtain ⟨n, h⟩ := h
  refine wpAny_While (codeAny_mono (while_core n S h) fun r s' q => ?_)
  cases r with
  | ok fl => exact q
  | error e => exact q.elim

inductive Items : D → List D → Prop where
  | list (l : List D) : Items (.list l) l
  | tup (l : List D) : Items (.tup l) l
  | range (a b c : Int) : Builtin.Range.small a b c = true → Items (.range a b c) ((List.range (Builtin.Range.rangeSize a b c).toNat).map fun (k : Nat) => D.int (a + k * c))

theorem wp_iter {X : Addr → Prop} {m : Str → Option Value} {Γ : Vars} {σ : Store} {s : Shared} {d : D} {v : Value} {xs : List D} {A : Around} {E : Value → Shared → Prop} {Q : Value → Shared → Prop} (hi : Items d xs) (S : St b C X m Γ σ s) (r : Rep s.heap (C.rx X σ) d v) (hu : A.handled = none)
    (h : ∀ s' I J K, (∀ t, Feeds prog w A t J I K) → (∀ (s' : Shared) (N : Addr → Prop) (r : List D) (Q : Value → Shared → Prop) (E : Value → Shared → Prop), K s'.heap N r → Q (.ref I) s' → wpAny (model prog w) A (pyIter (.ref I)) Q E s') → (∀ a, J a → s.heap.get? a = none) → St b C (fun a => X a ∨ J a) m Γ σ s' → (∀ a o, s.heap.get? a = some o → s'.heap.get? a = some o) → (∃ h' tk, s' = { s with heap := h', toks := tk }) →
      K s'.heap (C.rx (fun a => X a ∨ J a) σ) xs → Q (.ref I) s') : wpAny (model prog w) A (pyIter v) Q E s := by
  have fresh : s.heap.get? s.heap.objs.size = none := by
    cases e : s.heap.get? s.heap.objs.size with
    | none => rfl
    | some o => exact absurd (Heap.lt_size e) (Nat.lt_irrefl _)
  have push : ∀ (o : Obj), o.isFreed = false → St b C (fun a => X a ∨ a = s.heap.objs.size) m Γ σ { s with heap := s.heap.push o } ∧ ∀ a o', ¬ C.rx X σ a → s.heap.get? a = some o' → ¬ C.rx (fun a => X a ∨ a = s.heap.objs.size) σ a ∧ (s.heap.push o).get? a = some o' := fun o ho =>
    ⟨S.moreX (fun _ _ e => Heap.get?_push_of_some _ e) (fun a q => q ▸ fresh) (fun a q => ⟨o, q ▸ Heap.get?_push_size _ ho⟩), fun a o' n e => ⟨fun q => by
      rcases q with q | q | q | q
      · exact n (.inl q)
      · exact n (.inr (.inl q))
      · exact n (.inr (.inr q))
      · subst q; rw [fresh] at e; exact (nomatch e), Heap.get?_push_of_some _ e⟩⟩
  cases hi with
  | list l =>
    obtain ⟨a, ys, rfl, na, ⟨n, e⟩, ra⟩ := r
    refine wpAny_pyIter_list (Heap.PlainList.isList ⟨n, e⟩) ?_
    obtain ⟨S1, hk⟩ := push { cls := .type "list_iterator", data := .fields #[.ref a, .int 0 0] } rfl
    exact h _ _ _ _ (fun t => feedsList hu t _) (fun _ _ _ _ _ k q => by obtain ⟨_, _, _, _, h1, _⟩ := k; exact wpAny_pyIter_listiter h1 q) (fun a q => q ▸ fresh) S1 (fun _ _ e => Heap.get?_push_of_some _ e) ⟨_, _, rfl⟩ ⟨a, ys, _, 0, ⟨_, Heap.get?_push_size _ rfl, rfl, rfl⟩, ⟨n, (hk _ _ na e).2⟩, (hk _ _ na e).1, Reps.move hk _ _ ra, rfl⟩
  | tup l =>
    obtain ⟨a, ys, rfl, na, ⟨n, e⟩, ra⟩ := r
    refine iter_tuple (PlainTup.isTup ⟨n, e⟩) ?_
    obtain ⟨S1, hk⟩ := push { cls := .type "tuple_iterator", data := .fields #[.ref a, .int 0 0] } rfl
    exact h _ _ _ _ (fun t => feedsTup hu t _) (fun _ _ _ _ _ k q => by obtain ⟨_, _, _, _, h1, _⟩ := k; exact wpAny_pyIter_tupleiter h1 q) (fun a q => q ▸ fresh) S1 (fun _ _ e => Heap.get?_push_of_some _ e) ⟨_, _, rfl⟩ ⟨a, ys, _, 0, ⟨_, Heap.get?_push_size _ rfl, rfl, rfl⟩, ⟨n, (hk _ _ na e).2⟩, (hk _ _ na e).1, Reps.move hk _ _ ra, rfl⟩
  | range x y z hsm =>
    obtain ⟨a, t1, t2, t3, rfl, na, hr⟩ := r
    refine wpAny_pyIter_range hr hsm ?_
    obtain ⟨S1, hk⟩ := push { cls := .type "range_iterator", data := .fields #[rawInt x, rawInt (Builtin.Range.rangeSize x y z), rawInt z] } rfl
    have hz : 0 ≤ Builtin.Range.rangeSize x y z := by
      unfold Builtin.Range.rangeSize
      split
      · split
        · refine Int.add_nonneg (Int.ediv_nonneg ?_ ?_) (by decide) <;> omega
        · exact Int.le_refl _
      · split
        · refine Int.add_nonneg (Int.ediv_nonneg ?_ ?_) (by decide) <;> omega
        · exact Int.le_refl _
    exact h _ _ _ _ (fun t => feedsRange hu t _) (fun _ _ _ _ _ k q => by obtain ⟨_, _, _, h1, _⟩ := k; exact wpAny_pyIter_rangeiter h1 q) (fun a q => q ▸ fresh) S1 (fun _ _ e => Heap.get?_push_of_some _ e) ⟨_, _, rfl⟩ ⟨x, z, _, (by rw [Int.toNat_of_nonneg hz]; exact Heap.get?_push_size _ rfl), rfl⟩

theorem J_out {X : Addr → Prop} {m : Str → Option Value} {Γ : Vars} {σ : Store} {s : Shared} {J : Addr → Prop} (S : St b C X m Γ σ s) (hJ : ∀ a, J a → s.heap.get? a = none) :
    (∀ a, J a → ¬ X a) ∧ (∀ a, J a → b.get? a = none) ∧ (∀ a, J a → ¬ C.own a) ∧ (∀ a, J a → ¬ σ.has a) := by
  have live : ∀ a, J a → ¬ C.rx X σ a := fun a q z => by obtain ⟨o, e⟩ := S.live a z; rw [hJ a q] at e; cases e
  refine ⟨fun a q z => live a q (.inr (.inr z)), fun a q => ?_, fun a q z => live a q (.inr (.inl z)), fun a q z => live a q (.inl z)⟩
  cases e : b.get? a with
  | none => rfl
  | some o => have := S.keep a o e; rw [hJ a q] at this; cases this

theorem LoopEnd.out {X J : Addr → Prop} {σ : Store} {s₀ s : Shared} {Q : Fl → Vars → Store → Prop} {r : Result} {s' : Shared} (h : LoopEnd b C X J σ s Q r s') (hJ : ∀ a, J a → s₀.heap.get? a = none) (hk : ∀ a o, s₀.heap.get? a = some o → s.heap.get? a = some o) (hs : ∃ h' tk, s = { s₀ with heap := h', toks := tk }) :
    match r with | .ok fl => PostS b C X σ s₀ Q fl s' | .error _ => False := by
  cases r with
  | error e => exact h
  | ok fl =>
    obtain ⟨f, Γ', σ', m', q, S, r, x⟩ := h
    refine ⟨f, Γ', σ', m', q, S, r, ⟨?_, fun a o n e => x.ext a o (fun z => ?_) (hk a o e), fun a z => ?_⟩⟩
    · obtain ⟨h1, t1, rfl⟩ := hs
      obtain ⟨h2, t2, rfl⟩ := x.same
      exact ⟨h2, t2, rfl⟩
    · rcases z with z | z | z
      · exact n (.inl z)
      · exact n (.inr z)
      · rw [hJ a z] at e; cases e
    · rcases x.fresh a z with z | z
      · exact .inl z
      · refine .inr ?_
        cases e : s₀.heap.get? a with
        | none => rfl
        | some o => rw [hk a o e] at z; cases z

theorem WX.for {t iter : PySem.Expr} {body : List Stmt} {pos : Pos} {Γ : Vars} {σ : Store} {Q : Fl → Vars → Store → Prop} (ok : C.Ok) (h : WE (model prog w) b C iter Γ σ fun d σ1 => ∃ xs, Items d xs ∧ Loop (model prog w) b C t body Q xs Γ σ1)
    (hs : ∀ x, foldedSetIterable iter C.env x = pure x := by intro _; rfl) : WX (model prog w) b C (.For t iter body [] pos) Γ σ Q := fun X s m S => by
  refine wpAny_For (wpAny_mono (h X s m S) (fun v s₁ p => ?_) fun _ _ x => x) hs
  obtain ⟨d, σ1, ⟨xs, hi, hl⟩, S1, r1, x1⟩ := p
  refine wp_iter (prog := prog) (w := w) hi S1 r1 ok.unheld fun s₂ I J K F _ hJ S2 hk hsm k => ?_
  obtain ⟨hd, hb, ho, hs'⟩ := J_out S1 hJ
  refine codeAny_mono (loop_core (F t) S2 hd hb ho hs' k hl) fun r s' q => ?_
  have := q.out hJ hk hsm
  cases r with
  | ok fl => exact PostS.then (x1.wider has_ex) S1.ownLive this
  | error e => exact this.elim
end
end Mine
namespace Mine

section
variable (M : Model) (b : Heap)
noncomputable def Fn (n : Nat) (f : Value) (ds : List D) (σ : Store) (Q : D → Store → Prop) : Prop :=
  ∀ (A : Around) (X : Addr → Prop) (s : Shared) (vs : List Value), A.depth + n < recursionLimit → A.units + 20 * n + 100 < cLine → A.handled = none →
    (∀ a o, b.get? a = some o → s.heap.get? a = some o) → (∀ a, σ.has a → b.get? a = none) → (∀ a, σ.has a ∨ X a → ∃ o, s.heap.get? a = some o) → (∀ a, σ.has a → ¬ X a) →
    StoreOk s.heap (fun a => σ.has a ∨ X a) σ → Reps s.heap (fun a => σ.has a ∨ X a) ds vs →
    codeAny M A (.call f ⟨vs, []⟩) (fun r s' => ∃ v d σ', r = .ok (.ret v) ∧ Q d σ' ∧ Rep s'.heap (fun a => σ'.has a ∨ X a) d v ∧ StoreOk s'.heap (fun a => σ'.has a ∨ X a) σ' ∧ Step σ.has σ s σ' s' ∧ (∀ a, σ'.has a ↔ σ.has a)) s
noncomputable def Fn0 (n : Nat) (f : Value) (ds : List D) (d : D) : Prop := Fn M b n f ds [] fun d' σ' => d' = d ∧ σ' = []
end

theorem Store.nil_has (a : Addr) : ¬ Store.has [] a := by intro h; simp [Store.has] at h

section
variable {prog : Program} {w : World} {b : Heap} {C : Cx} {Γ : Vars} {σ : Store} {Q : D → Store → Prop}

theorem St.after {X : Addr → Prop} {m : Str → Option Value} {s s' : Shared} {σ' : Store} (S : St b C X m Γ σ s) (x : Step σ.has σ s σ' s') (ho : StoreOk s'.heap (C.rx X σ') σ') (hs : ∀ a, σ'.has a ↔ σ.has a) : St b C X m Γ σ' s' := by
  have own : ∀ a o, C.own a → s.heap.get? a = some o → s'.heap.get? a = some o := fun a o q e => x.ext a o (fun z => S.apart a z q) e
  exact {
    ns := S.ns.at' fun o e => own _ o (.inl rfl) e
    keep := fun a o e => x.ext a o (fun z => by rw [S.new a (.inl z)] at e; cases e) (S.keep a o e)
    new := fun a q => S.new a (q.elim (fun q => .inl ((hs a).mp q)) .inr)
    vars := fun y d e => by
      obtain ⟨v, h1, h2⟩ := S.vars y d e
      refine ⟨v, ?_, x.rep has_rx h2⟩
      rcases h1 with h1 | ⟨h1, c, h3, o, h4, h5⟩
      · exact .inl h1
      · exact .inr ⟨h1, c, h3, o, own _ o (.inr (mem_cells h3)) h4, h5⟩
    store := ho
    apart := fun a q => S.apart a ((hs a).mp q)
    apartX := fun a q => S.apartX a ((hs a).mp q)
    cells := fun y c e => by
      obtain ⟨v, o, h1, h2⟩ := S.cells y c e
      exact ⟨v, o, own _ o (.inr ⟨y, e⟩) h1, h2⟩
    cellsApart := S.cellsApart
    live := fun a q => by
      by_cases z : σ.has a
      · obtain ⟨xs, n, e⟩ := (show ∃ xs, s'.heap.PlainList a xs from by
          obtain ⟨⟨a', ds⟩, hm, rfl⟩ := List.mem_map.mp ((hs a).mpr z)
          obtain ⟨xs, h1, _⟩ := ho.at' _ _ hm
          exact ⟨xs, h1⟩)
        exact ⟨_, e⟩
      · obtain ⟨o, e⟩ := S.live a (q.elim (fun q => .inl ((hs a).mp q)) .inr)
        exact ⟨o, x.ext a o z e⟩ }

theorem WV.fn {n : Nat} {fv : Value} {ds : List D} (ok : C.Ok) (h : Fn (model prog w) b n fv ds σ Q) (hn : n ≤ C.n) : WV (model prog w) b C (fun vs => call fv vs []) ds Γ σ Q := by
  intro X s m vs S r
  have h1 := ok.room
  have h2 := ok.units
  refine wpAny_call (codeAny_mono (h C.A (fun a => C.own a ∨ X a) s vs (by (clear h2; omega)) (by (clear h1; omega)) ok.unheld S.keep (fun a q => S.new a (.inl q)) S.live (fun a q z => z.elim (S.apart a q) (S.apartX a q)) S.store r) fun r s' q => ?_)
  obtain ⟨v, d, σ', rfl, q, rv, so, x, hs⟩ := q
  exact ⟨d, σ', q, S.after x so hs, rv, x⟩

theorem Fn.frame {n : Nat} {fv : Value} {ds : List D} {d : D} (h : Fn0 (model prog w) b n fv ds d) (q : Q d σ) : Fn (model prog w) b n fv ds σ Q := by
  intro A X s vs h1 h2 h3 h4 h5 h6 h6x h7 h8
  refine codeAny_mono (h A (fun a => σ.has a ∨ X a) s vs h1 h2 h3 h4 (fun a z => absurd z (Store.nil_has a)) (fun a z => z.elim (fun z => absurd z (Store.nil_has a)) (h6 a)) (fun a z => absurd z (Store.nil_has a)) ⟨fun a ds z => by simp at z, by simp⟩
    (Reps.move (fun a o n e => ⟨fun z => n (z.elim (fun z => absurd z (Store.nil_has a)) id), e⟩) _ _ h8)) fun r s' z => ?_
  obtain ⟨v, d', σ', rfl, ⟨rfl, rfl⟩, rv, _, x, _⟩ := z
  have hk : ∀ a o, s.heap.get? a = some o → s'.heap.get? a = some o := fun a o e => x.ext a o (Store.nil_has a) e
  refine ⟨v, d', σ, rfl, q, Rep.move (fun a o n e => ⟨fun z => n (.inr z), e⟩) _ _ rv, ⟨fun a l e => ?_, h7.nodup⟩, ⟨x.same, fun a o _ e => hk a o e, fun _ z => .inl z⟩, fun _ => Iff.rfl⟩
  obtain ⟨xs, z1, z2⟩ := h7.at' a l e
  exact ⟨xs, z1.at fun o => hk a o, Reps.move (fun a o n e => ⟨n, hk a o e⟩) _ _ z2⟩

theorem WV.fn0 {n : Nat} {fv : Value} {ds : List D} {d : D} (ok : C.Ok) (h : Fn0 (model prog w) b n fv ds d) (hn : n ≤ C.n) (q : Q d σ) : WV (model prog w) b C (fun vs => call fv vs []) ds Γ σ Q := WV.fn ok (Fn.frame h q) hn

noncomputable def Kept (K : Frag) (f : Value) : Prop := ∀ (M : Model) (h : Heap), K.In h → ∃ k, (k = Keeper.frame ∨ k = Keeper.machine ∨ k = Keeper.boundFrame) ∧ Looks M h (keeperOf f) k
theorem Kept.ofK {K : Frag} {f : Value} (h : keepIn K f = true) : Kept K f := fun M hp X => keeps_K h hp X
theorem Kept.type {K : Frag} {T : String} : Kept K (.type T) := fun M h X => ⟨.machine, .inr (.inl rfl), Looks.of_pure rfl⟩
theorem Kept.builtin {K : Frag} {T : String} : Kept K (.builtin T) := fun M h X => ⟨.machine, .inr (.inl rfl), Looks.of_pure rfl⟩

noncomputable def plainArgs (pos : Pos) (es : List PySem.Expr) (env : Env) : Prop := (backTo pos (starEach es env)).any (·.1) = false

theorem WE.call {K : Frag} {x : Str} {p pos : Pos} {e : PySem.Expr} {es : List PySem.Expr} (B : Base K b)
    (h : WE (model prog w) b C (.Name x p) Γ σ fun df σ1 => ∃ fv, df = .raw fv ∧ Kept K fv ∧ WArgs (model prog w) b C (e :: es) pos Γ σ1 fun ds σ2 => WV (model prog w) b C (fun vs => call fv vs []) ds Γ σ2 Q)
    (he : starEach (e :: es) C.env = (false, eval e C.env) :: starEach es C.env := by rfl) (hp : (backTo pos (starEach es C.env)).any (·.1) = false := by rfl) : WE (model prog w) b C (.Call (.Name x p) (e :: es) [] pos) Γ σ Q := fun X s m S => by
  refine wpAny_Call_Name_kw (wpAny_mono (h X s m S) (fun f s₁ q => ?_) fun _ _ x => x)
  obtain ⟨df, σ1, ⟨fv, rfl, hK, h1⟩, S1, r1, x1⟩ := q
  have r1 : f = fv := r1
  subst r1
  have h2 := h1 X s₁ m S1
  rw [he] at h2 ⊢
  refine callWith_of (P := fun h => K.In h) (by show ((false || (backTo pos (starEach es C.env)).any (·.1)) || false) = false; rw [hp]; rfl) (fun h X => hK _ h X) (Calls.evalArgs_plain (wpAny_mono h2 (fun vs s₂ q => ?_) fun _ _ x => x))
  obtain ⟨ds, σ2, h3, S2, r2, x2⟩ := q
  refine ⟨B.K.keeps S2.keep, ?_⟩
  exact wpAny_mono (h3 X s₂ m vs S2 r2) (fun v s₃ q => Post.then (x1.trans x2 fun _ h => h) q) fun _ _ x => x

theorem bindL_none {k : Str → Option NameKind} {x : Str} : ∀ (l : List (Str × Value)) (m : Str → Option Value), x ∉ l.map (·.1) → bindL k l m x = m x
  | [], _, _ => rfl
  | (n, v) :: r, m, h => by
    have h' : x ≠ n ∧ x ∉ r.map (·.1) := by simpa using h
    unfold bindL
    rw [bindL_none r _ h'.2]
    split
    · simp [h'.1]
    · rfl
theorem bindL_get {k : Str → Option NameKind} {x : Str} {v : Value} (hk : k x = some .local) : ∀ (l : List (Str × Value)) (m : Str → Option Value), (l.map (·.1)).Nodup → (x, v) ∈ l → bindL k l m x = some v
  | (n, u) :: r, m, hn, hm => by
    have hn' : n ∉ r.map (·.1) ∧ (r.map (·.1)).Nodup := by simpa using hn
    unfold bindL
    rcases List.mem_cons.mp hm with e | hm
    · cases e
      rw [bindL_none r _ hn'.1, if_pos hk]; simp
    · exact bindL_get hk r _ hn'.2 hm
theorem bindC_none {k : Str → Option NameKind} {x : Str} : ∀ (l : List (Str × Value)) (m : Str → Option Value), x ∉ l.map (·.1) → bindC k l m x = m x
  | [], _, _ => rfl
  | (n, v) :: r, m, h => by
    have h' : x ≠ n ∧ x ∉ r.map (·.1) := by simpa using h
    unfold bindC
    rw [bindC_none r _ h'.2]
    split
    · rfl
    · simp [h'.1]
theorem bindC_get {k : Str → Option NameKind} {x : Str} {v : Value} (hk : k x ≠ some .local) : ∀ (l : List (Str × Value)) (m : Str → Option Value), (l.map (·.1)).Nodup → (x, v) ∈ l → bindC k l m x = some v
  | (n, u) :: r, m, hn, hm => by
    have hn' : n ∉ r.map (·.1) ∧ (r.map (·.1)).Nodup := by simpa using hn
    unfold bindC
    rcases List.mem_cons.mp hm with e | hm
    · cases e
      rw [bindC_none r _ hn'.1, if_neg hk]; simp
    · exact bindC_get hk r _ hn'.2 hm

theorem zip_lookup {h : Heap} {N : Addr → Prop} {x : Str} {d : D} : ∀ (names : List Str) (ds : List D) (vs : List Value), Reps h N ds vs → (names.zip ds).lookup x = some d → ∃ v, (x, v) ∈ names.zip vs ∧ Rep h N d v
  | [], _, _, _, e => by simp at e
  | _ :: _, [], _, _, e => by simp at e
  | n :: names, d' :: ds, _, r, e => by
    obtain ⟨v, us, rfl, rv, rs⟩ := r
    rw [List.zip_cons_cons, List.lookup_cons] at e
    cases hb : x == n with
    | true => rw [hb] at e; cases e; rw [beq_iff_eq.mp hb]; exact ⟨v, by simp, rv⟩
    | false =>
      rw [hb] at e
      obtain ⟨u, hu, ru⟩ := zip_lookup names ds us rs e
      exact ⟨u, by rw [List.zip_cons_cons]; exact List.mem_cons_of_mem _ hu, ru⟩

noncomputable def Ends0 (d₀ : D) : Fl → Vars → Store → Prop
  | .ret d, _, σ => d = d₀ ∨ ∃ a l, d = .raw (.ref a) ∧ (a, l) ∈ σ ∧ d₀ = .list l
  | .next, _, _ => d₀ = .none
  | _, _, _ => False
theorem Ends0.ret {d : D} {Γ : Vars} {σ : Store} : Ends0 d (.ret d) Γ σ := .inl rfl

noncomputable def EndsB (a : Addr) (Q : D → List D → Prop) : Fl → Vars → Store → Prop
  | .ret d, _, σ => ∃ l, σ = [(a, l)] ∧ Q d l
  | .next, _, σ => ∃ l, σ = [(a, l)] ∧ Q .none l
  | _, _, _ => False

noncomputable def EndsR (E K : Fl → Vars → Store → Prop) : Prop := ∀ f Γ σ, E f Γ σ → K f Γ σ
theorem endsRet {E K : Fl → Vars → Store → Prop} {d : D} {Γ : Vars} {σ : Store} (h : EndsR E K) (h2 : E (.ret d) Γ σ) : K (.ret d) Γ σ := h _ _ _ h2
noncomputable def cx (qual : Str) (scope : Scope) (f : Addr) (cdv : Value) (n : Nat) (A : Around) (L : Addr) : Cx := { A := A, env := envOfC qual scope L f cdv, n := n - 1 }
structure FnAtK (K : Frag) (f : Addr) (qual : Str) (body : List Stmt) (scope : Scope) (cdv : Value) (names : List Str) (oc : Value) (od : Option Addr) (osl : Array (Option Value)) (name : Str) (params : Arguments) (dV kV doc pm : Value) (an : Option Addr) (ct : Value) : Prop where
  get : K.lookup f = some ⟨oc, od, .func (fnOf name qual params body scope dV kV doc pm an cdv ct), osl⟩
  bind : ∀ vs : List Value, vs.length = names.length → bindArgs (fnOf name qual params body scope dV kV doc pm an cdv ct) ⟨vs, []⟩ = pure (names.zip vs)
  code : codeIn K cdv qual = true
  kinds : (names.all fun x => scope.names.lookup x == some .local || scope.names.lookup x == some .cell) = true
  nodup : names.Nodup
  co : scope.isCoroutine = false
  gen : scope.isGenerator = false
  kind : scope.kind = .function

theorem Fn.intro {K : Frag} {oc : Value} {od : Option Addr} {osl : Array (Option Value)} {name : Str} {params : Arguments} {dV kV doc pm : Value} {an : Option Addr} {ct : Value} {f : Addr} {qual : Str} {body : List Stmt} {scope : Scope} {cdv : Value} {names : List Str} {n : Nat} {ds : List D} {Qe : Fl → Vars → Store → Prop} (B : Base K b) (F : FnAtK K f qual body scope cdv names oc od osl name params dV kV doc pm an ct) (hl : ds.length = names.length) (hn : 1 ≤ n)
    (h : ∀ A L, ({ A := A, env := envOfC qual scope L f cdv, n := n - 1 } : Cx).Ok → WS (model prog w) b { A := A, env := envOfC qual scope L f cdv, n := n - 1 } body (names.zip ds) σ Qe)
    (hend : ∀ f' Γ' σ', Qe f' Γ' σ' → ∀ (X : Addr → Prop) (s s' : Shared) (C' : Cx) fl, (∀ a, σ.has a ∨ X a → ∃ o, s.heap.get? a = some o) → (∀ a, C'.own a → s.heap.get? a = none) → (∃ m, St b C' X m Γ' σ' s') → Fl.rel s'.heap (C'.rx X σ') f' fl → Step σ.has σ s σ' s' →
      ∃ d σ'', Q d σ'' ∧ Rep s'.heap (fun a => σ''.has a ∨ X a) d (match fl with | .ret v => v | _ => .none) ∧ StoreOk s'.heap (fun a => σ''.has a ∨ X a) σ'' ∧ Step σ.has σ s σ'' s' ∧ (∀ a, σ''.has a ↔ σ.has a)) :
    Fn (model prog w) b n (.ref f) ds σ Q := by
  intro A X s vs h1 h2 h3 h4 h5 h6 h6x h7 h8
  have ho := F.get
  have hbind := F.bind
  obtain ⟨p, loose, mg, mb, T⟩ := B.top
  have hlen : vs.length = names.length := by rw [h8.length, hl]
  have hzip : (names.zip vs).map (·.1) = names := List.map_fst_zip (by (clear hl hn h1 h2; omega))
  have hnd : ((names.zip vs).map (·.1)).Nodup := by rw [hzip]; exact F.nodup
  have kin : ∀ x ∈ names.zip vs, scope.names.lookup x.1 = some .local ∨ scope.names.lookup x.1 = some .cell := fun x hx => by
    have hm : x.1 ∈ names := by rw [← hzip]; exact List.mem_map.mpr ⟨x, hx, rfl⟩
    have := List.all_eq_true.mp F.kinds _ hm
    rcases Bool.or_eq_true_iff.mp this with q | q
    · exact .inl (by simpa using q)
    · exact .inr (by simpa using q)
  have kinds : ∀ x ∈ names.zip vs, scope.names.lookup x.1 = some .local ∨ (scope.names.lookup x.1 = some .cell ∧ ((cellsFrom (s.heap.objs.size + 1) scope.names []).lookup x.1).isSome = true) := fun x hx => by
    rcases kin x hx with q | q
    · exact .inl q
    · exact .inr ⟨q, cellsFrom_some _ _ _ (.inl q)⟩
  refine codeAny_call_cells (fd := fnOf name qual params body scope dV kV doc pm an cdv ct) (body := body) (binds := names.zip vs) (by (clear hl h2 hlen; omega)) (B.K.keeps h4 _ _ ho) rfl (T.nolimit.keeps h4) (codeRec_of (B.K.keeps h4) F.code) rfl (hbind vs hlen) rfl kinds (fun s₁ x => ?_) F.co F.gen F.kind
  have e0 : callEnvC (fnOf name qual params body scope dV kV doc pm an cdv ct) s.heap.objs.size f = envOfC qual scope s.heap.objs.size f cdv := rfl
  rw [e0] at x ⊢
  generalize hC : ({ A := A.deeper (envOfC qual scope s.heap.objs.size f cdv), env := envOfC qual scope s.heap.objs.size f cdv, n := n - 1 } : Cx) = C
  have hCe : C.env = envOfC qual scope s.heap.objs.size f cdv := by rw [← hC]
  have hCA : C.A = A.deeper (envOfC qual scope s.heap.objs.size f cdv) := by rw [← hC]
  have hCn : C.n = n - 1 := by rw [← hC]
  have okC : C.Ok := ⟨by rw [hCe]; exact F.kind, by rw [hCe]; rfl, by rw [hCe]; rfl, by rw [hCA, hCn]; show A.depth + 1 + (n - 1) < _; (clear hl h2 hlen hCn; omega), by rw [hCA, hCn]; show A.units + 3 + 20 * (n - 1) + 100 < _; (clear hl h1 hlen hCn; omega), by rw [hCA]; exact h3⟩
  have none_of : ∀ a, s.heap.objs.size ≤ a → s.heap.get? a = none := fun a ha => by
    cases e : s.heap.get? a with
    | none => rfl
    | some o => exact absurd (Heap.lt_size e) (Nat.not_lt.mpr ha)
  have ownNew : ∀ a, C.own a → s.heap.get? a = none := fun a q => by
    rcases q with q | ⟨y, q⟩
    · rw [hCe] at q; exact none_of a (by rw [q]; exact x.toInCall.fresh)
    · rw [hCe] at q; exact none_of a (Nat.le_of_lt (Nat.lt_of_le_of_lt x.toInCall.fresh (x.above y a (mem_of_lookup q))))
  have bnone : ∀ a, s.heap.get? a = none → b.get? a = none := fun a e => by
    cases q : b.get? a with
    | none => rfl
    | some o => rw [h4 a o q] at e; cases e
  have hk : ∀ a o, s.heap.get? a = some o → s₁.heap.get? a = some o := x.toInCall.keep
  have mv : ∀ a o, ¬ (σ.has a ∨ X a) → s.heap.get? a = some o → ¬ C.rx X σ a ∧ s₁.heap.get? a = some o := fun a o q e => ⟨fun z => by
    rcases z with z | z | z
    · exact q (.inl z)
    · rw [ownNew a z] at e; cases e
    · exact q (.inr z), hk a o e⟩
  have S₁ : St b C X (bindL C.env.kindOf (names.zip vs) fun _ => none) (names.zip ds) σ s₁ := {
    ns := by rw [hCe]; exact x.toInCall.ns
    keep := fun a o e => hk a o (h4 a o e)
    new := fun a q => q.elim (h5 a) fun q => bnone a (ownNew a q)
    vars := fun y d e => by
      obtain ⟨v, hm, rv⟩ := zip_lookup names ds vs h8 e
      refine ⟨v, ?_, Rep.move mv _ _ rv⟩
      have kk := kin _ hm
      have ek : C.env.kindOf y = scope.names.lookup y := by rw [hCe]; rfl
      rcases kk with q | q
      · exact .inl ⟨by rw [ek]; exact q, bindL_get (by rw [ek]; exact q) _ _ hnd hm⟩
      · have z : ((cellsFrom (s.heap.objs.size + 1) scope.names []).lookup y).isSome = true := cellsFrom_some _ _ _ (.inl q)
        obtain ⟨c, hc⟩ := Option.isSome_iff_exists.mp z
        refine .inr ⟨.inl (by rw [ek]; exact q), c, by rw [hCe]; exact hc, ?_⟩
        have := x.cell y c hc
        rw [bindC_get (x := y) (v := v) (by
          have : (envOfC qual scope s.heap.objs.size f cdv).kindOf y = scope.names.lookup y := rfl
          rw [this]; have q' : scope.names.lookup y = some .cell := q; rw [q']; simp) _ _ hnd hm] at this
        exact this
    store := ⟨fun a l e => by
      obtain ⟨xs, z1, z2⟩ := h7.at' a l e
      exact ⟨xs, z1.at fun o => hk a o, Reps.move mv _ _ z2⟩, h7.nodup⟩
    apart := fun a q z => by obtain ⟨o, e⟩ := h6 a (.inl q); rw [ownNew a z] at e; cases e
    apartX := h6x
    cells := fun y c e => by rw [hCe] at e; exact ⟨_, x.cell y c e⟩
    cellsApart := by rw [hCe]; exact x.apart
    live := fun a q => by
      rcases q with q | q | q
      · obtain ⟨o, e⟩ := h6 a (.inl q); exact ⟨o, hk a o e⟩
      · rcases q with q | ⟨y, q⟩
        · obtain ⟨o, _, _, e, _⟩ := x.toInCall.ns
          exact ⟨o, by rw [q, hCe]; exact e⟩
        · rw [hCe] at q
          obtain ⟨o, e, _⟩ := x.cell y a q
          exact ⟨o, e⟩
      · obtain ⟨o, e⟩ := h6 a (.inr q); exact ⟨o, hk a o e⟩ }
  have okC' := okC
  have hW := h (A.deeper (envOfC qual scope s.heap.objs.size f cdv)) s.heap.objs.size (by rw [hC]; exact okC)
  rw [hC] at hW
  have hW := hW X s₁ _ S₁
  rw [hCA, hCe] at hW
  refine wpAny_mono hW (fun fl s' q => ?_) fun _ _ e => e.elim
  obtain ⟨f', Γ', σ', m', q, S', rf, y⟩ := q
  have st : Step σ.has σ s σ' s' := by
    refine ⟨?_, fun a o q e => y.ext a o (fun z => ?_) (hk a o e), fun a z => ?_⟩
    · obtain ⟨h1, t1, rfl⟩ := x.toInCall.same
      obtain ⟨h2, t2, rfl⟩ := y.same
      exact ⟨h2, t2, rfl⟩
    · rcases z with z | z
      · exact q z
      · rw [ownNew a z] at e; cases e
    · rcases y.fresh a z with z | z
      · exact .inl z
      · refine .inr ?_
        cases e : s.heap.get? a with
        | none => rfl
        | some o => rw [hk a o e] at z; cases z
  obtain ⟨d, σ'', q1, q2, q3, q4, q5⟩ := hend f' Γ' σ' q X s s' C fl h6 ownNew ⟨m', S'⟩ rf st
  exact ⟨_, d, σ'', rfl, q1, q2, q3, q4, q5⟩

theorem Fn0.intro {K : Frag} {oc : Value} {od : Option Addr} {osl : Array (Option Value)} {name : Str} {params : Arguments} {dV kV doc pm : Value} {an : Option Addr} {ct : Value} {f : Addr} {qual : Str} {body : List Stmt} {scope : Scope} {cdv : Value} {names : List Str} {n : Nat} {ds : List D} {d₀ : D} (B : Base K b) (F : FnAtK K f qual body scope cdv names oc od osl name params dV kV doc pm an ct) (hl : ds.length = names.length) (hn : 1 ≤ n)
    (h : ∀ A L K', EndsR (Ends0 d₀) K' → (cx qual scope f cdv n A L).Ok → WS (model prog w) b (cx qual scope f cdv n A L) body (names.zip ds) [] K') :
    Fn0 (model prog w) b n (.ref f) ds d₀ := by
  refine Fn.intro B F hl hn (fun A L ok => h A L _ (fun _ _ _ z => z) ok) fun f' Γ' σ' q X s s' C' fl hlive hown hS rf st => ?_
  have fin : Step (Store.has []) [] s [] s' := ⟨st.same, st.ext, fun _ z => .inl z⟩
  have hok : StoreOk s'.heap (fun a => Store.has [] a ∨ X a) [] := ⟨fun a l e => by simp at e, by simp⟩
  have dn : ∀ (N : Addr → Prop) (h : Heap) (d : D) (v : Value), Rep h (C'.rx X σ') d v → Rep h (fun a => Store.has [] a ∨ X a) d v := fun N h d v r => Rep.move (fun a o n e => ⟨fun z => n (z.elim (fun z => absurd z (Store.nil_has a)) fun z => .inr (.inr z)), e⟩) d v r
  cases f' with
  | next =>
    have rf : fl = .next := rf
    subst rf
    exact ⟨d₀, [], ⟨rfl, rfl⟩, by have q : d₀ = .none := q; subst q; rfl, hok, fin, fun _ => Iff.rfl⟩
  | brk => exact q.elim
  | cont => exact q.elim
  | ret d =>
    obtain ⟨v, rfl, rv⟩ := rf
    refine ⟨d₀, [], ⟨rfl, rfl⟩, ?_, hok, fin, fun _ => Iff.rfl⟩
    rcases q with rfl | ⟨a, l, rfl, hm, rfl⟩
    · exact dn (fun _ => True) _ _ _ rv
    · obtain ⟨m', S'⟩ := hS
      have rv : v = .ref a := rv
      subst rv
      obtain ⟨xs, z1, z2⟩ := S'.store.at' a l hm
      have ha : σ'.has a := List.mem_map.mpr ⟨_, hm, rfl⟩
      refine ⟨a, xs, rfl, fun z => ?_, z1, Reps.move (fun a o n e => ⟨fun z => n (z.elim (fun z => absurd z (Store.nil_has a)) fun z => .inr (.inr z)), e⟩) _ _ z2⟩
      rcases z with z | z
      · exact Store.nil_has a z
      · obtain ⟨o, e⟩ := hlive a (.inr z)
        rcases st.fresh a ha with q | q
        · exact Store.nil_has a q
        · rw [q] at e; cases e

theorem Fn.introB {K : Frag} {oc : Value} {od : Option Addr} {osl : Array (Option Value)} {name : Str} {params : Arguments} {dV kV doc pm : Value} {an : Option Addr} {ct : Value} {f : Addr} {qual : Str} {body : List Stmt} {scope : Scope} {cdv : Value} {names : List Str} {n : Nat} {ds : List D} {a : Addr} {l : List D} {Q : D → List D → Prop} (B : Base K b) (F : FnAtK K f qual body scope cdv names oc od osl name params dV kV doc pm an ct) (hl : ds.length = names.length) (hn : 1 ≤ n)
    (h : ∀ A L K', EndsR (EndsB a Q) K' → (cx qual scope f cdv n A L).Ok → WS (model prog w) b (cx qual scope f cdv n A L) body (names.zip ds) [(a, l)] K') :
    Fn (model prog w) b n (.ref f) ds [(a, l)] fun d σ' => ∃ l', σ' = [(a, l')] ∧ Q d l' := by
  refine Fn.intro B F hl hn (fun A L ok => h A L _ (fun _ _ _ z => z) ok) fun f' Γ' σ' q X s s' C' fl hlive hown hS rf st => ?_
  obtain ⟨m', S'⟩ := hS
  have hrx : ∀ z, (σ'.has z ∨ X z) → C'.rx X σ' z := fun z q => q.elim .inl fun q => .inr (.inr q)
  have key : ∀ d l' (v : Value), σ' = [(a, l')] → Q d l' → Rep s'.heap (C'.rx X σ') d v → ∃ (d : D) (σ'' : Store), (∃ l', σ'' = [(a, l')] ∧ Q d l') ∧ Rep s'.heap (fun a => σ''.has a ∨ X a) d v ∧ StoreOk s'.heap (fun a => σ''.has a ∨ X a) σ'' ∧ Step (Store.has [(a, l)]) [(a, l)] s σ'' s' ∧ (∀ z, σ''.has z ↔ Store.has [(a, l)] z) := by
    intro d l' v e q rv
    refine ⟨d, σ', ⟨l', e, q⟩, Rep.move (fun z o n e => ⟨fun w => n (hrx z w), e⟩) _ _ rv, ⟨fun z k e => ?_, S'.store.nodup⟩, st, fun z => by rw [e]; exact Iff.rfl⟩
    obtain ⟨xs, z1, z2⟩ := S'.store.at' z k e
    exact ⟨xs, z1, Reps.move (fun z o n e => ⟨fun w => n (hrx z w), e⟩) _ _ z2⟩
  cases f' with
  | next =>
    have rf : fl = .next := rf
    subst rf
    obtain ⟨l', e, q⟩ := q
    exact key .none l' .none e q rfl
  | brk => exact q.elim
  | cont => exact q.elim
  | ret d =>
    obtain ⟨v, rfl, rv⟩ := rf
    obtain ⟨l', e, q⟩ := q
    exact key d l' v e q rv
end
end Mine
namespace Mine

inductive Ty where
  | list | tuple | str | int | bool
noncomputable def Ty.name : Ty → String
  | .list => "list" | .tuple => "tuple" | .str => "str" | .int => "int" | .bool => "bool"
noncomputable def D.isT : D → Ty → Option Bool
  | .none, _ => some false
  | .bool _, .bool => some true
  | .bool _, .int => some true
  | .bool _, _ => some false
  | .int _, .int => some true
  | .int _, _ => some false
  | .str _, .str => some true
  | .str _, _ => some false
  | .list _, .list => some true
  | .list _, _ => some false
  | .tup _, .tuple => some true
  | .tup _, _ => some false
  | _, _ => Option.none

section
variable {prog : Program} {w : World} {b : Heap} {C : Cx} {Γ : Vars} {σ : Store} {Q : D → Store → Prop}

theorem noneSome {α : Type} {x : α} {P : Prop} (h : Option.none = some x) : P := by cases h
theorem WV.isi {d : D} {T : Ty} {x : Bool} (h : d.isT T = some x) (q : Q (.bool x) σ) : WV (model prog w) b C (fun vs => call (.builtin "isinstance") vs []) [d, .raw (.type T.name)] Γ σ Q := by
  rintro X s m _ S ⟨v, _, rfl, r, u, _, rfl, e, e'⟩
  have e : u = .type T.name := e
  have e' : _ = [] := e'
  subst e
  subst e'
  cases d with
  | none =>
    have r : v = .none := r
    subst r
    cases T <;> obtain rfl := Option.some.inj h
    · exact IsiPair.NoneType_list (Post.tok S q rfl)
    · exact IsiPair.NoneType_tuple (Post.tok S q rfl)
    · exact IsiPair.NoneType_str (Post.tok S q rfl)
    · exact IsiPair.NoneType_int (Post.tok S q rfl)
    · exact IsiPair.NoneType_bool (Post.tok S q rfl)
  | bool y =>
    have r : v = .bool y := r
    subst r
    cases T <;> obtain rfl := Option.some.inj h
    · exact IsiPair.bool_list (Post.tok S q rfl)
    · exact IsiPair.bool_tuple (Post.tok S q rfl)
    · exact IsiPair.bool_str (Post.tok S q rfl)
    · exact IsiPair.bool_int (Post.same S q rfl)
    · exact IsiPair.bool_bool (Post.same S q rfl)
  | int y =>
    obtain ⟨t, rfl⟩ := r
    cases T <;> obtain rfl := Option.some.inj h
    · exact IsiPair.int_list (Post.tok S q rfl)
    · exact IsiPair.int_tuple (Post.tok S q rfl)
    · exact IsiPair.int_str (Post.tok S q rfl)
    · exact IsiPair.int_int (Post.same S q rfl)
    · exact IsiPair.int_bool (Post.tok S q rfl)
  | str y =>
    obtain ⟨t, rfl⟩ := r
    cases T <;> obtain rfl := Option.some.inj h
    · exact IsiPair.str_list (Post.tok S q rfl)
    · exact IsiPair.str_tuple (Post.tok S q rfl)
    · exact IsiPair.str_str (Post.same S q rfl)
    · exact IsiPair.str_int (Post.tok S q rfl)
    · exact IsiPair.str_bool (Post.tok S q rfl)
  | list l =>
    obtain ⟨a, xs, rfl, na, hl, ra⟩ := r
    cases T <;> obtain rfl := Option.some.inj h
    · exact IsiPair.isList_list hl.isList (fun _ _ e => e) (Post.same S q rfl)
    · exact IsiPair.isList_tuple hl.isList (fun _ _ e => e) (Post.tok S q rfl)
    · exact IsiPair.isList_str hl.isList (fun _ _ e => e) (Post.tok S q rfl)
    · exact IsiPair.isList_int hl.isList (fun _ _ e => e) (Post.tok S q rfl)
    · exact IsiPair.isList_bool hl.isList (fun _ _ e => e) (Post.tok S q rfl)
  | tup l =>
    obtain ⟨a, xs, rfl, na, hl, ra⟩ := r
    cases T <;> obtain rfl := Option.some.inj h
    · exact IsiPair.isTuple_list hl.isTup (fun _ _ e => e) (Post.tok S q rfl)
    · exact IsiPair.isTuple_tuple hl.isTup (fun _ _ e => e) (Post.same S q rfl)
    · exact IsiPair.isTuple_str hl.isTup (fun _ _ e => e) (Post.tok S q rfl)
    · exact IsiPair.isTuple_int hl.isTup (fun _ _ e => e) (Post.tok S q rfl)
    · exact IsiPair.isTuple_bool hl.isTup (fun _ _ e => e) (Post.tok S q rfl)
  | _ => exact noneSome h

theorem WV.lenL {l : List D} (hz : l.length ≤ sizeLine) (q : Q (.int l.length) σ) : WV (model prog w) b C (fun vs => call (.builtin "len") vs []) [.list l] Γ σ Q := by
  rintro X s m _ S ⟨v, _, rfl, ⟨a, xs, rfl, na, hl, ra⟩, e⟩
  have e : _ = [] := e
  subst e
  have e1 := ra.length
  rw [Array.length_toList] at e1
  exact Calls.call_len_list hl.isList (by rw [e1]; have : sizeLine = 16777216 := by decide
                                          omega) (Post.tok S q ⟨_, by rw [e1]⟩)
theorem WV.lenT {l : List D} (hz : l.length ≤ sizeLine) (q : Q (.int l.length) σ) : WV (model prog w) b C (fun vs => call (.builtin "len") vs []) [.tup l] Γ σ Q := by
  rintro X s m _ S ⟨v, _, rfl, ⟨a, xs, rfl, na, hl, ra⟩, e⟩
  have e : _ = [] := e
  subst e
  have e1 := ra.length
  rw [Array.length_toList] at e1
  exact len_tuple hl.isTup (by rw [e1]; have : sizeLine = 16777216 := by decide
                               omega) (Post.tok S q ⟨_, by rw [e1]⟩)

theorem WV.range1 {n : Int} (q : Q (.range 0 n 1) σ) : WV (model prog w) b C (fun vs => call (.type "range") vs []) [.int n] Γ σ Q := by
  rintro X s m _ S ⟨v, _, rfl, ⟨t, rfl⟩, e⟩
  have e : _ = [] := e
  subst e
  exact call_range_1 (Post.push S _ q ⟨_, _, _, _, rfl, rx_new S, IsRange.new ..⟩ _)
theorem WV.range2 {x y : Int} (q : Q (.range x y 1) σ) : WV (model prog w) b C (fun vs => call (.type "range") vs []) [.int x, .int y] Γ σ Q := by
  rintro X s m _ S ⟨v, _, rfl, ⟨t, rfl⟩, _, _, rfl, ⟨u, rfl⟩, e⟩
  have e : _ = [] := e
  subst e
  exact call_range_2 (Post.push S _ q ⟨_, _, _, _, rfl, rx_new S, IsRange.new ..⟩ _)
theorem WV.range3 {x y z : Int} (hz : z ≠ 0) (hp : Builtin.divisionGoesByPylong (y - x) z = false) (q : Q (.range x y z) σ) : WV (model prog w) b C (fun vs => call (.type "range") vs []) [.int x, .int y, .int z] Γ σ Q := by
  rintro X s m _ S ⟨v, _, rfl, ⟨t, rfl⟩, _, _, rfl, ⟨u, rfl⟩, _, _, rfl, ⟨u', rfl⟩, e⟩
  have e : _ = [] := e
  subst e
  exact call_range_3 hz (Post.push S _ q ⟨_, _, _, _, rfl, rx_new S, IsRange.new ..⟩ _) (.inl hp)

theorem WV.tupleL {l : List D} (hz : l.length ≤ sizeLine) (q : Q (.tup l) σ) : WV (model prog w) b C (fun vs => call (.type "tuple") vs []) [.list l] Γ σ Q := by
  rintro X s m _ S ⟨v, _, rfl, ⟨a, xs, rfl, na, hl, ra⟩, e⟩
  have e : _ = [] := e
  subst e
  have e1 := ra.length
  rw [Array.length_toList] at e1
  refine call_tuple_list hl.isList (fun h' hk => ?_) (by omega)
  have S' : St b C X m Γ σ { s with heap := h' } := S.grow hk
  have := Post.newTup S' (n := 0) (Reps.move (fun y o n e => ⟨n, hk y o e⟩) _ _ ra) q s.toks
  exact Post.then ⟨⟨h', s.toks, rfl⟩, fun y o _ e => hk y o e, fun _ z => .inl z⟩ this
theorem WV.listT {l : List D} (hz : l.length ≤ sizeLine) (q : Q (.list l) σ) : WV (model prog w) b C (fun vs => call (.type "list") vs []) [.tup l] Γ σ Q := by
  rintro X s m _ S ⟨v, _, rfl, ⟨a, xs, rfl, na, ⟨n, hl⟩, ra⟩, e⟩
  have e : _ = [] := e
  subst e
  have e1 := ra.length
  rw [Array.length_toList] at e1
  refine call_list_seq a (.inr rfl) hl rfl rfl (fun h' c hk e => ?_) (by omega)
  refine Post.now S ⟨h', s.toks, rfl, hk⟩ q ⟨_, xs, rfl, rx_new S, ⟨c, e⟩, Reps.move (fun y o n e => ⟨n, hk y o e⟩) _ _ ra⟩

theorem WV.abs {x : Int} (q : Q (.int (x.natAbs : Nat)) σ) : WV (model prog w) b C (fun vs => call (.builtin "abs") vs []) [.int x] Γ σ Q := by
  rintro X s m _ S ⟨v, _, rfl, ⟨t, rfl⟩, e⟩
  have e : _ = [] := e
  subst e
  refine call_abs_int fun u tk => Post.tok S q ⟨u, ?_⟩
  have : (if x < 0 then -x else x) = (x.natAbs : Nat) := by split <;> omega
  rw [this]
theorem WV.reprB {x : Bool} (q : Q (.str (Str.ofString (if x then "True" else "False"))) σ) : WV (model prog w) b C (fun vs => call (.builtin "repr") vs []) [.bool x] Γ σ Q := by
  rintro X s m _ S ⟨v, _, rfl, r, e⟩
  have e : _ = [] := e
  have r : v = .bool x := r
  subst e
  subst r
  refine P.repr_of_bool (Post.tok S q ⟨s.toks, ?_⟩)
  cases x <;> rfl

theorem WV.all {l : List Bool} (ok : C.Ok) (q : Q (.bool (l.all id)) σ) : WV (model prog w) b C (fun vs => call (.builtin "all") vs []) [.list (l.map .bool)] Γ σ Q := by
  rintro X s m _ S ⟨v, _, rfl, ⟨a, xs, rfl, na, hl, ra⟩, e⟩
  have e : _ = [] := e
  subst e
  have e1 := ra.length
  rw [Array.length_toList, List.length_map] at e1
  refine call_all_walk (wpAny_pyIter_list hl.isList ?_)
  have ne : a ≠ s.heap.objs.size := by
    obtain ⟨n, e⟩ := hl
    exact Nat.ne_of_lt (Heap.lt_size e)
  refine ⟨s.heap.objs.size, _, _, _, _, _, fun i => l.getD i false, rfl, Walks.list (A := C.A.in1) ok.unheld s.heap.objs.size a ne xs, ⟨⟨_, Heap.get?_push_size _ rfl, rfl, rfl⟩, hl.isList.push _⟩, ?_, fun h' tk hk => ?_⟩
  · intro i v s' Q' E' hv hQ
    have hi : i < l.length := by rw [← e1]; exact (Array.getElem?_eq_some_iff.mp hv).1
    obtain ⟨u, hu, ru⟩ := ra.get (i := i) (d := .bool (l.getD i false)) (by simp [List.getD, hi])
    have : xs.toList[i]? = some v := by simpa using hv
    rw [this] at hu
    cases hu
    have ru : v = .bool _ := ru
    subst ru
    exact wpAny_truthy_bool hQ
  · have e2 : (List.range xs.size).all (fun i => l.getD i false) = l.all id := by
      rw [e1]
      rw [Bool.eq_iff_iff, List.all_eq_true, List.all_eq_true]
      constructor
      · intro h x hx
        obtain ⟨i, hi, rfl⟩ := List.getElem_of_mem hx
        have := h i (List.mem_range.mpr hi)
        simpa [List.getD, hi] using this
      · intro h i hi
        have hi := List.mem_range.mp hi
        have := h l[i] (List.getElem_mem hi)
        simpa [List.getD, hi] using this
    rw [e2]
    have fresh : s.heap.get? s.heap.objs.size = none := by
      cases e : s.heap.get? s.heap.objs.size with
      | none => rfl
      | some o => exact absurd (Heap.lt_size e) (Nat.lt_irrefl _)
    refine Post.now S ⟨h', tk, rfl, fun y o e => ?_⟩ q rfl
    refine hk y o ?_ (Heap.get?_push_of_some _ e)
    intro z
    have : y = s.heap.objs.size := by simpa using z
    rw [this, fresh] at e; cases e
end
end Mine
namespace Mine

theorem powMod_eq (b e m : Nat) : Builtin.powMod b e m = b ^ e % m := by
  unfold Builtin.powMod
  have key : ∀ k, (List.range k).reverse.foldl (fun p i => if e.testBit i then p * p % m * b % m else p * p % m) (b ^ (e >>> k) % m) = b ^ e % m := by
    intro k
    induction k with
    | zero => simp
    | succ k ih =>
      rw [List.range_succ, List.reverse_append, List.reverse_singleton, List.singleton_append, List.foldl_cons]
      have step : (if e.testBit k then b ^ (e >>> (k + 1)) % m * (b ^ (e >>> (k + 1)) % m) % m * b % m else b ^ (e >>> (k + 1)) % m * (b ^ (e >>> (k + 1)) % m) % m) = b ^ (e >>> k) % m := by
        have hk : e >>> k = 2 * (e >>> (k + 1)) + (if e.testBit k then 1 else 0) := by
          have h1 : e >>> (k + 1) = (e >>> k) / 2 := by rw [Nat.shiftRight_succ]
          have h2 : e.testBit k = decide ((e >>> k) % 2 = 1) := by
            rw [Nat.testBit_eq_decide_div_mod_eq, Nat.shiftRight_eq_div_pow]
          rw [h1, h2]
          by_cases h : (e >>> k) % 2 = 1
          · simp [h]; (clear ih h1; omega)
          · simp [h]; (clear ih h1; omega)
        cases ht : e.testBit k with
        | false =>
          rw [ht] at hk
          simp only [Bool.false_eq_true, if_false, Nat.add_zero] at hk ⊢
          rw [hk, ← Nat.mul_mod, ← Nat.pow_add, Nat.two_mul]
        | true =>
          rw [ht] at hk
          simp only [if_true] at hk ⊢
          rw [hk, Nat.pow_succ, Nat.two_mul, Nat.pow_add, ← Nat.mul_mod, Nat.mod_mul_mod]
      rw [step]
      exact ih
  have h0 : e >>> (Builtin.Int.intBits (e : Int)) = 0 := by
    rw [Nat.shiftRight_eq_div_pow]
    apply Nat.div_eq_of_lt
    unfold Builtin.Int.intBits
    split
    · rename_i h
      simp at h; simp [h]
    · rename_i h
      simp only [Int.natAbs_natCast]
      exact Nat.lt_log2_self
  have := key (Builtin.Int.intBits (e : Int))
  rw [h0, Nat.pow_zero] at this
  exact this

theorem entry_pow : entryFor table "pow" = some Builtin.«pow» := entryFor_of_tree (by kernel_rfl)
theorem kind_pow : builtinKind "pow" = none := by decide +kernel
theorem plain_pow : plainId "pow" = true := by decide +kernel
theorem slot_pow' : Slot "int" "__pow__" "int.__pow__" :=
  .of (owner := "int") (n := "__pow__") (by rw [typeLookup_type, builtinLookup_eq_fast]; kernel_rfl) (by decide +kernel) (by decide +kernel) (by decide +kernel)
    (by first | exact .inl (by decide +kernel) | exact .inr (by decide +kernel)) (by rw [isSubtype_type]; kernel_rfl)
theorem args_pow3 (a b c : Value) : argsOk "pow" ⟨[a, b, c], []⟩ := by unfold argsOk; kernel_rfl
theorem args_int_pow3 (a b c : Value) : argsOk "int.__pow__" ⟨[a, b, c], []⟩ := by unfold argsOk; kernel_rfl

section
variable {prog : Program} {w : World} {A : Around} {E : Value → Shared → Prop} {s : Shared} {x y n : Int} {t u v : Tok} {Q : Value → Shared → Prop}

theorem call_int_pow3 (hy : 0 ≤ y) (hn : 1 < n) (h : Q (.int ((x % n).toNat ^ y.toNat % n.toNat : Nat) s.toks) { s with toks := s.toks + 1 }) :
    wpAny (model prog w) A (call (.builtin "int.__pow__") [.int x t, .int y u, .int n v]) Q E s := by
  refine wpAny_call_entry slot_int_pow (typeIs_int s x t) entry_int_pow ?_ (args_int_pow3 _ _ _)
  show wpAny _ _ (if (n == 0) = true then _ else _) _ _ s
  rw [if_neg (by simp; (clear hy; omega))]
  show wpAny _ _ (if (n.natAbs == 1) = true then _ else _) _ _ s
  rw [if_neg (by simp; (clear hy; omega))]
  show wpAny _ _ (if y < 0 then _ else _) _ _ s
  rw [if_neg (by (clear hn; omega))]
  have e : (if (n < 0 && (((Builtin.powMod (x % (n.natAbs : Int)).toNat y.natAbs n.natAbs : Nat) : Int) != 0)) = true then ((Builtin.powMod (x % (n.natAbs : Int)).toNat y.natAbs n.natAbs : Nat) : Int) - n.natAbs else ((Builtin.powMod (x % (n.natAbs : Int)).toNat y.natAbs n.natAbs : Nat) : Int)) = ((x % n).toNat ^ y.toNat % n.toNat : Nat) := by
    rw [if_neg (by simp; (clear hy; omega)), powMod_eq]
    have e1 : (n.natAbs : Int) = n := by (clear hy; omega)
    have e2 : y.natAbs = y.toNat := by (clear hn e1; omega)
    have e3 : n.natAbs = n.toNat := by (clear hy e2; omega)
    rw [e1, e2, e3]
  rw [← e] at h
  repeat (first | refine wpAny_pure ?_ | refine wpAny_mkInt ?_ | refine wpAny_rule ?_ | refine wpAny_bind ?_)
  exact ⟨_, rfl, h⟩

theorem call_pow3 (hy : 0 ≤ y) (hn : 1 < n) (h : Q (.int ((x % n).toNat ^ y.toNat % n.toNat : Nat) s.toks) { s with toks := s.toks + 1 }) :
    wpAny (model prog w) A (call (.builtin "pow") [.int x t, .int y u, .int n v]) Q E s := by
  refine Calls.call_function_entry kind_pow plain_pow entry_pow (args_pow3 _ _ _) ?_
  unfold Builtin.«pow»
  refine wpAny_bind (m := Builtin.Builtins.bindParams "pow" ["base", "exp", "mod"] 2 ⟨[.int x t, .int y u, .int n v], []⟩) (wpAny_of_eq (a := [some (.int x t), some (.int y u), some (.int n v)]) rfl ?_)
  refine wpAny_bind (wpAny_rule ?_)
  refine wpAny_bind (wpAny_typeOf (T := "int") (typeIs_int s x t) ?_)
  refine wpAny_bind (m := typeLookup (.type "int") "__pow__") (wpAny_of_eq (a := some (.builtin "int.__pow__")) slot_pow'.lookup ?_)
  refine wpAny_bind (wpAny_callSpecial?_slot (name := Str.ofString "__pow__") (typeIs_int s x t) slot_pow' (call_int_pow3 hy hn ?_))
  exact wpAny_pure ⟨_, rfl, h⟩
end

section
variable {prog : Program} {w : World} {b : Heap} {C : Cx} {Γ : Vars} {σ : Store} {Q : D → Store → Prop}

theorem WV.pow3 {x y n : Int} (hy : 0 ≤ y) (hn : 1 < n) (q : Q (.int ((x % n).toNat ^ y.toNat % n.toNat : Nat)) σ) : WV (model prog w) b C (fun vs => call (.builtin "pow") vs []) [.int x, .int y, .int n] Γ σ Q := by
  rintro X s m _ S ⟨v, _, rfl, ⟨t, rfl⟩, _, _, rfl, ⟨u, rfl⟩, _, _, rfl, ⟨u', rfl⟩, e⟩
  have e : _ = [] := e
  subst e
  exact call_pow3 hy hn (Post.tok S q ⟨_, rfl⟩)

theorem has_one {a : Addr} {l : List D} (y : Addr) : Store.has [(a, l)] y ↔ y = a := by simp [Store.has]

theorem St.put {X : Addr → Prop} {m : Str → Option Value} {s : Shared} {a : Addr} {l l' : List D} {h' : Heap} {xs : Array Value} (S : St b C X m Γ [(a, l)] s) (hp : h'.PlainList a xs) (hs : Heap.SameBut a s.heap h') (r : Reps s.heap (C.rx X [(a, l)]) l' xs.toList) :
    St b C X m Γ [(a, l')] { s with heap := h' } ∧ Step (Store.has [(a, l)]) [(a, l)] s [(a, l')] { s with heap := h' } := by
  have hrx : ∀ y, C.rx X [(a, l')] y ↔ C.rx X [(a, l)] y := fun y => by simp only [Cx.rx, has_one]
  have hne : ∀ y, ¬ C.rx X [(a, l)] y → y ≠ a := fun y n q => n (.inl ((has_one y).mpr q))
  have hk : ∀ y o, ¬ C.rx X [(a, l)] y → s.heap.get? y = some o → ¬ C.rx X [(a, l')] y ∧ h'.get? y = some o := fun y o n e => ⟨fun q => n ((hrx y).mp q), hs.extBut y o (hne y n) e⟩
  have ha : ∀ y, C.own y → y ≠ a := fun y q z => S.apart a ((has_one a).mpr rfl) (z ▸ q)
  refine ⟨{ S with
    ns := S.ns.at' fun o e => hs.extBut _ o (ha _ (.inl rfl)) e
    keep := fun y o e => hs.extBut y o (fun z => by have := S.new a (.inl ((has_one a).mpr rfl)); rw [z] at e; rw [e] at this; cases this) (S.keep y o e)
    new := fun y q => S.new y (q.elim (fun q => .inl ((has_one y).mpr ((has_one y).mp q))) .inr)
    vars := fun x d e => by
      obtain ⟨v, h1, h2⟩ := S.vars x d e
      refine ⟨v, ?_, Rep.move hk _ _ h2⟩
      rcases h1 with h1 | ⟨h1, c, h3, o, h4, h5⟩
      · exact .inl h1
      · exact .inr ⟨h1, c, h3, o, hs.extBut c o (ha c (.inr (mem_cells h3))) h4, h5⟩
    store := ⟨fun y ds e => by
      have e : y = a ∧ ds = l' := by simpa using e
      obtain ⟨rfl, rfl⟩ := e
      exact ⟨xs, hp, Reps.move hk _ _ r⟩, by simp⟩
    apart := fun y q => S.apart y ((has_one y).mpr ((has_one y).mp q))
    apartX := fun y q => S.apartX y ((has_one y).mpr ((has_one y).mp q))
    cells := fun y c e => by
      obtain ⟨v, o, h1, h2⟩ := S.cells y c e
      exact ⟨v, o, hs.extBut c o (ha c (.inr ⟨y, e⟩)) h1, h2⟩
    live := fun y q => by
      by_cases z : y = a
      · obtain ⟨n, e⟩ := hp; exact ⟨_, z ▸ e⟩
      · obtain ⟨o, e⟩ := S.live y ((hrx y).mp q); exact ⟨o, hs.extBut y o z e⟩ }, ⟨⟨h', s.toks, rfl⟩, fun y o n e => hs.extBut y o (fun z => n ((has_one y).mpr z)) e, fun y q => .inl ((has_one y).mpr ((has_one y).mp q))⟩⟩

theorem St.ptr {X : Addr → Prop} {m : Str → Option Value} {s : Shared} {a : Addr} {l : List D} (S : St b C X m Γ [(a, l)] s) : ∃ xs, s.heap.PlainList a xs ∧ Reps s.heap (C.rx X [(a, l)]) l xs.toList := S.store.at' a l (by simp)

theorem WX.append {x : Str} {p apos pos spos : Pos} {e : PySem.Expr} {a : Addr} {l : List D} {Q : Fl → Vars → Store → Prop} (ok : C.Ok) (hv : Γ.lookup x = some (.raw (.ref a)))
    (h : WE (model prog w) b C e Γ [(a, l)] fun d σ' => ∃ l', σ' = [(a, l')] ∧ l'.length ≤ sizeLine ∧ Q .next Γ [(a, l' ++ [d])])
    (hbase : attributeBase (.Name x p) "append" C.env (eval (.Name x p) C.env) = eval (.Name x p) C.env := by rfl)
    (hfew : ((backTo pos (starEach [e] C.env)).all (fun x => !x.1) && (backToKw pos (keywordEach [] C.env)).all (fun x => x.1.isSome)
      && decide (([e] : List PySem.Expr).length + ([] : List Keyword).length + (if ([] : List Keyword).isEmpty then 0 else 1) < 30)) = true := by rfl)
    (hline : (apos.endLine == pos.line) = true := by rfl) (htrees : backTo pos (starEach [e] C.env) = [(false, eval e C.env)] := by rfl)
    (hd : (x == ("__debug__" : Str)) = false := by decide) (hn : (x == ("__classdict__" : Str)) = false := by decide)
    (hi : interactive C.env = false := by rfl) (hs : swapsWith (.Call (.Attribute (.Name x p) "append" apos) [e] [] pos) none spos.line C.env = pure false := by rfl) :
    WX (model prog w) b C (.Expr (.Call (.Attribute (.Name x p) "append" apos) [e] [] pos) spos) Γ [(a, l)] Q := fun X s m S => by
  refine wpAny_Expr_any (wpAny_Call_append hbase hfew hline htrees ?_) hi hs
  obtain ⟨v, hb, hr⟩ := S.vars x _ hv
  have hr : v = .ref a := hr
  subst hr
  refine wpAny_Name (wp_bound ok.kind S.ns hb ?_ hn) hd
  obtain ⟨xs, ⟨n, e1⟩, _⟩ := S.ptr
  refine ⟨a, xs, rfl, ⟨_, n, e1, rfl, rfl, rfl⟩, ?_⟩
  refine wpAny_mono (h X s m S) (fun y s₁ q => ?_) fun _ _ e => e
  obtain ⟨d, σ', ⟨l', rfl, hz, q⟩, S1, r1, x1⟩ := q
  obtain ⟨ys, hp, ra⟩ := S1.ptr
  have e2 := ra.length
  rw [Array.length_toList] at e2
  refine wpAny_list_append_plain hp (fun h' hp' hs' => ?_) (by omega)
  obtain ⟨S2, x2⟩ := S1.put (l' := l' ++ [d]) hp' hs' (by rw [Array.toList_push]; exact ra.append (Reps.one r1))
  exact ⟨.next, Γ, _, m, q, S2, rfl, (x1.trans x2 fun _ h => h).wider has_ex⟩

theorem setItem_plain {A : Around} {E : Value → Shared → Prop} {s : Shared} {l : Addr} {items : Array Value} {k : Int} {t : Tok} {v : Value} {Q : Unit → Shared → Prop} (hl : s.heap.PlainList l items)
    (h0 : 0 ≤ k) (hfit : k < 2 ^ 63) (hn : k < items.size)
    (hQ : ∀ h', h'.PlainList l (items.setIfInBounds k.toNat v) → Heap.SameBut l s.heap h' → Q () { s with heap := h' }) :
    wpAny (model prog w) A (setItem (.ref l) (.int k t) v) Q E s := by
  obtain ⟨ne, ho⟩ := hl
  have hl : s.heap.IsList l items := Heap.PlainList.isList ⟨ne, ho⟩
  unfold setItem
  try with_reducible refine wpAny_holding ?_
  first | refine wpAny_bind (wpAny_pure ?_) | skip
  refine wpAny_bind (wpAny_sequenceKey hl.typeIs (by decide) ?_)
  refine wpAny_bind (wpAny_callSpecial?_slot (name := Str.ofString "__setitem__") hl.typeIs slot_list_setitem
    (wpAny_call_entry slot_list_setitem hl.typeIs entry_list_setitem ?_ (args_list_setitem _ _ _)))
  show wpAny _ _ (Builtin.List.listSubscript? (.int k t) >>= _) _ _ s
  refine wpAny_bind (wpAny_listSubscript_int (fitsIndex_of h0 hfit) ?_)
  clear hfit
  obtain ⟨j, rfl⟩ := Int.eq_ofNat_of_zero_le h0
  have hj : j < items.size := by (clear h0; omega)
  have hx' : items[j]? = some items[j] := Array.getElem?_eq_getElem hj
  show wpAny _ _ ((seqItemAt l j >>= fun r => pure (r.map (j, ·))) >>= _) _ _ s
  refine wpAny_bind (wpAny_bind (wpAny_seqItemAt ho rfl (wpAny_pure ?_)))
  rw [hx']
  show wpAny _ _ (setSeqItemAt l j v >>= _) _ _ s
  have hfin : (s.heap.update l (Obj.mapSeq (·.setIfInBounds j v))).PlainList l (items.setIfInBounds j v) :=
    ⟨_, Heap.get?_update_self (Obj.mapSeq (·.setIfInBounds j v)) ho rfl⟩
  refine wpAny_bind (wpAny_setSeqItemAt ho rfl ?_)
  first
    | exact wpAny_bind (wpAny_pure (wpAny_pure ⟨.none, rfl, wpAny_pure (hQ _ hfin (Heap.SameBut.update ..))⟩))
    | exact wpAny_pure ⟨.none, rfl, wpAny_pure (hQ _ hfin (Heap.SameBut.update ..))⟩

theorem Reps.set {h : Heap} {N : Addr → Prop} {d : D} {v : Value} (rv : Rep h N d v) : ∀ {ds : List D} {vs : List Value}, Reps h N ds vs → ∀ i : Nat, Reps h N (ds.set i d) (vs.set i v)
  | [], vs, x, i => by have : vs = [] := x; subst this; simp; exact rfl
  | e :: ds, vs, x, i => by
    obtain ⟨u, r, rfl, hu, hr⟩ := x
    cases i with
    | zero => exact ⟨v, r, rfl, rv, hr⟩
    | succ i => exact ⟨u, r.set i v, rfl, hu, Reps.set rv hr i⟩

theorem WX.setP {x : Str} {p p' pos : Pos} {ie e : PySem.Expr} {a : Addr} {l : List D} {Q : Fl → Vars → Store → Prop}
    (h : WE (model prog w) b C e Γ [(a, l)] fun d σ1 => WE (model prog w) b C (.Name x p) Γ σ1 fun c σ2 => WE (model prog w) b C ie Γ σ2 fun i σ3 => ∃ (k : Int) (l' : List D), c = .raw (.ref a) ∧ i = .int k ∧ σ3 = [(a, l')] ∧ 0 ≤ k ∧ k < 2 ^ 63 ∧ k < l'.length ∧ Q .next Γ [(a, l'.set k.toNat d)])
    (hs : swapsWith e (some (.Subscript (.Name x p) ie p')) pos.line C.env = pure false := by rfl) :
    WX (model prog w) b C (.Assign [.Subscript (.Name x p) ie p'] e pos) Γ [(a, l)] Q := fun X s m S => by
  refine wpAny_Assign_Subscript (wpAny_mono (h X s m S) (fun v s₁ q => ?_) fun _ _ e => e) hs
  obtain ⟨d, σ1, h1, S1, r1, x1⟩ := q
  refine wpAny_mono (h1 X s₁ m S1) (fun ov s₂ q => ?_) fun _ _ e => e
  obtain ⟨c, σ2, h2, S2, r2, x2⟩ := q
  refine wpAny_mono (h2 X s₂ m S2) (fun iv s₃ q => ?_) fun _ _ e => e
  obtain ⟨i, σ3, ⟨k, l', rfl, rfl, rfl, h0, h63, hlt, q⟩, S3, r3, x3⟩ := q
  obtain ⟨t, rfl⟩ := r3
  have r2 : ov = .ref a := r2
  subst r2
  obtain ⟨ys, hp, ra⟩ := S3.ptr
  have e2 := ra.length
  rw [Array.length_toList] at e2
  refine setItem_plain hp h0 h63 (by (clear h0 h63; omega)) fun h' hp' hs' => ?_
  have rv := x3.rep has_rx (x2.rep has_rx r1)
  obtain ⟨S4, x4⟩ := S3.put (l' := l'.set k.toNat d) hp' hs' (by rw [Array.toList_setIfInBounds]; exact Reps.set rv ra _)
  exact ⟨.next, Γ, _, m, q, S4, rfl, (((x1.trans x2 fun _ h => h).trans x3 fun _ h => h).trans x4 fun _ h => h).wider has_ex⟩

theorem W2.itemP {value slice : PySem.Expr} {a : Addr} {l : List D} {i : Int} {d : D} (h0 : 0 ≤ i) (h1 : i < 2 ^ 63) (hx : l[i.toNat]? = some d) (h : Q d [(a, l)])
    (hs : ∀ o j, subscripted slice false o j = operate [o, j] (getItem o j) := by intro _ _; rfl) : W2 (model prog w) b C (subscriptTail value slice) (.raw (.ref a)) (.int i) Γ [(a, l)] Q := by
  rintro X s m v _ S e ⟨t, rfl⟩
  have e : v = .ref a := e
  subst e
  obtain ⟨xs, hl, ra⟩ := S.ptr
  obtain ⟨v, hv, rv⟩ := ra.get hx
  exact tail_any hl.isList.typeIs slot_list_getitem.lookup (wpAny_getItem_list hl.isList h0 h1 (by simpa using hv) (Post.same S h rv)) (hs _ _)
theorem W2.lastP {value slice : PySem.Expr} {a : Addr} {l : List D} {d : D} (hx : l.getLast? = some d) (h : Q d [(a, l)])
    (hs : ∀ o j, subscripted slice false o j = operate [o, j] (getItem o j) := by intro _ _; rfl) : W2 (model prog w) b C (subscriptTail value slice) (.raw (.ref a)) (.int (-1)) Γ [(a, l)] Q := by
  rintro X s m v _ S e ⟨t, rfl⟩
  have e : v = .ref a := e
  subst e
  obtain ⟨xs, hl, ra⟩ := S.ptr
  exact tail_any hl.isList.typeIs slot_list_getitem.lookup (last_any hl.isList ra hx fun v rv => Post.same S h rv) (hs _ _)
theorem W2.neP {a : Addr} {l : List D} {e : D} {p q : PyData} (ok : C.Ok) (hp : (D.list l).pd = some p) (hq : e.pd = some q) (h1 : SeqAt.shaped p = true) (h2 : SeqAt.shaped q = true) (h : Q (.bool (!p.eqv q)) [(a, l)]) : W2 (model prog w) b C (compareOp .NotEq) (.raw (.ref a)) e Γ [(a, l)] Q := by
  intro X s m v u S r1 r2
  have r1 : v = .ref a := r1
  subst r1
  obtain ⟨xs, hl, ra⟩ := S.ptr
  have r1' : Rep s.heap (fun y => y ≠ a) (.list l) (.ref a) ∨ True := .inr trivial
  have rd : ∃ as, Reads s.heap (.ref a) p as := by
    obtain ⟨n, ho⟩ := hl
    replace hp := Option.map_eq_some_iff.mp (show (pds l).map PyData.list = some p from hp)
    obtain ⟨ps, e, rfl⟩ := hp
    obtain ⟨as, ra'⟩ := Reps.reads l _ ps ra e
    exact ⟨_, .list ho rfl rfl ra'⟩
  obtain ⟨as, ra'⟩ := rd
  obtain ⟨bs, rb⟩ := Rep.reads e u q r2 hq
  exact ne_dataH ra' rb h1 h2 (by have := ok.units; omega) (Post.same S h rfl)

theorem listP_ {es : List PySem.Expr} {pos : Pos} (h : WArgs (model prog w) b C es pos Γ [] fun ds σ1 => σ1 = [] ∧ ds.length ≤ sizeLine ∧ ∀ a, Q (.raw (.ref a)) [(a, ds)]) : WE (model prog w) b C (.List es pos) Γ [] Q := fun X s m S => by
  refine wpAny_List (wpAny_mono (h X s m S) (fun vs s₁ p => ?_) fun _ _ x => x)
  obtain ⟨ds, σ1, ⟨rfl, hz, hq⟩, S1, r1, x1⟩ := p
  refine ⟨by rw [r1.length]; exact hz, ?_⟩
  generalize ha : s₁.heap.objs.size = a
  have fresh : s₁.heap.get? a = none := by
    cases e : s₁.heap.get? a with
    | none => rfl
    | some o => exact absurd (Heap.lt_size e) (by rw [ha]; exact Nat.lt_irrefl _)
  have at' : (s₁.heap.push { cls := .type "list", data := .seq vs.toArray }).get? a = some { cls := .type "list", data := .seq vs.toArray } := ha ▸ Heap.get?_push_size _ rfl
  have nb : ∀ y o, s₁.heap.get? y = some o → y ≠ a := fun y o e z => by rw [z, fresh] at e; cases e
  have hk : ∀ y o, ¬ C.rx X [] y → s₁.heap.get? y = some o → ¬ C.rx X [(a, ds)] y ∧ (s₁.heap.push { cls := .type "list", data := .seq vs.toArray }).get? y = some o := fun y o n e => ⟨fun q => by
    rcases q with q | q
    · exact nb y o e ((has_one y).mp q)
    · exact n (.inr q), Heap.get?_push_of_some _ e⟩
  have S2 : St b C X m Γ [] { s₁ with heap := s₁.heap.push { cls := .type "list", data := .seq vs.toArray } } := S1.grow fun _ _ e => Heap.get?_push_of_some _ e
  have step : Step (Store.has []) [] s₁ [(a, ds)] { s₁ with heap := s₁.heap.push { cls := .type "list", data := .seq vs.toArray } } :=
    ⟨⟨_, s₁.toks, rfl⟩, fun y o _ e => Heap.get?_push_of_some _ e, fun y q => .inr ((has_one y).mp q ▸ fresh)⟩
  refine ⟨.raw (.ref a), [(a, ds)], hq a, { S2 with
    new := fun y q => q.elim (fun q => ?_) fun q => S1.new y (.inr q)
    vars := fun x d e => by
      obtain ⟨v, h1, h2⟩ := S1.vars x d e
      refine ⟨v, ?_, Rep.move hk _ _ h2⟩
      rcases h1 with h1 | ⟨h1, c, h3, o, h4, h5⟩
      · exact .inl h1
      · exact .inr ⟨h1, c, h3, o, Heap.get?_push_of_some _ h4, h5⟩
    store := ⟨fun y k e => by
      have e : y = a ∧ k = ds := by simpa using e
      obtain ⟨rfl, rfl⟩ := e
      exact ⟨vs.toArray, ⟨0, at'⟩, Reps.move hk _ _ r1⟩, by simp⟩
    apart := fun y q z => by
      obtain ⟨o, e⟩ := S1.live y (.inr (.inl z))
      exact nb y o e ((has_one y).mp q)
    apartX := fun y q z => by
      obtain ⟨o, e⟩ := S1.live y (.inr (.inr z))
      exact nb y o e ((has_one y).mp q)
    live := fun y q => by
      rcases q with q | q
      · exact ⟨_, (has_one y).mp q ▸ at'⟩
      · exact S2.live y (.inr q) }, rfl, x1.trans step fun _ h => h⟩
  have := (has_one y).mp q
  subst this
  cases e : b.get? y with
  | none => rfl
  | some o => have := S1.keep y o e; rw [fresh] at this; cases this

noncomputable def SubF (a : Addr) (l : List D) : Vars → Vars → Prop
  | [], _ => True
  | (x, d) :: r, Γ => (Γ.lookup x = some d ∨ (d = .list l ∧ Γ.lookup x = some (.raw (.ref a)))) ∧ SubF a l r Γ
theorem SubF.get {a : Addr} {l : List D} {Γ : Vars} : ∀ {Γ' : Vars}, SubF a l Γ' Γ → ∀ x d, Γ'.lookup x = some d → Γ.lookup x = some d ∨ (d = .list l ∧ Γ.lookup x = some (.raw (.ref a)))
  | [], _, x, d, e => by simp at e
  | (y, c) :: r, h, x, d, e => by
    rw [List.lookup_cons] at e
    cases hb : x == y with
    | true => rw [hb] at e; cases e; rw [beq_iff_eq.mp hb]; exact h.1
    | false => rw [hb] at e; exact SubF.get h.2 x d e
theorem WS.freeze {M : Model} {ss : List Stmt} {Γ' : Vars} {a : Addr} {l : List D} {Q : Fl → Vars → Store → Prop} (h : WS M b C ss Γ' [] Q) (hs : SubF a l Γ' Γ) : WS M b C ss Γ [(a, l)] Q := fun X s m S => by
  have hk : ∀ y o, ¬ C.rx X [(a, l)] y → s.heap.get? y = some o → ¬ C.rx X [] y ∧ s.heap.get? y = some o := fun y o n e => ⟨fun q => n (q.elim (fun q => absurd q (Store.nil_has y)) .inr), e⟩
  obtain ⟨xs, hp, ra⟩ := S.ptr
  have S' : St b C X m Γ' [] s := { S with
    new := fun y q => q.elim (fun q => absurd q (Store.nil_has y)) fun q => S.new y (.inr q)
    vars := fun x d e => by
      rcases hs.get x d e with e1 | ⟨e0, e1⟩
      · obtain ⟨v, h1, h2⟩ := S.vars x d e1
        exact ⟨v, h1, Rep.move hk _ _ h2⟩
      · subst e0
        obtain ⟨v, h1, h2⟩ := S.vars x _ e1
        have h2 : v = .ref a := h2
        subst h2
        refine ⟨_, h1, a, xs, rfl, fun q => ?_, hp, Reps.move hk _ _ ra⟩
        rcases q with q | q | q
        · exact Store.nil_has a q
        · exact S.apart a ((has_one a).mpr rfl) q
        · exact S.apartX a ((has_one a).mpr rfl) q
    store := ⟨fun y k e => by simp at e, by simp⟩
    apart := fun y q => absurd q (Store.nil_has y)
    apartX := fun y q => absurd q (Store.nil_has y)
    live := fun y q => S.live y (q.elim (fun q => absurd q (Store.nil_has y)) .inr) }
  refine wpAny_mono (h X s m S') (fun fl s' q => ?_) fun _ _ e => e
  obtain ⟨f, Γ'', σ'', m'', q, S'', r, x⟩ := q
  refine ⟨f, Γ'', σ'', m'', q, S'', r, ⟨x.same, fun y o n e => x.ext y o (fun z => n (z.elim (fun z => absurd z (Store.nil_has y)) .inr)) e, fun y z => ?_⟩⟩
  exact (x.fresh y z).elim (fun z => absurd z (Store.nil_has y)) .inr
end
end Mine
namespace Mine

theorem St.hide {b : Heap} {C : Cx} {X : Addr → Prop} {m : Str → Option Value} {Γ : Vars} {σ : Store} {s : Shared} (S : St b C X m Γ σ s) : St b C (fun a => σ.has a ∨ X a) m Γ [] s := by
  have hk : ∀ y o, ¬ C.rx X σ y → s.heap.get? y = some o → ¬ C.rx (fun a => σ.has a ∨ X a) [] y ∧ s.heap.get? y = some o := fun y o n e => ⟨fun q => n (by
    rcases q with q | q | q | q
    · exact absurd q (Store.nil_has y)
    · exact .inr (.inl q)
    · exact .inl q
    · exact .inr (.inr q)), e⟩
  exact { S with
    new := fun a q => S.new a (q.elim (fun q => absurd q (Store.nil_has a)) .inr)
    vars := fun x d e => by obtain ⟨v, h1, h2⟩ := S.vars x d e; exact ⟨v, h1, Rep.move hk _ _ h2⟩
    store := ⟨fun y k e => by simp at e, by simp⟩
    apart := fun y q => absurd q (Store.nil_has y)
    apartX := fun y q => absurd q (Store.nil_has y)
    live := fun a q => S.live a (by
      rcases q with q | q | q | q
      · exact absurd q (Store.nil_has a)
      · exact .inr (.inl q)
      · exact .inl q
      · exact .inr (.inr q)) }
theorem Rep.unhide {C : Cx} {X : Addr → Prop} {σ : Store} {h : Heap} {d : D} {v : Value} (r : Rep h (C.rx (fun a => σ.has a ∨ X a) []) d v) : Rep h (C.rx X σ) d v :=
  Rep.move (fun a o n e => ⟨fun q => n (by
    rcases q with q | q | q
    · exact .inr (.inr (.inl q))
    · exact .inr (.inl q)
    · exact .inr (.inr (.inr q))), e⟩) d v r

theorem WE.hide {M : Model} {b : Heap} {C : Cx} {e : PySem.Expr} {Γ : Vars} {σ : Store} {Q : D → Store → Prop} (h : WE M b C e Γ [] fun d σ' => σ' = [] ∧ Q d σ) : WE M b C e Γ σ Q := fun X s m S => by
  refine wpAny_mono (h _ s m S.hide) (fun v s' q => ?_) fun _ _ e => e
  obtain ⟨d, σ', ⟨rfl, q⟩, S', r, x⟩ := q
  have hk : ∀ a o, s.heap.get? a = some o → s'.heap.get? a = some o := fun a o e => x.ext a o (Store.nil_has a) e
  exact ⟨d, σ, q, S.grow hk, r.unhide, ⟨x.same, fun a o _ e => hk a o e, fun _ z => .inl z⟩⟩

noncomputable def WAL (M : Model) (b : Heap) (C : Cx) (t : PySem.Expr) (d : D) (Γ : Vars) (Q : Vars → Prop) : Prop :=
  ∀ X s m v, St b C X m Γ [] s → Rep s.heap (C.rx X []) d v → wpAny M C.A (assign t C.env v) (fun _ s' => ∃ Γ' m', Q Γ' ∧ St b C X m' Γ' [] s' ∧ Only (fun a => a = C.env.locals) s s') NoE s

section
variable {prog : Program} {w : World} {b : Heap} {C : Cx} {Γ : Vars}

theorem wp_storeL {A : Around} {E : Value → Shared → Prop} {X : Addr → Prop} {s : Shared} {m : Str → Option Value} {x : Str} {d : D} {v : Value} {Q : Unit → Shared → Prop} (ok : C.Ok) (S : St b C X m Γ [] s) (r : Rep s.heap (C.rx X []) d v) (hk : C.env.kindOf x = some .local)
    (h : ∀ s' m', St b C X m' ((x, d) :: Γ) [] s' → Only (fun a => a = C.env.locals) s s' → Q () s') : wpAny (model prog w) A (storeName C.env x v) Q E s := by
  have hL : C.own C.env.locals := .inl rfl
  have hp : (C.env.scope.kind == .class || (C.env.scope.kind == .module && C.env.locals != C.env.globals)) = false := by rw [ok.kind]; rfl
  refine wpAny_storeName_local hk S.ns (fun h' hn hs => ?_) hp
  have key : ∀ y o, ¬ C.rx X [] y → s.heap.get? y = some o → ¬ C.rx X [] y ∧ h'.get? y = some o := fun y o n e =>
    ⟨n, hs.extBut y o (fun q => n (.inr (.inl (q ▸ hL)))) e⟩
  refine h _ (fun y => if y = x then some v else m y) ?_ ⟨⟨_, _, rfl⟩, fun y o n e => hs.extBut y o n e⟩
  refine ⟨hn, fun y o e => ?_, S.new, fun y e hy => ?_, ⟨fun y k e => by simp at e, by simp⟩, S.apart, S.apartX, fun y c hc => ?_, S.cellsApart, fun y hy => ?_⟩
  · refine hs.extBut y o (fun q => ?_) (S.keep y o e)
    have := S.new _ (.inr hL); rw [← q, e] at this; cases this
  · rw [List.lookup_cons] at hy
    cases hb : y == x with
    | true =>
      rw [hb] at hy; cases hy
      have e2 := beq_iff_eq.mp hb
      subst e2
      exact ⟨v, .inl ⟨hk, by simp⟩, Rep.move key d v r⟩
    | false =>
      rw [hb] at hy
      obtain ⟨u, hu, ru⟩ := S.vars y e hy
      refine ⟨u, ?_, Rep.move key e u ru⟩
      have ne : y ≠ x := by intro q; rw [q] at hb; simp at hb
      rcases hu with ⟨h1, h2⟩ | ⟨h1, c, h2, h3⟩
      · exact .inl ⟨h1, by simp only [ne, if_false]; exact h2⟩
      · refine .inr ⟨h1, c, h2, h3.sameBut hs ?_⟩
        rintro rfl
        obtain ⟨o, e1, e2⟩ := h3
        obtain ⟨o', _, _, e3, e4, _⟩ := S.ns
        rw [e1] at e3; cases e3; rw [e2] at e4; cases e4
  · obtain ⟨u, hu⟩ := S.cells y c hc
    refine ⟨u, hu.sameBut hs ?_⟩
    rintro rfl
    obtain ⟨o, e1, e2⟩ := hu
    obtain ⟨o', _, _, e3, e4, _⟩ := S.ns
    rw [e1] at e3; cases e3; rw [e2] at e4; cases e4
  · by_cases q : y = C.env.locals
    · obtain ⟨o, _, _, ho, _⟩ := hn; exact ⟨o, q ▸ ho⟩
    · obtain ⟨o, e⟩ := S.live y hy; exact ⟨o, hs.extBut y o q e⟩

theorem Only.trans {J : Addr → Prop} {s s' s'' : Shared} (x : Only J s s') (y : Only J s' s'') : Only J s s'' := by
  obtain ⟨⟨h, t, rfl⟩, e⟩ := x
  obtain ⟨⟨h', t', rfl⟩, e'⟩ := y
  exact ⟨⟨h', t', rfl⟩, fun a o n z => e' a o n (e a o n z)⟩
theorem Only.wider {J J' : Addr → Prop} {s s' : Shared} (x : Only J s s') (h : ∀ a, J a → J' a) : Only J' s s' := ⟨x.1, fun a o n e => x.2 a o (fun q => n (h a q)) e⟩
theorem Only.of_step {J : Addr → Prop} {s s' : Shared} (x : Step (Store.has []) [] s [] s') : Only J s s' := ⟨x.same, fun a o _ e => x.ext a o (Store.nil_has a) e⟩
theorem Only.of_keep {J : Addr → Prop} {s : Shared} {h' : Heap} {t : Nat} (hk : ∀ a o, s.heap.get? a = some o → h'.get? a = some o) : Only J s { s with heap := h', toks := t } := ⟨⟨h', t, rfl⟩, fun a o _ e => hk a o e⟩

theorem WAL.name {x : Str} {pos : Pos} {d : D} {Q : Vars → Prop} (ok : C.Ok) (h : Q ((x, d) :: Γ)) (hx : C.env.kindOf x = some .local := by rfl) : WAL (model prog w) b C (.Name x pos) d Γ Q := fun X s m v S r =>
  wpAny_assign_Name (wp_storeL ok S r hx fun s' m' S' x => ⟨_, m', h, S', x⟩)

theorem wp_namesL {X : Addr → Prop} {Q : Vars → Prop} (ok : C.Ok) : ∀ (es : List PySem.Expr) (xs : List Str) (ds : List D) (vs : List Value) (Γ : Vars) (s : Shared) (m : Str → Option Value), namesOf es = some xs → St b C X m Γ [] s → Reps s.heap (C.rx X []) ds vs → xs.length = ds.length → (∀ x ∈ xs, C.env.kindOf x = some .local) →
    Q (bindAll xs ds Γ) → wpAny (model prog w) C.A (assignInOrder ((assignEach es C.env).map (·.2)) vs) (fun _ s' => ∃ Γ' m', Q Γ' ∧ St b C X m' Γ' [] s' ∧ Only (fun a => a = C.env.locals) s s') NoE s := by
  intro es
  induction es with
  | nil =>
    intro xs ds vs Γ s m hn S r hl _ q
    cases hn
    cases ds with
    | cons d ds => simp at hl
    | nil => have r : vs = [] := r; subst r; exact wpAny_assignInOrder_none ⟨Γ, m, q, S, ⟨s.heap, s.toks, rfl⟩, fun _ _ _ e => e⟩
  | cons e es ih =>
    intro xs ds vs Γ s m hn S r hl hm q
    replace hn := names_cons hn
    obtain ⟨x, p, ys, rfl, hn, rfl⟩ := hn
    cases ds with
    | nil => simp at hl
    | cons d ds =>
      obtain ⟨v, us, rfl, rv, rs⟩ := r
      show wpAny (model prog w) C.A (assignInOrder (assign (.Name x p) C.env :: (assignEach es C.env).map (·.2)) (v :: us)) _ _ s
      refine wpAny_assignInOrder_more (wpAny_assign_Name (wp_storeL ok S rv (hm x (.head _)) fun s' m' S' x' => ?_))
      have rs' : Reps s'.heap (C.rx X []) ds us := Reps.move (fun a o n e => ⟨n, x'.2 a o (fun z => n (.inr (.inl (.inl z)))) e⟩) _ _ rs
      refine wpAny_mono (ih ys ds us _ s' m' hn S' rs' (by simpa using hl) (fun y hy => hm y (.tail _ hy)) q) (fun _ _ p => ?_) fun _ _ e => e
      obtain ⟨Γ'', m'', q'', S'', x''⟩ := p
      exact ⟨Γ'', m'', q'', S'', x'.trans x''⟩

theorem WAL.tup {es : List PySem.Expr} {k : Nat} {pos : Pos} {ds : List D} {xs : List Str} {Q : Vars → Prop} (ok : C.Ok) (hn : namesOf es = some xs) (hl : xs.length = ds.length) (hm : (xs.all fun x => C.env.kindOf x == some .local) = true) (h : Q (bindAll xs ds Γ)) : WAL (model prog w) b C (.Tuple es k pos) (.tup ds) Γ Q := by
  rintro X s m _ S ⟨a, items, rfl, na, ht, ra⟩
  obtain ⟨h1, h2⟩ := assignEach_names C.env es xs hn
  have e1 := ra.length
  rw [Array.length_toList] at e1
  refine wpAny_assign_Tuple ok.unheld ht.isTup (by rw [h1, e1, hl]) h2 fun h' he => ?_
  have hk : ∀ y o, s.heap.get? y = some o → h'.get? y = some o := fun y o e => he y o (Nat.ne_of_lt (Heap.lt_size e)) e
  have S' : St b C X m Γ [] { s with heap := h' } := S.grow hk
  refine wpAny_mono (wp_namesL ok es xs ds _ Γ _ m hn S' (Reps.move (fun y o n e => ⟨n, hk y o e⟩) ds _ ra) hl (fun x hx => by simpa using List.all_eq_true.mp hm x hx) h) (fun _ _ p => ?_) fun _ _ e => e
  obtain ⟨Γ'', m'', q'', S'', x''⟩ := p
  exact ⟨Γ'', m'', q'', S'', (Only.of_keep (t := s.toks) hk).trans x''⟩

noncomputable def Cx.comp (C : Cx) (scope : Scope) (cl : List (Str × Addr)) (L : Addr) : Cx := { A := C.A, env := compEnvC scope cl L C.env, n := C.n }

noncomputable def Capt (env : Env) : List (Str × Addr) → Prop
  | [] => True
  | (x, c) :: r => env.cells.lookup x = some c ∧ Capt env r
theorem Capt.mem {env : Env} : ∀ {cl : List (Str × Addr)}, Capt env cl → ∀ p ∈ cl, env.cells.lookup p.1 = some p.2
  | (x, c) :: r, h, p, hp => by
    rcases List.mem_cons.mp hp with rfl | hp
    · exact h.1
    · exact Capt.mem h.2 p hp
noncomputable def SubC (env inner : Env) : Vars → Vars → Prop
  | [], _ => True
  | (x, d) :: r, Γ => (Γ.lookup x = some d ∧ (env.kindOf x = some .cell ∨ env.kindOf x = some .free) ∧ (inner.kindOf x = some .cell ∨ inner.kindOf x = some .free) ∧ ∃ c, inner.cells.lookup x = some c ∧ env.cells.lookup x = some c) ∧ SubC env inner r Γ
theorem SubC.get {env inner : Env} {Γ : Vars} : ∀ {Γ' : Vars}, SubC env inner Γ' Γ → ∀ x d, Γ'.lookup x = some d → Γ.lookup x = some d ∧ (env.kindOf x = some .cell ∨ env.kindOf x = some .free) ∧ (inner.kindOf x = some .cell ∨ inner.kindOf x = some .free) ∧ ∃ c, inner.cells.lookup x = some c ∧ env.cells.lookup x = some c
  | [], _, x, d, e => by simp at e
  | (y, c) :: r, h, x, d, e => by
    rw [List.lookup_cons] at e
    cases hb : x == y with
    | true => rw [hb] at e; cases e; rw [beq_iff_eq.mp hb]; exact h.1
    | false => rw [hb] at e; exact SubC.get h.2 x d e

noncomputable def WIf (M : Model) (b : Heap) (C : Cx) (Γ : Vars) (Q : Bool → Prop) : List PySem.Expr → Prop
  | [] => Q true
  | [c] => WT M b C c Γ [] fun t σ' => σ' = [] ∧ Q t
  | _ => False

noncomputable def CompTurn (M : Model) (b : Heap) (C : Cx) (elt t : PySem.Expr) (ifs : List PySem.Expr) (Γ : Vars) (p : D → Bool) (f : D → D) (x : D) : Prop :=
  WAL M b C t x Γ fun Γ1 => WIf M b C Γ1 (fun c => c = p x ∧ (p x = true → WE M b C elt Γ1 [] fun d σ' => σ' = [] ∧ d = f x)) ifs

theorem compLoop_own {A : Around} {R : Result → Shared → Prop} {s : Shared} {elt target iter : PySem.Expr} {ifs : List PySem.Expr} {scope : Scope} {pos : Pos} {it acc : Value} {env : Env} (I : Nat → Shared → Prop)
    (turn : ∀ n s, I n s → wpAny (model prog w) A (pyNext it) (fun r s₁ => match r with
      | none => R (.ok .next) s₁
      | some v => wpAny (model prog w) A (letOwnedTupleGo target it v) (fun _ s₁ => wpAny (model prog w) A (assign target env v) (fun _ s₂ =>
          wpAny (model prog w) A (forIn ifs true fun c r => if r = true then do let ok ← isTrue c env (eval c env); pure (ForInStep.yield ok) else pure (ForInStep.yield r)) (fun ok s₃ =>
            if ok = true then wpAny (model prog w) A (eval elt env) (fun x s₄ =>
              wpAny (model prog w) A (call (.builtin "list.append") [acc, x]) (fun _ s₅ => ∃ m, m < n ∧ I m s₅) NoE s₄) NoE s₃
            else ∃ m, m < n ∧ I m s₃) NoE s₂) NoE s₁) NoE s₁) NoE s)
    (n : Nat) (h : I n s) : codeAny (model prog w) A (.compLoop (.ListComp elt [⟨target, iter, ifs, 0⟩] scope pos) 0 it acc env) R s := by
  refine codeAny_loop rfl I (fun n s hI => ?_) n h
  show wpAny _ A ((compTurn (.ListComp elt [⟨target, iter, ifs, 0⟩] scope pos) 0 it acc env).onRaise (fun x => do noteFrame x env; theTreesLotGoes x)) _ _ s
  refine wpAny_noted ?_
  rw [compTurn_list]
  refine wpAny_bind (wpAny_standAt (wpAny_bind (wpAny_mono (turn n s hI) (fun r s₁ h₁ => ?_) fun _ _ h' => h'.elim)))
  cases r with
  | none => exact wpAny_pure h₁
  | some v =>
    refine wpAny_bind (wpAny_mono h₁ (fun _ s₁ h₁ => ?_) fun _ _ h' => h'.elim)
    refine wpAny_bind (wpAny_mono h₁ (fun _ s₂ h₂ => wpAny_bind (wpAny_mono h₂ (fun ok s₃ h₃ => ?_) fun _ _ h' => h'.elim)) fun _ _ h' => h'.elim)
    cases ok with
    | false =>
      simp only [Bool.false_eq_true, if_false] at h₃ ⊢
      first | exact wpAny_bind (wpAny_pure (wpAny_pure ⟨rfl, h₃⟩)) | exact wpAny_pure ⟨rfl, h₃⟩
    | true =>
      simp only [if_true] at h₃ ⊢
      refine wpAny_bind (wpAny_bind (wpAny_mono h₃ (fun x s₄ h₄ => wpAny_bind (wpAny_mono h₄ (fun _ s₅ h₅ => ?_) fun _ _ h' => h'.elim)) fun _ _ h' => h'.elim))
      exact wpAny_pure (wpAny_pure ⟨rfl, h₅⟩)
end
end Mine
namespace Mine
section
variable {prog : Program} {w : World} {b : Heap} {C : Cx} {Γ : Vars}

theorem capt_apart {env : Env} (ha : env.cells.Pairwise fun x y => x.2 ≠ y.2) : ∀ {cl : List (Str × Addr)}, Capt env cl → (cl.map (·.1)).Nodup → cl.Pairwise fun x y => x.2 ≠ y.2
  | [], _, _ => List.Pairwise.nil
  | (x, c) :: r, h, hn => by
    have hn' : x ∉ r.map (·.1) ∧ (r.map (·.1)).Nodup := by simpa using hn
    refine List.Pairwise.cons (fun p hp e => ?_) (capt_apart ha h.2 hn'.2)
    have e1 := h.1
    have e2 := Capt.mem h.2 p hp
    have e : c = p.2 := e
    subst e
    have := name_of_addr ha (mem_of_lookup e1) (mem_of_lookup e2)
    exact hn'.1 (this ▸ List.mem_map.mpr ⟨p, hp, rfl⟩)

theorem own_comp {scope : Scope} {cl : List (Str × Addr)} {L : Addr} (hcap : Capt C.env cl) {a : Addr} (h : (C.comp scope cl L).own a) : a = L ∨ C.own a := by
  rcases h with h | ⟨y, h⟩
  · exact .inl h
  · exact .inr (.inr ⟨y, Capt.mem hcap _ (mem_of_lookup h)⟩)

theorem St.inner {Γin : Vars} {X : Addr → Prop} {m m' : Str → Option Value} {s : Shared} {scope : Scope} {cl : List (Str × Addr)} {L : Addr} (S : St b C X m Γ [] s) (hL : X L) (hbL : b.get? L = none) (hn : s.heap.Ns L m') (hcap : Capt C.env cl) (hnd : (cl.map (·.1)).Nodup)
    (hsub : SubC C.env (C.comp scope cl L).env Γin Γ) : St b (C.comp scope cl L) (fun a => C.own a ∨ X a) m' Γin [] s := by
  have rx : ∀ a, (C.comp scope cl L).rx (fun a => C.own a ∨ X a) [] a → C.rx X [] a := fun a q => by
    rcases q with q | q | q | q
    · exact .inl q
    · rcases own_comp hcap q with q | q
      · exact .inr (.inr (q ▸ hL))
      · exact .inr (.inl q)
    · exact .inr (.inl q)
    · exact .inr (.inr q)
  exact {
    ns := hn
    keep := S.keep
    new := fun a q => by
      rcases q with q | q
      · exact absurd q (Store.nil_has a)
      · rcases own_comp hcap q with q | q
        · exact q ▸ hbL
        · exact S.new a (.inr q)
    vars := fun x d e => by
      obtain ⟨h1, hk, hk', c, hc', hc⟩ := hsub.get x d e
      obtain ⟨v, hv, rv⟩ := S.vars x d h1
      refine ⟨v, .inr ⟨hk', c, hc', ?_⟩, Rep.move (fun a o n e => ⟨fun q => n (rx a q), e⟩) _ _ rv⟩
      rcases hv with ⟨h2, _⟩ | ⟨_, c2, h3, h4⟩
      · rcases hk with hk | hk <;> (rw [h2] at hk; cases hk)
      · rw [hc] at h3; cases h3; exact h4
    store := ⟨fun y k e => by simp at e, by simp⟩
    apart := fun y q => absurd q (Store.nil_has y)
    apartX := fun y q => absurd q (Store.nil_has y)
    cells := fun y c e => S.cells y c (Capt.mem hcap _ (mem_of_lookup e))
    cellsApart := capt_apart S.cellsApart hcap hnd
    live := fun a q => S.live a (rx a q) }

theorem WIf.use {Q : Bool → Prop} {ifs : List PySem.Expr} {X : Addr → Prop} {m : Str → Option Value} {s : Shared} (h : WIf (model prog w) b C Γ Q ifs) (S : St b C X m Γ [] s) :
    wpAny (model prog w) C.A (forIn ifs true fun c r => if r = true then do let ok ← isTrue c C.env (eval c C.env); pure (ForInStep.yield ok) else pure (ForInStep.yield r)) (fun ok s' => Q ok ∧ St b C X m Γ [] s' ∧ Step (Store.has []) [] s [] s') NoE s := by
  match ifs, h with
  | [], h => exact wpAny_tests_nil ⟨h, S, Step.refl _ _ _⟩
  | [c], h =>
    refine wpAny_tests_one (wpAny_mono (h X s m S) (fun t s' q => ?_) fun _ _ e => e)
    obtain ⟨σ', ⟨rfl, q⟩, S', x⟩ := q
    exact ⟨q, S', x⟩

theorem rx_comp {X : Addr → Prop} {scope : Scope} {cl : List (Str × Addr)} {L : Addr} (hL : X L) (hcap : Capt C.env cl) (a : Addr) : (C.comp scope cl L).rx (fun a => C.own a ∨ X a) [] a ↔ C.rx X [] a := by
  constructor
  · intro q
    rcases q with q | q | q | q
    · exact .inl q
    · rcases own_comp hcap q with q | q
      · exact .inr (.inr (q ▸ hL))
      · exact .inr (.inl q)
    · exact .inr (.inl q)
    · exact .inr (.inr q)
  · intro q
    rcases q with q | q | q
    · exact .inl q
    · exact .inr (.inr (.inl q))
    · exact .inr (.inr (.inr q))

theorem comp_core {X J : Addr → Prop} {m : Str → Option Value} {Γin : Vars} {s : Shared} {elt t iter : PySem.Expr} {ifs : List PySem.Expr} {scope : Scope} {pos : Pos} {cl : List (Str × Addr)} {I Dd L : Addr} {K : Heap → (Addr → Prop) → List D → Prop} {xs : List D} {p : D → Bool} {f : D → D} {R : Result → Shared → Prop} {JJ : Addr → Prop}
    (F : Feeds prog w C.A t J I K) (hself : ∀ (s' : Shared) (N : Addr → Prop) (r : List D) (Q : Value → Shared → Prop) (E : Value → Shared → Prop), K s'.heap N r → Q (.ref I) s' → wpAny (model prog w) C.A (pyIter (.ref I)) Q E s')
    (hJJ : ∀ a, JJ a ↔ J a ∨ (a = Dd ∨ a = L)) (S : St b C (fun a => X a ∨ JJ a) m Γ [] s) (hb : ∀ a, JJ a → b.get? a = none) (ho : ∀ a, JJ a → ¬ C.own a) (hJD : ¬ J Dd) (hJL : ¬ J L) (hDL : Dd ≠ L)
    (k : K s.heap (C.rx (fun a => X a ∨ JJ a) []) xs) (hD : s.heap.PlainList Dd #[]) (hn : ∃ m', s.heap.Ns L m') (hcap : Capt C.env cl) (hnd : (cl.map (·.1)).Nodup) (hsub : SubC C.env (C.comp scope cl L).env Γin Γ)
    (hsz : xs.length ≤ sizeLine) (turn : ∀ x ∈ xs, CompTurn (model prog w) b (C.comp scope cl L) elt t ifs Γin p f x)
    (hR : ∀ s' ys, Only JJ s s' → s'.heap.PlainList Dd ys → Reps s'.heap (C.rx (fun a => X a ∨ JJ a) []) ((xs.filter p).map f) ys.toList → (∃ m', s'.heap.Ns L m') → R (.ok .next) s') :
    codeAny (model prog w) C.A (.compStart (.ListComp elt [⟨t, iter, ifs, 0⟩] scope pos) 0 (.ref I) (.ref Dd) (compEnvC scope cl L C.env)) R s := by
  have hJ1 : ∀ a, J a → JJ a := fun a q => (hJJ a).mpr (.inl q)
  have hJD' : JJ Dd := (hJJ Dd).mpr (.inr (.inl rfl))
  have hJL' : JJ L := (hJJ L).mpr (.inr (.inr rfl))
  have hX1 : (fun a => X a ∨ JJ a) L := .inr hJL'
  have inv : codeAny (model prog w) C.A (.compLoop (.ListComp elt [⟨t, iter, ifs, 0⟩] scope pos) 0 (.ref I) (.ref Dd) (compEnvC scope cl L C.env)) R s := by
    refine compLoop_own (fun n s' => ∃ done rest ys, xs = done ++ rest ∧ n = rest.length ∧ St b C (fun a => X a ∨ JJ a) m Γ [] s' ∧ Only JJ s s' ∧ K s'.heap (C.rx (fun a => X a ∨ JJ a) []) rest ∧ s'.heap.PlainList Dd ys ∧
      Reps s'.heap (C.rx (fun a => X a ∨ JJ a) []) ((done.filter p).map f) ys.toList ∧ ∃ m', s'.heap.Ns L m') ?_ xs.length ⟨[], xs, #[], rfl, rfl, S, ⟨⟨s.heap, s.toks, rfl⟩, fun _ _ _ e => e⟩, k, hD, rfl, hn⟩
    rintro n s' ⟨done, rest, ys, hxs, rfl, S', o', k', hD', ra, m', hn'⟩
    have hN : ∀ a, J a → C.rx (fun a => X a ∨ JJ a) [] a := fun a q => .inr (.inr (.inr (hJ1 a q)))
    have ND : ∀ a, JJ a → C.rx (fun a => X a ∨ JJ a) [] a := fun a q => .inr (.inr (.inr q))
    have hs0 : ∀ (a : Addr), JJ a → ¬ Store.has [] a := fun a _ => Store.nil_has a
    have mvO : ∀ {s1 s2 : Shared}, Only JJ s1 s2 → ∀ a o, ¬ C.rx (fun a => X a ∨ JJ a) [] a → s1.heap.get? a = some o → ¬ C.rx (fun a => X a ∨ JJ a) [] a ∧ s2.heap.get? a = some o := fun x a o n e => ⟨n, x.2 a o (fun q => n (ND a q)) e⟩
    cases rest with
    | nil =>
      refine noE_of (F.done s' _ (fun s₁ => Only J s' s₁) (fun _ _ => False) NoE k' fun s₁ o => o) (fun r s₁ q => ?_)
      cases r with
      | none =>
        have q : Only J s' s₁ := q
        rw [List.append_nil] at hxs
        subst hxs
        obtain ⟨n, e⟩ := hD'
        exact hR s₁ ys (o'.trans (q.wider hJ1)) ⟨n, q.2 Dd _ hJD e⟩ (Reps.move (mvO (q.wider hJ1)) _ _ ra) ⟨m', hn'.at' fun o e => q.2 L o hJL e⟩
      | some v => exact wpAny_mono q (fun _ _ f => f.elim) fun _ _ f => f.elim
    | cons x rest =>
      refine noE_of (F.item s' _ x rest (fun _ => False) (fun v s₂ => K s₂.heap (C.rx (fun a => X a ∨ JJ a) []) rest ∧ Rep s₂.heap (C.rx (fun a => X a ∨ JJ a) []) x v ∧ Only J s' s₂) NoE k' hN (fun a q => S'.live a q) fun v s₂ a b c => ⟨a, b, c⟩) (fun r s₁ q => ?_)
      cases r with
      | none => exact q.elim
      | some v =>
        refine noE_of q fun _ s₂ q => ?_
        obtain ⟨k2, r2, o2⟩ := q
        have live2 : ∀ a, JJ a → ∃ o, s₂.heap.get? a = some o := fun a z => by
          by_cases y : J a
          · exact F.live _ _ _ k2 a y
          · obtain ⟨o, e⟩ := S'.live a (ND a z); exact ⟨o, o2.2 a o y e⟩
        have S2 := S'.only (o2.wider hJ1) (fun a q => .inr q) hb ho hs0 live2
        have hn2 : s₂.heap.Ns L m' := hn'.at' fun o e => o2.2 L o hJL e
        have hD2 : s₂.heap.PlainList Dd ys := by obtain ⟨n, e⟩ := hD'; exact ⟨n, o2.2 Dd _ hJD e⟩
        have ra2 := Reps.move (mvO (o2.wider hJ1)) _ _ ra
        have Si := S2.inner (scope := scope) hX1 (hb L hJL') hn2 hcap hnd hsub
        have toIn : ∀ {h : Heap} {d : D} {v : Value}, Rep h (C.rx (fun a => X a ∨ JJ a) []) d v → Rep h ((C.comp scope cl L).rx (fun a => C.own a ∨ (X a ∨ JJ a)) []) d v := fun r => Rep.move (fun a o n e => ⟨fun q => n ((rx_comp hX1 hcap a).mp q), e⟩) _ _ r
        have toOut : ∀ {h : Heap} {d : D} {v : Value}, Rep h ((C.comp scope cl L).rx (fun a => C.own a ∨ (X a ∨ JJ a)) []) d v → Rep h (C.rx (fun a => X a ∨ JJ a) []) d v := fun r => Rep.move (fun a o n e => ⟨fun q => n ((rx_comp hX1 hcap a).mpr q), e⟩) _ _ r
        refine noE_of (turn x (by rw [hxs]; simp) _ s₂ m' v Si (toIn r2)) fun _ s₃ q => ?_
        obtain ⟨Γ1, m1, hif, Si1, o3⟩ := q
        have o3 : Only (fun a => a = L) s₂ s₃ := o3
        have o3J : Only JJ s₂ s₃ := o3.wider fun a q => q ▸ hJL'
        have S3 := S2.only o3J (fun a q => .inr q) hb ho hs0 fun a z => by
          by_cases y : a = L
          · exact Si1.live a (.inr (.inl (.inl y)))
          · obtain ⟨o, e⟩ := live2 a z; exact ⟨o, o3.2 a o y e⟩
        have k3 := F.move _ s₃.heap _ (C.rx (fun a => X a ∨ JJ a) []) _ k2 (fun a o q e => o3.2 a o (fun z => hJL (z ▸ q)) e) (mvO o3J)
        have hD3 : s₃.heap.PlainList Dd ys := by obtain ⟨n, e⟩ := hD2; exact ⟨n, o3.2 Dd _ hDL e⟩
        have ra3 := Reps.move (mvO o3J) _ _ ra2
        refine noE_of (hif.use Si1) fun ok s₄ q => ?_
        obtain ⟨⟨rfl, helt⟩, Si2, x4⟩ := q
        have hk4 : ∀ a o, s₃.heap.get? a = some o → s₄.heap.get? a = some o := fun a o e => x4.ext a o (Store.nil_has a) e
        have o4 : Only JJ s₃ s₄ := Only.of_step x4
        have S4 := S3.grow hk4
        have k4 := F.move _ s₄.heap _ (C.rx (fun a => X a ∨ JJ a) []) _ k3 (fun a o _ e => hk4 a o e) (mvO o4)
        have hD4 : s₄.heap.PlainList Dd ys := by obtain ⟨n, e⟩ := hD3; exact ⟨n, hk4 _ _ e⟩
        have ra4 := Reps.move (mvO o4) _ _ ra3
        have oo4 := ((o'.trans (o2.wider hJ1)).trans o3J).trans o4
        have hlen : done.length + rest.length + 1 = xs.length := by rw [hxs]; simp; (clear hDL hsz; omega)
        cases hp : p x with
        | false =>
          simp only [Bool.false_eq_true, if_false]
          refine ⟨rest.length, by simp, done ++ [x], rest, ys, by simp [hxs], rfl, S4, oo4, k4, hD4, ?_, m1, Si2.ns⟩
          rw [List.filter_append, List.filter_cons_of_neg (by rw [hp]; decide)]
          simpa using ra4
        | true =>
          simp only [if_true]
          refine noE_of (helt hp _ s₄ m1 Si2) fun y s₅ q => ?_
          obtain ⟨d, σ', ⟨rfl, rfl⟩, Si3, r5, x5⟩ := q
          have hk5 : ∀ a o, s₄.heap.get? a = some o → s₅.heap.get? a = some o := fun a o e => x5.ext a o (Store.nil_has a) e
          have o5 : Only JJ s₄ s₅ := Only.of_step x5
          have S5 := S4.grow hk5
          have k5 := F.move _ s₅.heap _ (C.rx (fun a => X a ∨ JJ a) []) _ k4 (fun a o _ e => hk5 a o e) (mvO o5)
          have hD5 : s₅.heap.PlainList Dd ys := by obtain ⟨n, e⟩ := hD4; exact ⟨n, hk5 _ _ e⟩
          have ra5 := Reps.move (mvO o5) _ _ ra4
          have hys := ra5.length
          rw [Array.length_toList, List.length_map] at hys
          have hfl : (done.filter p).length ≤ done.length := List.length_filter_le ..
          refine wpAny_list_append_plain hD5 (fun h' hp' hs' => ?_) (by (clear hDL; omega))
          have o6 : Only (fun a => a = Dd) s₅ { s₅ with heap := h' } := ⟨⟨h', s₅.toks, rfl⟩, fun a o n e => hs'.extBut a o n e⟩
          have o6J : Only JJ s₅ { s₅ with heap := h' } := o6.wider fun a q => q ▸ hJD'
          have S6 := S5.only o6J (fun a q => .inr q) hb ho hs0 fun a z => by
            by_cases y : a = Dd
            · obtain ⟨n, e⟩ := hp'; exact ⟨_, y ▸ e⟩
            · obtain ⟨o, e⟩ := S5.live a (ND a z); exact ⟨o, o6.2 a o y e⟩
          have k6 := F.move _ h' _ (C.rx (fun a => X a ∨ JJ a) []) _ k5 (fun a o q e => o6.2 a o (fun z => hJD (z ▸ q)) e) (mvO o6J)
          refine ⟨rest.length, by simp, done ++ [x], rest, _, by simp [hxs], rfl, S6, (oo4.trans o5).trans o6J, k6, hp', ?_, m1, Si3.ns.at' fun o e => o6.2 L o (Ne.symm hDL) e⟩
          rw [List.filter_append, List.filter_cons_of_pos hp, List.map_append, Array.toList_push]
          refine (Reps.move (mvO o6J) _ _ ra5).append (Reps.one (Rep.move (mvO o6J) _ _ (toOut r5)))
  exact codeAny_compStart_list inv (hself _ _ _ _ _ k inv)

theorem comp0_ {elt t iter : PySem.Expr} {ifs : List PySem.Expr} {scope : Scope} {pos : Pos} {p : D → Bool} {f : D → D} {Q : D → Store → Prop} (cl : List (Str × Addr)) (Γin : Vars) (ok : C.Ok)
    (h : WE (model prog w) b C iter Γ [] fun d σ1 => σ1 = [] ∧ ∃ xs, Items d xs ∧ xs.length ≤ sizeLine ∧ (∀ L, (C.comp scope cl L).Ok → ∀ x ∈ xs, CompTurn (model prog w) b (C.comp scope cl L) elt t ifs Γin p f x) ∧ Q (.list ((xs.filter p).map f)) [])
    (hsub : ∀ L, SubC C.env (C.comp scope cl L).env Γin Γ) (hclos : closureFor scope C.env = pure cl := by rfl) (hcap : Capt C.env cl := by exact trivial) (hnd : (cl.map (·.1)).Nodup := by decide)
    (hcell : ∀ y ∈ scope.names, y.2 ≠ .cell := by decide) (hkind : scope.kind = .function := by rfl) (hnames : ∀ x ∈ scope.names, x.2 = .local → scope.names.lookup x.1 = some .local := by decide)
    (hs : ∀ x, foldedSetIterable iter C.env x = pure x := by intro _; rfl) :
    WE (model prog w) b C (.ListComp elt [⟨t, iter, ifs, 0⟩] scope pos) Γ [] Q := fun X s m S => by
  rw [eval_ListComp]
  refine wpAny_comprehension_free (e := .ListComp elt [⟨t, iter, ifs, 0⟩] scope pos) (use := Option.none) (g := ⟨t, iter, ifs, 0⟩) (gs := []) rfl hs hclos hkind hnames (wpAny_mono (h X s m S) (fun xv s₁ q => ?_) fun _ _ e => e)
  obtain ⟨d, σ1, ⟨rfl, xs, hi, hz, turn, hQ⟩, S1, r1, x1⟩ := q
  refine wp_iter (prog := prog) (w := w) hi S1 r1 ok.unheld fun s₂ I J K F hself hJ S2 hk hsm k => ?_
  obtain ⟨hd, hb, ho, hs'⟩ := J_out S1 hJ
  refine wpAny_newObj_type (wpAny_newFunctionEnv hcell (by intro y hy; simp at hy) (fun h₁ hns₁ hsb₁ => ?_) hkind)
  dsimp only at hns₁ hsb₁ ⊢
  generalize hH2 : s₂.heap.push { cls := .type "list", dict := none, data := .seq ([] : List Value).toArray } = H2 at hns₁ hsb₁ ⊢
  have hCsz : H2.objs.size = s₂.heap.objs.size + 1 := by rw [← hH2, Heap.size_push]
  generalize hDd : s₂.heap.objs.size = Dd at *
  generalize hL : H2.objs.size = L at *
  have hDleL : Dd ≤ L := by rw [hCsz]; exact Nat.le_succ _
  have hDL : Dd ≠ L := by rw [hCsz]; exact (Nat.succ_ne_self _).symm
  have geJ : ∀ a, (a = Dd ∨ a = L) → Dd ≤ a := fun a q => q.elim (fun q => Nat.le_of_eq q.symm) fun q => q ▸ hDleL
  have fresh : ∀ a, Dd ≤ a → s₂.heap.get? a = none := fun a ha => by
    cases e : s₂.heap.get? a with
    | none => rfl
    | some o' => exact absurd (Heap.lt_size e) (Nat.not_lt.mpr (hDd ▸ ha))
  have old : ∀ a o, s₂.heap.get? a = some o → h₁.get? a = some o := fun a o e => by
    refine hsb₁.extBut a o (fun q => ?_) (Heap.get?_push_of_some _ (hH2 ▸ Heap.get?_push_of_some _ e))
    rw [q, fresh L hDleL] at e; cases e
  have hacc : h₁.PlainList Dd #[] := ⟨_, hsb₁.extBut _ _ hDL (Heap.get?_push_of_some _ (hH2 ▸ hDd ▸ Heap.get?_push_size _ rfl))⟩
  have nJ : ∀ a, Dd ≤ a → ¬ J a := fun a ha z => by obtain ⟨o, e⟩ := F t |>.live _ _ _ k a z; rw [fresh a ha] at e; cases e
  let s₃ : Shared := { s₂ with heap := h₁, toks := s₂.toks + ([] : List (Str × Value)).length }
  have S3 : St b C (fun a => X a ∨ (J a ∨ (a = Dd ∨ a = L))) m Γ [] s₃ := by
    have z := S2.moreX (s' := s₃) (J := fun a => a = Dd ∨ a = L) old (fun a q => fresh a (geJ a q)) (fun a q => by
      rcases q with q | q
      · obtain ⟨n, e⟩ := hacc; exact ⟨_, q ▸ e⟩
      · obtain ⟨o, _, _, e, _⟩ := hns₁; exact ⟨o, q ▸ e⟩)
    have e : (fun a => (X a ∨ J a) ∨ (a = Dd ∨ a = L)) = fun a => X a ∨ (J a ∨ (a = Dd ∨ a = L)) := by funext a; exact propext or_assoc
    rw [e] at z
    exact z
  have bnone : ∀ a, s₁.heap.get? a = none → b.get? a = none := fun a e => by
    cases q : b.get? a with
    | none => rfl
    | some o => rw [S1.keep a o q] at e; cases e
  have new1 : ∀ a, Dd ≤ a → s₁.heap.get? a = none := fun a ha => by
    cases e : s₁.heap.get? a with
    | none => rfl
    | some o => have := hk a o e; rw [fresh a ha] at this; cases this
  have allNew : ∀ a, (J a ∨ (a = Dd ∨ a = L)) → s₁.heap.get? a = none := fun a q => by
    rcases q with q | q | q
    · exact hJ a q
    · exact new1 a (geJ a (.inl q))
    · exact new1 a (geJ a (.inr q))
  have okL : (C.comp scope cl L).Ok := ⟨hkind, ok.glob, ok.blt, ok.room, ok.units, ok.unheld⟩
  have k3 := F t |>.move _ h₁ _ (C.rx (fun a => X a ∨ (J a ∨ (a = Dd ∨ a = L))) []) _ k (fun a o _ e => old a o e) (fun a o n e => ⟨fun q => by
    rcases q with q | q | q | q | q | q
    · exact n (.inl q)
    · exact n (.inr (.inl q))
    · exact n (.inr (.inr (.inl q)))
    · exact n (.inr (.inr (.inr q)))
    · rw [fresh a (geJ a (.inl q))] at e; cases e
    · rw [fresh a (geJ a (.inr q))] at e; exact (nomatch e), old a o e⟩)
  refine comp_core (s := s₃) (JJ := fun a => J a ∨ (a = Dd ∨ a = L)) (F t) hself (fun _ => Iff.rfl) S3 (fun a q => bnone a (allNew a q)) (fun a q z => by obtain ⟨o, e⟩ := S1.live a (.inr (.inl z)); rw [allNew a q] at e; cases e)
    (nJ Dd (Nat.le_refl _)) (nJ L hDleL) hDL k3 hacc ⟨_, hns₁⟩ hcap hnd (hsub L) hz (turn L okL) fun s₄ ys o4 hD4 ra4 hn4 => ?_
  obtain ⟨m4, hn4⟩ := hn4
  refine ⟨m4, hn4, fun h' hs'' => ?_⟩
  have o5 : Only (fun a => J a ∨ (a = Dd ∨ a = L)) s₃ { s₄ with heap := h' } := by
    obtain ⟨⟨h4, t4, rfl⟩, e4⟩ := o4
    exact ⟨⟨h', t4, rfl⟩, fun a o n e => hs''.extBut a o (fun q => n (.inr (.inr q))) (e4 a o n e)⟩
  have hk5 : ∀ a o, s₁.heap.get? a = some o → h'.get? a = some o := fun a o e => o5.2 a o (fun q => by rw [allNew a q] at e; cases e) (old a o (hk a o e))
  have sm : ∃ hh tk, ({ s₄ with heap := h' } : Shared) = { s₁ with heap := hh, toks := tk } := by
    obtain ⟨⟨h4, t4, rfl⟩, _⟩ := o4
    obtain ⟨h2, t2, e2⟩ := hsm
    refine ⟨h', t4, ?_⟩
    show ({ s₂ with heap := h', toks := t4 } : Shared) = _
    rw [e2]
  have S5 : St b C X m Γ [] { s₄ with heap := h' } := S1.grow hk5
  refine Post.then x1 ⟨_, [], hQ, S5, ⟨Dd, ys, rfl, fun q => ?_, ?_, Reps.move (fun a o n e => ⟨fun q => n ?_, hs''.extBut a o (fun q => n (.inr (.inr (.inr (.inr (.inr q)))))) e⟩) _ _ ra4⟩, ⟨sm, fun a o _ e => hk5 a o e, fun _ z => .inl z⟩⟩
  · obtain ⟨o, e⟩ := S1.live Dd q
    rw [new1 Dd (Nat.le_refl _)] at e; cases e
  · obtain ⟨n, e⟩ := hD4; exact ⟨n, hs''.extBut _ _ hDL e⟩
  · rcases q with q | q | q
    · exact .inl q
    · exact .inr (.inl q)
    · exact .inr (.inr (.inl q))

theorem comp_ {σ : Store} {elt t iter : PySem.Expr} {ifs : List PySem.Expr} {scope : Scope} {pos : Pos} {p : D → Bool} {f : D → D} {Q : D → Store → Prop} (cl : List (Str × Addr)) (Γin : Vars) (ok : C.Ok)
    (h : WE (model prog w) b C iter Γ [] fun d σ1 => σ1 = [] ∧ ∃ xs, Items d xs ∧ xs.length ≤ sizeLine ∧ (∀ L, (C.comp scope cl L).Ok → ∀ x ∈ xs, CompTurn (model prog w) b (C.comp scope cl L) elt t ifs Γin p f x) ∧ Q (.list ((xs.filter p).map f)) σ)
    (hsub : ∀ L, SubC C.env (C.comp scope cl L).env Γin Γ) (hclos : closureFor scope C.env = pure cl := by rfl) (hcap : Capt C.env cl := by exact trivial) (hnd : (cl.map (·.1)).Nodup := by decide)
    (hcell : ∀ y ∈ scope.names, y.2 ≠ .cell := by decide) (hkind : scope.kind = .function := by rfl) (hnames : ∀ x ∈ scope.names, x.2 = .local → scope.names.lookup x.1 = some .local := by decide)
    (hs : ∀ x, foldedSetIterable iter C.env x = pure x := by intro _; rfl) :
    WE (model prog w) b C (.ListComp elt [⟨t, iter, ifs, 0⟩] scope pos) Γ σ Q :=
  WE.hide (comp0_ cl Γin ok (Q := fun d σ' => σ' = [] ∧ Q d σ) (fun X s m S => by
    refine wpAny_mono (h X s m S) (fun v s' q => ?_) fun _ _ e => e
    obtain ⟨d, σ', ⟨e, xs, h1, h2, h3, h4⟩, r⟩ := q
    exact ⟨d, σ', ⟨e, xs, h1, h2, h3, rfl, h4⟩, r⟩) hsub hclos hcap hnd hcell hkind hnames hs)
end
end Mine
namespace Mine
section
variable {prog : Program} {w : World} {b : Heap} {C : Cx} {Γ : Vars} {σ : Store} {Q : D → Store → Prop}

theorem bitLength_ {o : PySem.Expr} {apos pos : Pos}
    (h : WE (model prog w) b C o Γ σ fun d σ' => ∃ i, d = .int i ∧ Q (.int (Builtin.Int.intBits i)) σ')
    (hbase : attributeBase o "bit_length" C.env (eval o C.env) = eval o C.env := by rfl)
    (hfew : methodCallForm (([] : List PySem.Expr).length + ([] : List Keyword).length) (backTo pos (starEach [] C.env)) (backToKw pos (keywordEach [] C.env)) = true := by rfl)
    (hline : (apos.endLine == pos.line) = true := by rfl) (htrees : backTo pos (starEach [] C.env) = [] := by rfl) :
    WE (model prog w) b C (.Call (.Attribute o "bit_length" apos) [] [] pos) Γ σ Q := fun X s m S => by
  rw [arm_eval_Call, hbase]
  refine wpAny_bind (wpAny_mono (h X s m S) (fun ov s₁ q => ?_) fun _ _ e => e)
  obtain ⟨d, σ', ⟨i, rfl, q⟩, S1, ⟨t, rfl⟩, x1⟩ := q
  refine wpAny_bind (wpAny_standAt ?_)
  have fin : wpAny (model prog w) C.A (callWith pos (.builtin "int.bit_length") [.int i t] (backTo pos (starEach [] C.env)) []) (Post b C X m Γ σ s Q) NoE s₁ := by
    rw [htrees]
    exact Calls.callWith_builtin rfl (PyProof.Rows.evalArgs_none (call_int_bit_length (Post.then x1 (Post.tok S1 q ⟨_, rfl⟩))))
  have hpos : methodCallPos true o C.env apos pos = pure pos := by unfold methodCallPos; simp [hline]
  unfold methodCall
  rw [hfew]
  refine wpAny_bind (wpAny_holding (getMethod_int_bit_length ?_))
  exact wpAny_bind (wpAny_of_eq hpos fin)

structure AttrOk (K : Frag) (cls : Addr) (name : Str) : Prop where
  get : plainGet K cls name = true
  dict : hasDictIn K cls = true
  attr : ∃ attr, findIn K (.ref cls) name = some attr ∧ noGet K attr = true

theorem getL_zip {name : Str} {v : Value} : ∀ (ks : List (Int × Tok)) (fs : List (Str × Value)), ks.length = fs.length → fs.lookup name = some v → getL name (List.zipWith (fun k f => (⟨k.1, .str f.1 k.2, f.2⟩ : DictEntry)) ks fs) = some (some v)
  | [], [], _, e => by simp at e
  | [], _ :: _, h, _ => by simp at h
  | _ :: _, [], h, _ => by simp at h
  | k :: ks, f :: fs, h, e => by
    obtain ⟨x, u⟩ := f
    rw [List.lookup_cons] at e
    unfold getL
    rw [List.zipWith_cons_cons, List.find?_cons]
    have hk : (Value.str x k.2).isStr name = (name == x) := by
      show (x == name) = (name == x)
      rw [Bool.eq_iff_iff, beq_iff_eq, beq_iff_eq]; exact eq_comm
    simp only [hk]
    cases hb : name == x with
    | true => rw [hb] at e; cases e; rfl
    | false =>
      rw [hb] at e
      have ih := getL_zip ks fs (by simpa using h) e
      unfold getL at ih
      simp only
      split at ih
      · first | exact ih | (rename_i y hy; rw [hy]; exact ih)
      · split at ih <;> cases ih

theorem attr_ {K : Frag} {x name : Str} {xp pos : Pos} (B : Base K b) (h : WE (model prog w) b C (.Name x xp) Γ σ fun d σ' => ∃ cls fs v, d = .inst cls fs ∧ AttrOk K cls name ∧ fs.lookup name = some v ∧ handedIn v = true ∧ Q (.raw v) σ') :
    WE (model prog w) b C (.Attribute (.Name x xp) name pos) Γ σ Q := fun X s m S => by
  refine Attribute_name (wpAny_mono (h X s m S) (fun ov s₁ q => ?_) fun _ _ e => e)
  obtain ⟨d, σ', ⟨cls, fs, v, rfl, hA, hl, hh, q⟩, S1, ⟨y, dx, es, n, rfl, n1, n2, e1, e2, ks, rfl, hks⟩, x1⟩ := q
  obtain ⟨attr, ha1, ha2⟩ := hA.attr
  have I : InstAt s₁.heap y (instObj cls dx) cls (some (dictOf (List.zipWith (fun k f => (⟨k.1, .str f.1 k.2, f.2⟩ : DictEntry)) ks fs) n)) := ⟨e1, rfl, rfl, e2⟩
  exact get_value (B.K.keeps S1.keep) I (plainGet_of hA.get).1 (findObj_own hA.dict ha1 ha2 (by rw [lookIn_dict]; exact getL_zip ks fs hks hl)) hh (Post.then x1 (Post.tok S1 q rfl))
end

section
variable {prog : Program} {w : World} {A : Around} {E : Value → Shared → Prop} {s : Shared}
theorem sliceApplied_parts {sl : Addr} {vl vu vs : Value} {lo hi st : Option Int} {n : Nat} {Q : Int × Int × Nat → Shared → Prop} (hs : s.heap.IsSliceOf sl vl vu vs) (pl : IsPart vl lo) (pu : IsPart vu hi) (ps : IsPart vs st) (h0 : st.getD 1 ≠ 0)
    (h : Q ((Builtin.Slice.sliceAdjust lo hi (st.getD 1) n).1, st.getD 1, Builtin.Slice.slicePlaces (Builtin.Slice.sliceAdjust lo hi (st.getD 1) n).1 (Builtin.Slice.sliceAdjust lo hi (st.getD 1) n).2 (st.getD 1)) s) :
    wpAny (model prog w) A (Builtin.Slice.sliceApplied (.ref sl) (pure (n : Int))) Q E s := by
  obtain ⟨os, hos, hcs, hds⟩ := id hs
  unfold Builtin.Slice.sliceApplied Builtin.Slice.sliceFields
  refine wpAny_bind (wpAny_bind (wpAny_field hos hds (x := vl) rfl (wpAny_bind (wpAny_field hos hds (x := vu) rfl (wpAny_bind (wpAny_field hos hds (x := vs) rfl (wpAny_pure ?_)))))))
  have part : ∀ {v : Value} {p : Option Int} {Q : Option Int → Shared → Prop}, IsPart v p → Q p s → wpAny (model prog w) A (Builtin.Slice.slicePartIndex v) Q E s := fun hp q => by
    cases hp with
    | none => exact slicePart_none q
    | int i t => exact slicePart_int q
  refine wpAny_bind (part ps ?_)
  show wpAny _ _ (if ((st.getD 1) == 0) = true then _ else _) _ _ s
  rw [if_neg (by simpa using h0)]
  refine wpAny_bind (part pl (wpAny_bind (part pu (wpAny_bind (wpAny_pure ?_)))))
  exact wpAny_pure h

theorem getItem_tuple_slice {t sl : Addr} {items : Array Value} {vl vu vs : Value} {lo hi st : Option Int} {a c : Int} {n : Nat} {Q : Value → Shared → Prop} (ht : IsTup s.heap t items) (hs : s.heap.IsSliceOf sl vl vu vs) (pl : IsPart vl lo) (pu : IsPart vu hi) (ps : IsPart vs st) (h0 : st.getD 1 ≠ 0)
    (ha : Builtin.Slice.sliceAdjust lo hi (st.getD 1) items.size = (a, c)) (hn : Builtin.Slice.slicePlaces a c (st.getD 1) = n) (hw : ¬ (a = 0 ∧ st.getD 1 = 1 ∧ n = items.size)) (hle : n ≤ sizeLine)
    (h : Q (.ref s.heap.objs.size) { s with heap := s.heap.push { cls := .type "tuple", data := .seq ((List.range n).filterMap fun (k : Nat) => items[(a + (k : Int) * (st.getD 1)).toNat]?).toArray } }) :
    wpAny (model prog w) A (getItem (.ref t) (.ref sl)) Q E s := by
  have hfit : sizeOk (.seq ((List.range n).filterMap fun (k : Nat) => items[(a + (k : Int) * (st.getD 1)).toNat]?).toArray) := by
    show (((List.range n).filterMap fun (k : Nat) => items[(a + (k : Int) * (st.getD 1)).toNat]?).toArray).size ≤ sizeLine
    rw [List.size_toArray]
    have := List.length_filterMap_le (fun (k : Nat) => items[(a + (k : Int) * (st.getD 1)).toNat]?) (List.range n)
    rw [List.length_range] at this
    (clear h0 hn hw; omega)
  obtain ⟨os, hos, hcs, hds⟩ := id hs
  have hTs : s.TypeIs (.ref sl) "slice" := ⟨os, hos, hcs⟩
  unfold getItem
  try with_reducible refine wpAny_holding ?_
  first | refine wpAny_bind (wpAny_pure ?_) | skip
  refine wpAny_bind (wpAny_sequenceKey ht.typeIs (by decide) ?_)
  refine wpAny_bind (wpAny_callSpecial?_slot (name := Str.ofString "__getitem__") ht.typeIs slot_tuple_getitem
    (wpAny_call_entry slot_tuple_getitem ht.typeIs entry_tuple_getitem ?_ (args_tuple_getitem _ _)))
  show wpAny _ _ (Builtin.Tuple.tupleItemsOf (.ref t) >>= _) _ _ s
  refine wpAny_bind (tupleItemsOf_ ht ?_)
  refine wpAny_bind (wpAny_typeOf hTs ?_)
  rw [if_pos (by decide)]
  refine wpAny_bind (sliceApplied_parts hs pl pu ps h0 ?_)
  rw [ha]
  dsimp only
  rw [hn]
  have hno : ¬ ((a == 0 && (st.getD 1) == 1 && n == items.size) = true) := by
    intro q
    simp only [Bool.and_eq_true, beq_iff_eq] at q
    exact hw ⟨q.1.1, q.1.2, q.2⟩
  rw [if_neg hno]
  first
    | exact wpAny_bind (m := Builtin.Tuple.tupleExact _) (wpAny_newObj_type (wpAny_pure ⟨_, rfl, wpAny_pure h⟩) hfit)
    | exact wpAny_bind (m := Builtin.Tuple.tupleExact _) (wpAny_newObj_type (wpAny_bind (wpAny_pure (wpAny_pure ⟨_, rfl, wpAny_pure h⟩))) hfit)
    | exact wpAny_bind (wpAny_bind (m := Builtin.Tuple.tupleExact _) (wpAny_newObj_type (wpAny_pure (wpAny_pure ⟨_, rfl, wpAny_pure h⟩)) hfit))
    | exact wpAny_bind (wpAny_bind (m := Builtin.Tuple.tupleExact _) (wpAny_newObj_type (wpAny_pure ⟨_, rfl, wpAny_pure h⟩) hfit))
end

section
variable {prog : Program} {w : World} {b : Heap} {C : Cx} {Γ : Vars} {σ : Store} {Q : D → Store → Prop}

theorem sliceT_ {value slice : PySem.Expr} {l r : List D} {lo hi st : Option Int} {a c : Int} {n : Nat} (h0 : st.getD 1 ≠ 0)
    (ha : Builtin.Slice.sliceAdjust lo hi (st.getD 1) l.length = (a, c)) (hn : Builtin.Slice.slicePlaces a c (st.getD 1) = n) (hw : ¬ (a = 0 ∧ st.getD 1 = 1 ∧ n = l.length)) (hle : n ≤ sizeLine)
    (hr : ((List.range n).map fun (k : Nat) => (a + (k : Int) * (st.getD 1)).toNat).filterMap (fun i => l[i]?) = r) (h : Q (.tup r) σ)
    (hs : ∀ o j, ∃ ops, subscripted slice false o j = operate ops (getItem o j) := by intro _ _; exact ⟨_, rfl⟩) : W2 (model prog w) b C (subscriptTail value slice) (.tup l) (.slice lo hi st) Γ σ Q := by
  rintro X s m _ _ S ⟨t, xs, rfl, na, hl, ra⟩ ⟨a', vl, vu, vs, rfl, na', hs', p1, p2, p3⟩
  obtain ⟨ops, hs⟩ := hs (.ref t) (.ref a')
  have e1 := ra.length
  rw [Array.length_toList] at e1
  refine tail_any hl.isTup.typeIs slot_tuple_getitem.lookup (getItem_tuple_slice hl.isTup hs' p1 p2 p3 h0 (by rw [e1]; exact ha) hn (by rw [e1]; exact hw) hle ?_) hs
  have e2 : (List.range n).filterMap (fun (k : Nat) => xs[(a + (k : Int) * (st.getD 1)).toNat]?) = ((List.range n).map fun (k : Nat) => (a + (k : Int) * (st.getD 1)).toNat).filterMap (fun i => xs.toList[i]?) := by
    rw [List.filterMap_map]; congr 1; funext k; simp
  refine Post.newTup S (n := 0) (ds := r) ?_ h _
  rw [e2, ← hr]
  exact ra.gather _

theorem W2.tupRev {value slice : PySem.Expr} {l : List D} (hz : l.length ≤ sizeLine) (h : Q (.tup l.reverse) σ)
    (hs : ∀ o j, ∃ ops, subscripted slice false o j = operate ops (getItem o j) := by intro _ _; exact ⟨_, rfl⟩) : W2 (model prog w) b C (subscriptTail value slice) (.tup l) (.slice Option.none Option.none (some (-1))) Γ σ Q := by
  refine sliceT_ (a := (l.length : Int) - 1) (c := -1) (n := l.length) (by decide) ?_ ?_ ?_ hz ?_ h hs
  · rfl
  · show Builtin.Slice.slicePlaces _ (-1) (-1) = _
    unfold Builtin.Slice.slicePlaces
    cases l with
    | nil => rfl
    | cons d r =>
      show (if ((r.length + 1 : Nat) : Int) - 1 > -1 then (((r.length + 1 : Nat) : Int) - 1 + 1 - 1) / 1 + 1 else 0).toNat = r.length + 1
      rw [Int.natCast_succ, Int.add_sub_cancel, if_pos (Int.lt_of_lt_of_le (by decide) (Int.natCast_nonneg _)), Int.ediv_one, Int.add_sub_cancel]
      rfl
  · rintro ⟨_, q, _⟩; exact absurd q (by decide)
  · exact (congrArg (List.filterMap (l[·]?)) (rev_map l.length)).trans (pick_all l)
theorem W2.tupTake {value slice : PySem.Expr} {l : List D} {k : Nat} (hk : k < l.length) (hz : l.length ≤ sizeLine) (h : Q (.tup (l.take k)) σ)
    (hs : ∀ o j, ∃ ops, subscripted slice false o j = operate ops (getItem o j) := by intro _ _; exact ⟨_, rfl⟩) : W2 (model prog w) b C (subscriptTail value slice) (.tup l) (.slice Option.none (some (k : Int)) Option.none) Γ σ Q := by
  refine sliceT_ (a := 0) (c := (k : Int)) (n := k) (by decide) ?_ (places_from 0 k (Nat.zero_le k)) (fun q => Nat.ne_of_lt hk q.2.2) (Nat.le_trans (Nat.le_of_lt hk) hz) ?_ h hs
  · show ((0 : Int), if (k : Int) < 0 then max ((k : Int) + l.length) 0 else min (k : Int) l.length) = _
    rw [if_neg (Int.not_lt.mpr (Int.natCast_nonneg k)), Int.min_eq_left (Int.ofNat_le.mpr (Nat.le_of_lt hk))]
  · rw [List.map_congr_left (g := id) (fun j _ => by show ((0 : Int) + (j : Int) * 1).toNat = j; rw [Int.mul_one, Int.zero_add]; rfl), List.map_id]
    exact pick_run' l k
theorem W2.tupDrop {value slice : PySem.Expr} {l : List D} {k : Nat} (h1 : 1 ≤ k) (hk : k ≤ l.length) (hz : l.length ≤ sizeLine) (h : Q (.tup (l.drop k)) σ)
    (hs : ∀ o j, ∃ ops, subscripted slice false o j = operate ops (getItem o j) := by intro _ _; exact ⟨_, rfl⟩) : W2 (model prog w) b C (subscriptTail value slice) (.tup l) (.slice (some (k : Int)) Option.none Option.none) Γ σ Q := by
  refine sliceT_ (a := (k : Int)) (c := (l.length : Int)) (n := l.length - k) (by decide) (adjust_from k l.length hk) (places_from k l.length hk) (fun q => Nat.ne_of_gt h1 (Int.ofNat.inj q.1)) (Nat.le_trans (Nat.sub_le ..) hz) ?_ h hs
  rw [List.map_congr_left (g := (k + ·)) (fun j _ => by show ((k : Int) + (j : Int) * 1).toNat = k + j; rw [Int.mul_one]; rfl)]
  have := pick_run l.toArray k (l.length - k)
  rw [List.take_of_length_le (Nat.le_of_eq (List.length_drop ..))] at this
  rwa [show (l.toArray[·]?) = (l[·]?) from funext fun x => List.getElem?_toArray] at this
end
end Mine
namespace Mine
open AutoSeq1 (wpAny_loadPart')

theorem meets_enumerate_newT (l : Addr) (items : Array Value) (n : Nat) :
    Meets (Builtin.«enumerate.__new__» ⟨[.type "enumerate", .ref l], []⟩) (fun _ R s => s.heap.get? l = some { cls := .type "tuple", data := .seq items n } ∧
      R (.ok (.ret (.ref (s.heap.push { cls := .type "tuple_iterator", data := .fields #[.ref l, .int 0 0] }).objs.size)))
        { s with heap := (s.heap.push { cls := .type "tuple_iterator", data := .fields #[.ref l, .int 0 0] }).push { cls := .type "enumerate", data := .fields #[.none, .bool false, .ref s.heap.objs.size, rawInt 0, .none, .none] } }) :=
  .of_wp fun prog w A R s h => by
    obtain ⟨hp, g, d, tk, os⟩ := s; obtain ⟨hl, h⟩ := h
    have hsub := sub_enumerate
    have hL : IsTup (Shared.heap ⟨hp, g, d, tk, os⟩) l items := ⟨_, hl, rfl, n, rfl⟩
    wp_walk using wpAny_loadPart' hl
    refine wpAny_stack_any fun st => wpAny_pure ?_
    split
    · rename_i c _ _ _ _ _
      cases (c == Value.type "enumerate")
      · wp_walk using wpAny_loadPart' hl, iter_tuple hL
        exact ⟨_, rfl, h⟩
      · wp_walk using wpAny_loadPart' hl, iter_tuple hL
        exact ⟨_, rfl, h⟩
    · wp_walk using wpAny_loadPart' hl, iter_tuple hL
      exact ⟨_, rfl, h⟩

section
variable {prog : Program} {w : World} {A : Around} {E : Value → Shared → Prop} {s : Shared}
theorem call_enumerate_T {l : Addr} {items : Array Value} {n : Nat} {Q : Value → Shared → Prop}
    (hl : s.heap.get? l = some { cls := .type "tuple", data := .seq items n })
    (h : ∀ h', IsEnum h' (s.heap.objs.size + 1) s.heap.objs.size 0 .none → IsTupIter h' s.heap.objs.size l 0 → h'.objs.size = s.heap.objs.size + 2 →
      (∀ b o, s.heap.get? b = some o → h'.get? b = some o) → Q (.ref (s.heap.objs.size + 1)) { s with heap := h' }) :
    wpAny (model prog w) A (call (.type "enumerate") [.ref l]) Q E s := by
  refine callType_new F.called_enumerate (by decide) (F.typeCall_enumerate_1 _) (F.newCall_enumerate_1 _) (fun obj => F.args_object_init_2 obj _) F.entry_enumerate_new
    (meets_enumerate_newT l items n) ⟨hl, ?_⟩
  have hz : (s.heap.push { cls := .type "tuple_iterator", data := .fields #[.ref l, .int 0 0] }).objs.size = s.heap.objs.size + 1 := Heap.size_push ..
  show _ ∧ _
  rw [hz]
  have he : IsEnum ((s.heap.push { cls := .type "tuple_iterator", data := .fields #[.ref l, .int 0 0] }).push
      { cls := .type "enumerate", data := .fields #[.none, .bool false, .ref s.heap.objs.size, rawInt 0, .none, .none] }) (s.heap.objs.size + 1) s.heap.objs.size 0 .none := by
    have := Heap.get?_push_size (s.heap.push { cls := .type "tuple_iterator", data := .fields #[.ref l, .int 0 0] })
      (o := { cls := .type "enumerate", data := .fields #[.none, .bool false, .ref s.heap.objs.size, rawInt 0, .none, .none] }) rfl
    rw [hz] at this; exact this
  refine ⟨⟨_, he, rfl⟩, h _ he ⟨_, Heap.get?_push_of_some _ (Heap.get?_push_size _ rfl), rfl, rfl⟩ (by rw [Heap.size_push, hz]) fun b o x => Heap.get?_push_of_some _ (Heap.get?_push_of_some _ x)⟩
end

noncomputable def enumD (l : List D) : List D := l.zipIdx.map fun p => D.tup [.int (p.2 : Nat), p.1]

section
variable {prog : Program} {w : World} {b : Heap} {C : Cx} {Γ : Vars} {σ : Store} {Q : Fl → Vars → Store → Prop}

theorem forEnum_ {K : Frag} {x : Str} {xp cpos pos tpos : Pos} {k : Nat} {ts : List PySem.Expr} {e : PySem.Expr} {body : List Stmt} (ok : C.Ok) (B : Base K b)
    (h : WE (model prog w) b C (.Name x xp) Γ σ fun df σ1 => df = .raw (.type "enumerate") ∧ WArgs (model prog w) b C [e] cpos Γ σ1 fun ds σ2 => ∃ l, (ds = [.list l] ∨ ds = [.tup l]) ∧ Loop (model prog w) b C (.Tuple ts k tpos) body Q (enumD l) Γ σ2)
    (he : starEach [e] C.env = [(false, eval e C.env)] := by rfl) (hp : (backTo cpos (starEach [] C.env)).any (·.1) = false := by rfl)
    (hs : ∀ v, foldedSetIterable (.Call (.Name x xp) [e] [] cpos) C.env v = pure v := by intro _; rfl) :
    WX (model prog w) b C (.For (.Tuple ts k tpos) (.Call (.Name x xp) [e] [] cpos) body [] pos) Γ σ Q := fun X s m S => by
  refine wpAny_For (wpAny_Call_Name_kw (wpAny_mono (h X s m S) (fun f s₁ q => ?_) fun _ _ x => x)) hs
  obtain ⟨df, σ1, ⟨rfl, h1⟩, S1, r1, x1⟩ := q
  have r1 : f = .type "enumerate" := r1
  subst r1
  have h2 := h1 X s₁ m S1
  rw [he] at h2 ⊢
  refine callWith_of (P := fun h => K.In h) (by show ((false || (backTo cpos (starEach [] C.env)).any (·.1)) || false) = false; rw [hp]; rfl) (fun h X => Kept.type (K := K) _ h X) (Calls.evalArgs_plain (wpAny_mono h2 (fun vs s₂ q => ?_) fun _ _ x => x))
  obtain ⟨ds, σ2, ⟨l, hd, hl⟩, S2, r2, x2⟩ := q
  refine ⟨B.K.keeps S2.keep, ?_⟩
  have x12 := x1.trans x2 fun _ h => h
  have fresh : ∀ a, s₂.heap.objs.size ≤ a → s₂.heap.get? a = none := fun a ha => by
    cases e : s₂.heap.get? a with
    | none => rfl
    | some o => exact absurd (Heap.lt_size e) (Nat.not_lt.mpr ha)
  have hJ : ∀ a, (a = s₂.heap.objs.size + 1 ∨ a = s₂.heap.objs.size) → s₂.heap.get? a = none := fun a q => q.elim (fun q => fresh a (q ▸ Nat.le_succ _)) fun q => fresh a (q ▸ Nat.le_refl _)
  have hne : s₂.heap.objs.size + 1 ≠ s₂.heap.objs.size := Nat.succ_ne_self _
  obtain ⟨hd1, hb, ho, hs'⟩ := J_out S2 hJ
  have hk' : ∀ {h' : Heap}, (∀ b o, s₂.heap.get? b = some o → h'.get? b = some o) → ∀ a o, ¬ C.rx X σ2 a → s₂.heap.get? a = some o → ¬ C.rx (fun a => X a ∨ (a = s₂.heap.objs.size + 1 ∨ a = s₂.heap.objs.size)) σ2 a ∧ h'.get? a = some o := fun hk a o n e => And.intro (fun q => by
    rcases q with q | q | q | q
    · exact n (.inl q)
    · exact n (.inr (.inl q))
    · exact n (.inr (.inr q))
    · rw [hJ a q] at e; cases e) (hk a o e)
  rcases hd with rfl | rfl
  · obtain ⟨v, _, rfl, ⟨a, xs, rfl, na, ⟨n, hp'⟩, ra⟩, e'⟩ := r2
    have e' : _ = [] := e'
    subst e'
    refine call_enumerate_1 hp' fun h' he' hit hz hk => ?_
    refine wpAny_pyIter_enum he' ?_
    have S3 := S2.moreX (s' := { s₂ with heap := h' }) (J := fun a => a = s₂.heap.objs.size + 1 ∨ a = s₂.heap.objs.size) hk hJ (fun a q => by
      rcases q with rfl | rfl
      · exact ⟨_, he'⟩
      · obtain ⟨o, e, _⟩ := hit; exact ⟨o, e⟩)
    refine codeAny_mono (loop_core (feedsEnumL ok.unheld ts k tpos _ _ hne) S3 hd1 hb ho hs' ⟨a, xs, l, 0, .none, he', hit, ⟨n, hk _ _ hp'⟩, (hk' hk a _ na hp').1, Reps.move (hk' hk) _ _ ra, rfl⟩ hl) fun r s' q => ?_
    have := q.out hJ hk ⟨h', s₂.toks, rfl⟩
    cases r with
    | ok fl => exact PostS.then (x12.wider has_ex) S2.ownLive this
    | error e => exact this.elim
  · obtain ⟨v, _, rfl, ⟨a, xs, rfl, na, ⟨n, hp'⟩, ra⟩, e'⟩ := r2
    have e' : _ = [] := e'
    subst e'
    refine call_enumerate_T hp' fun h' he' hit hz hk => ?_
    refine wpAny_pyIter_enum he' ?_
    have S3 := S2.moreX (s' := { s₂ with heap := h' }) (J := fun a => a = s₂.heap.objs.size + 1 ∨ a = s₂.heap.objs.size) hk hJ (fun a q => by
      rcases q with rfl | rfl
      · exact ⟨_, he'⟩
      · obtain ⟨o, e, _⟩ := hit; exact ⟨o, e⟩)
    refine codeAny_mono (loop_core (feedsEnumT ok.unheld ts k tpos _ _ hne) S3 hd1 hb ho hs' ⟨a, xs, l, 0, .none, Nat.zero_le _, he', hit, ⟨n, hk _ _ hp'⟩, (hk' hk a _ na hp').1, Reps.move (hk' hk) _ _ ra, rfl⟩ hl) fun r s' q => ?_
    have := q.out hJ hk ⟨h', s₂.toks, rfl⟩
    cases r with
    | ok fl => exact PostS.then (x12.wider has_ex) S2.ownLive this
    | error e => exact this.elim
end
end Mine
namespace Mine
section
variable {M : Model} {b : Heap} {C : Cx} {Γ : Vars} {σ : Store}
theorem WS.mono {ss : List Stmt} {Q Q' : Fl → Vars → Store → Prop} (h : WS M b C ss Γ σ Q) (hq : ∀ f Γ σ, Q f Γ σ → Q' f Γ σ) : WS M b C ss Γ σ Q' := fun X s m S =>
  wpAny_mono (h X s m S) (fun fl s' q => by obtain ⟨f, Γ', σ', m', q, r⟩ := q; exact ⟨f, Γ', σ', m', hq _ _ _ q, r⟩) fun _ _ e => e
theorem WT.mono {e : PySem.Expr} {Q Q' : Bool → Store → Prop} (h : WT M b C e Γ σ Q) (hq : ∀ t σ, Q t σ → Q' t σ) : WT M b C e Γ σ Q' := fun X s m S =>
  wpAny_mono (h X s m S) (fun fl s' q => by obtain ⟨σ', q, r⟩ := q; exact ⟨σ', hq _ _ q, r⟩) fun _ _ e => e
theorem WE.mono {e : PySem.Expr} {Q Q' : D → Store → Prop} (h : WE M b C e Γ σ Q) (hq : ∀ t σ, Q t σ → Q' t σ) : WE M b C e Γ σ Q' := fun X s m S =>
  wpAny_mono (h X s m S) (fun fl s' q => by obtain ⟨d, σ', q, r⟩ := q; exact ⟨d, σ', hq _ _ q, r⟩) fun _ _ e => e
theorem WA.mono {t : PySem.Expr} {d : D} {Q Q' : Vars → Store → Prop} (h : WA M b C t d Γ σ Q) (hq : ∀ t σ, Q t σ → Q' t σ) : WA M b C t d Γ σ Q' := fun X s m v S r =>
  wpAny_mono (h X s m v S r) (fun fl s' q => by obtain ⟨d, σ', m', q, r⟩ := q; exact ⟨d, σ', m', hq _ _ q, r⟩) fun _ _ e => e
theorem loopK.mono {k k' : Vars → Store → Prop} {Q : Fl → Vars → Store → Prop} (h : ∀ Γ σ, k Γ σ → k' Γ σ) : ∀ f Γ σ, loopK k Q f Γ σ → loopK k' Q f Γ σ
  | .next, _, _, x => h _ _ x
  | .cont, _, _, x => h _ _ x
  | .brk, _, _, x => x
  | .ret _, _, _, x => x
end
section
variable {prog : Program} {w : World} {b : Heap} {C : Cx} {Γ : Vars} {σ : Store}
structure LoopR (k : Vars → Store → Prop) (Q J : Fl → Vars → Store → Prop) : Prop where
  next : ∀ Γ σ, k Γ σ → J .next Γ σ
  cont : ∀ Γ σ, k Γ σ → J .cont Γ σ
  brk : ∀ Γ σ, Q .next Γ σ → J .brk Γ σ
  ret : ∀ d Γ σ, Q (.ret d) Γ σ → J (.ret d) Γ σ
theorem LoopR.own {k : Vars → Store → Prop} {Q : Fl → Vars → Store → Prop} : LoopR k Q (loopK k Q) := ⟨fun _ _ h => h, fun _ _ h => h, fun _ _ h => h, fun _ _ _ h => h⟩
theorem loopNext {k : Vars → Store → Prop} {Q J : Fl → Vars → Store → Prop} {Γ : Vars} {σ : Store} (r : LoopR k Q J) (h : k Γ σ) : J .next Γ σ := r.next _ _ h
theorem loopRet {k : Vars → Store → Prop} {Q J : Fl → Vars → Store → Prop} {Γ : Vars} {σ : Store} {d : D} (r : LoopR k Q J) (h : Q (.ret d) Γ σ) : J (.ret d) Γ σ := r.ret _ _ _ h
@[reducible] noncomputable def whileK (M : Model) (b : Heap) (C : Cx) (body : List Stmt) (Γ : Vars) (J Q : Fl → Vars → Store → Prop) : Bool → Store → Prop := fun c σ => (c = true → WS M b C body Γ σ J) ∧ (c = false → Q .next Γ σ)
theorem whileI_ {t : PySem.Expr} {body : List Stmt} {pos : Pos} {Q : Fl → Vars → Store → Prop} (I : Nat → Vars → Store → Prop) (h0 : ∃ k, I k Γ σ)
    (step : ∀ k J, LoopR (fun Γ' σ' => ∃ k', k' < k ∧ I k' Γ' σ') Q J → ∀ Γ σ, I k Γ σ → WT (model prog w) b C t Γ σ (whileK (model prog w) b C body Γ J Q)) : WX (model prog w) b C (.While t body [] pos) Γ σ Q := by
  obtain ⟨k, h0⟩ := h0
  refine WX.while ⟨k + 1, ?_⟩
  have key : ∀ n k Γ σ, k < n → I k Γ σ → LoopW (model prog w) b C t body Q n Γ σ := by
    intro n
    induction n with
    | zero => intro k Γ σ h; omega
    | succ n ih =>
      intro k Γ σ hk hI
      refine (step k _ .own Γ σ hI).mono fun c σ1 q => ⟨fun hc => (q.1 hc).mono (loopK.mono ?_), q.2⟩
      rintro Γ' σ' ⟨k', hk', hI'⟩
      exact ih k' Γ' σ' (by omega) hI'
  exact key _ _ _ _ (Nat.lt_succ_self _) h0
theorem loopI_ {t : PySem.Expr} {body : List Stmt} {Q : Fl → Vars → Store → Prop} (I : List D → Vars → Store → Prop)
    (step : ∀ x xs J, LoopR (fun Γ' σ' => I xs Γ' σ') Q J → ∀ Γ σ, I (x :: xs) Γ σ → WA (model prog w) b C t x Γ σ (bodyK (model prog w) b C body J))
    (done : ∀ Γ σ, I [] Γ σ → Q .next Γ σ) : ∀ xs Γ σ, I xs Γ σ → Loop (model prog w) b C t body Q xs Γ σ
  | [], Γ, σ, h => done Γ σ h
  | x :: xs, Γ, σ, h => (step x xs _ .own Γ σ h).mono fun Γ1 σ1 q => q.mono (loopK.mono fun Γ' σ' z => loopI_ I step done xs Γ' σ' z)
theorem forI_ {t iter : PySem.Expr} {body : List Stmt} {pos : Pos} {Q : Fl → Vars → Store → Prop} (I : List D → Vars → Store → Prop) (ok : C.Ok)
    (h : WE (model prog w) b C iter Γ σ fun d σ1 => ∃ xs, Items d xs ∧ I xs Γ σ1)
    (step : ∀ x xs J, LoopR (fun Γ' σ' => I xs Γ' σ') Q J → ∀ Γ σ, I (x :: xs) Γ σ → WA (model prog w) b C t x Γ σ (bodyK (model prog w) b C body J))
    (done : ∀ Γ σ, I [] Γ σ → Q .next Γ σ) (hs : ∀ x, foldedSetIterable iter C.env x = pure x := by intro _; rfl) : WX (model prog w) b C (.For t iter body [] pos) Γ σ Q :=
  WX.for ok (h.mono fun d σ1 q => by obtain ⟨xs, h1, h2⟩ := q; exact ⟨xs, h1, loopI_ I step done xs Γ σ1 h2⟩) hs
end

noncomputable abbrev Has (Γ : Vars) (x : Str) (d : D) : Prop := Γ.lookup x = some d

theorem has_skip {Γ : Vars} {x y : Str} {d e : D} (h : (x == y) = false) (h2 : Γ.lookup x = some d) : List.lookup x ((y, e) :: Γ) = some d := by rw [List.lookup_cons, h]; exact h2
noncomputable def dgF (B : Nat) : Nat → Nat → List Nat
  | 0, _ => []
  | f + 1, n => if n = 0 then [] else n % B :: dgF B f (n / B)
noncomputable def dg (B n : Nat) : List Nat := dgF B n n
noncomputable def val (B : Nat) : List Nat → Nat
  | [] => 0
  | x :: l => x + B * val B l

theorem dgF_enough {B : Nat} (hB : 2 ≤ B) : ∀ f g n, n ≤ f → n ≤ g → dgF B f n = dgF B g n
  | 0, 0, n, _, _ => rfl
  | 0, g + 1, n, h, _ => by have : n = 0 := by (clear hB; omega)
                            subst this; simp [dgF]
  | f + 1, 0, n, _, h => by have : n = 0 := by (clear hB; omega)
                            subst this; simp [dgF]
  | f + 1, g + 1, n, h1, h2 => by
    unfold dgF
    by_cases h : n = 0
    · simp [h]
    · simp only [h, if_false]
      have : n / B < n := Nat.div_lt_self (by (clear hB h1 h2; omega)) hB
      rw [dgF_enough hB f g (n / B) (by (clear hB h2 h; omega)) (by (clear hB h1 h; omega))]
theorem dg_zero (B : Nat) : dg B 0 = [] := rfl
theorem dg_pos {B n : Nat} (hB : 2 ≤ B) (hn : 0 < n) : dg B n = n % B :: dg B (n / B) := by
  obtain ⟨m, rfl⟩ : ∃ m, n = m + 1 := ⟨n - 1, by (clear hB; omega)⟩
  show dgF B (m + 1) (m + 1) = _
  have : (m + 1) / B < m + 1 := Nat.div_lt_self (by (clear hB; omega)) hB
  rw [dgF, if_neg (by (clear hB this; omega)), dgF_enough hB m ((m + 1) / B) ((m + 1) / B) (by (clear hB hn; omega)) (Nat.le_refl _)]
  rfl
theorem val_dg {B : Nat} (hB : 2 ≤ B) (n : Nat) : val B (dg B n) = n := by
  induction n using Nat.strongRecOn with
  | ind n ih =>
    by_cases h : n = 0
    · subst h; rfl
    · rw [dg_pos hB (by (clear hB; omega)), val, ih _ (Nat.div_lt_self (by (clear hB; omega)) hB)]
      exact Nat.mod_add_div n B
theorem dg_lt {B : Nat} (hB : 2 ≤ B) : ∀ (n x : Nat), x ∈ dg B n → x < B := by
  intro n
  induction n using Nat.strongRecOn with
  | ind n ih =>
    intro x hx
    by_cases h : n = 0
    · subst h; simp [dg_zero] at hx
    · rw [dg_pos hB (by (clear hB; omega))] at hx
      rcases List.mem_cons.mp hx with rfl | hx
      · exact Nat.mod_lt _ (by (clear h; omega))
      · exact ih _ (Nat.div_lt_self (by (clear hB; omega)) hB) x hx
theorem dg_nil {B n : Nat} (hB : 2 ≤ B) : dg B n = [] ↔ n = 0 := by
  constructor
  · intro h
    rcases Nat.eq_zero_or_pos n with q | q
    · exact q
    · rw [dg_pos hB q] at h; cases h
  · rintro rfl; rfl
theorem dg_len {B : Nat} (hB : 2 ≤ B) : ∀ n, (dg B n).length ≤ n := by
  intro n
  induction n using Nat.strongRecOn with
  | ind n ih =>
    by_cases h : n = 0
    · subst h; simp [dg_zero]
    · rw [dg_pos hB (by (clear hB; omega)), List.length_cons]
      have := ih _ (Nat.div_lt_self (by (clear hB; omega)) hB)
      have := Nat.div_lt_self (show 0 < n by (clear hB this; omega)) hB
      (clear hB h; omega)
noncomputable def Can (B : Nat) (l : List Nat) : Prop := (∀ x ∈ l, x < B) ∧ l.getLast? ≠ some 0
theorem Can.dg {B : Nat} (hB : 2 ≤ B) : ∀ l, Can B l → dg B (val B l) = l
  | [], _ => rfl
  | [x], h => by
    have hx : x < B := h.1 x (by simp)
    have h0 : x ≠ 0 := by intro q; exact h.2 (by simp [q])
    show Mine.dg B (x + B * 0) = [x]
    rw [Nat.mul_zero, Nat.add_zero, dg_pos hB (by (clear hB hx; omega)), Nat.mod_eq_of_lt hx, Nat.div_eq_of_lt hx, dg_zero]
  | x :: y :: l, h => by
    have hx : x < B := h.1 x (by simp)
    have ht : Can B (y :: l) := ⟨fun z hz => h.1 z (List.mem_cons_of_mem _ hz), by have := h.2; rwa [List.getLast?_cons_cons] at this⟩
    have ih := Can.dg hB _ ht
    have hpos : 0 < val B (y :: l) := by
      rcases Nat.eq_zero_or_pos (val B (y :: l)) with q | q
      · rw [q, dg_zero] at ih; cases ih
      · exact q
    have hp2 : 0 < x + B * val B (y :: l) := by
      have := Nat.mul_pos (show 0 < B by (clear hx hpos; omega)) hpos; (clear hB hx hpos; omega)
    show Mine.dg B (x + B * val B (y :: l)) = _
    rw [dg_pos hB hp2, Nat.add_mul_mod_self_left, Nat.mod_eq_of_lt hx, Nat.add_mul_div_left _ _ (by (clear hx hpos hp2; omega)), Nat.div_eq_of_lt hx, Nat.zero_add, ih]
theorem can_dg {B : Nat} (hB : 2 ≤ B) : ∀ n, Can B (Mine.dg B n) := by
  intro n
  refine ⟨dg_lt hB n, ?_⟩
  induction n using Nat.strongRecOn with
  | ind n ih =>
    by_cases h : n = 0
    · subst h; simp [dg_zero]
    · rw [dg_pos hB (by (clear hB; omega))]
      by_cases h2 : n / B = 0
      · rw [h2, dg_zero]
        have := Nat.mod_add_div n B
        rw [h2, Nat.mul_zero] at this
        simp; (clear hB h2; omega)
      · rw [dg_pos hB (Nat.pos_of_ne_zero h2), List.getLast?_cons_cons, ← dg_pos hB (Nat.pos_of_ne_zero h2)]
        exact ih _ (Nat.div_lt_self (by (clear hB; omega)) hB)

noncomputable def nats (l : List Nat) : List D := l.map fun (n : Nat) => D.int (n : Int)
noncomputable abbrev row (B n : Nat) : D := .list (nats (dg B n))

theorem nat_fmod (a b : Nat) : Int.fmod (a : Int) (b : Int) = ((a % b : Nat) : Int) := by
  rw [Int.fmod_eq_emod_of_nonneg _ (Int.natCast_nonneg b)]; rfl
theorem nat_fdiv (a b : Nat) : Int.fdiv (a : Int) (b : Int) = ((a / b : Nat) : Int) := by
  rw [Int.fdiv_eq_ediv_of_nonneg _ (Int.natCast_nonneg b)]; rfl
end Mine
namespace Mine
noncomputable def gtab : List (Str × D) := [(Str.ofString "normal", .raw (.ref 46)), (Str.ofString "nat_of", .raw (.ref 53)), (Str.ofString "is_even", .raw (.ref 60)), (Str.ofString "compare", .raw (.ref 67)), (Str.ofString "add", .raw (.ref 74)), (Str.ofString "sub", .raw (.ref 81)), (Str.ofString "shift_right", .raw (.ref 88)), (Str.ofString "trailing", .raw (.ref 95)), (Str.ofString "Tools", .raw (.ref 112)), (Str.ofString "is_limb", .raw (.ref 123)), (Str.ofString "is_nat", .raw (.ref 128)), (Str.ofString "is_between", .raw (.ref 135)), (Str.ofString "small_value", .raw (.ref 142)), (Str.ofString "is_small_prime", .raw (.ref 147)), (Str.ofString "power_of", .raw (.ref 154)), (Str.ofString "product_of", .raw (.ref 161)), (Str.ofString "is_one", .raw (.ref 168)), (Str.ofString "is_pair", .raw (.ref 175)), (Str.ofString "are_pairs", .raw (.ref 180)), (Str.ofString "has_whole_order", .raw (.ref 187)), (Str.ofString "pratt", .raw (.ref 192)), (Str.ofString "pratt_holds", .raw (.ref 197)), (Str.ofString "product_bound", .raw (.ref 204)), (Str.ofString "part_above_root", .raw (.ref 211)), (Str.ofString "steps_without", .raw (.ref 218)), (Str.ofString "is_partner", .raw (.ref 225)), (Str.ofString "partner_of", .raw (.ref 232)), (Str.ofString "pocklington", .raw (.ref 239)), (Str.ofString "pocklington_holds", .raw (.ref 246)), (Str.ofString "strong_rests", .raw (.ref 253)), (Str.ofString "is_strong_witness", .raw (.ref 258)), (Str.ofString "composite_holds", .raw (.ref 265)), (Str.ofString "_law_take", .raw (.ref 272)), (Str.ofString "_law_total", .raw (.ref 279)), (Str.ofString "_law_row", .raw (.ref 286)), (Str.ofString "_law_whole", .raw (.ref 293)), (Str.ofString "_law_is_row", .raw (.ref 298)), (Str.ofString "_law_times", .raw (.ref 305)), (Str.ofString "_law_parts", .raw (.ref 312)), (Str.ofString "_law_power", .raw (.ref 319)), (Str.ofString "_law_common", .raw (.ref 326)), (Str.ofString "_law_gcd", .raw (.ref 333)), (Str.ofString "_law_pairs", .raw (.ref 340)), (Str.ofString "_law_is_prime", .raw (.ref 347)), (Str.ofString "_law_factor", .raw (.ref 352)), (Str.ofString "_law_steps", .raw (.ref 359)), (Str.ofString "_law_told_pairs", .raw (.ref 366)), (Str.ofString "_law_pratt", .raw (.ref 371)), (Str.ofString "_law_pocklington", .raw (.ref 378)), (Str.ofString "_law_bent", .raw (.ref 385)), (Str.ofString "_law_is_shown", .raw (.ref 392)), (Str.ofString "_law_others_right", .raw (.ref 397)), (Str.ofString "law", .raw (.ref 404)), (Str.ofString "SMALL", .int 32), (Str.ofString "PRATT", .str (Str.ofString "pratt")), (Str.ofString "POCKLINGTON", .str (Str.ofString "pocklington")), (Str.ofString "SMALL_PRIME", .str (Str.ofString "small")), (Str.ofString "FACTOR", .str (Str.ofString "factor")), (Str.ofString "FERMAT", .str (Str.ofString "fermat")), (Str.ofString "STRONG", .str (Str.ofString "strong")), (Str.ofString "ROOT", .str (Str.ofString "root"))]
noncomputable def btab : List (Str × Value) := [(Str.ofString "len", .builtin "len"), (Str.ofString "isinstance", .builtin "isinstance"), (Str.ofString "range", .type "range"), (Str.ofString "enumerate", .type "enumerate"), (Str.ofString "tuple", .type "tuple"), (Str.ofString "list", .type "list"), (Str.ofString "int", .type "int"), (Str.ofString "bool", .type "bool"), (Str.ofString "str", .type "str"), (Str.ofString "abs", .builtin "abs"), (Str.ofString "all", .builtin "all"), (Str.ofString "pow", .builtin "pow"), (Str.ofString "repr", .builtin "repr")]
noncomputable def GT (K : Frag) : List (Str × D) → Prop
  | [] => True
  | (x, d) :: r => (∃ v, nsIn K mainGlobals x = some (some v) ∧ ∀ h N, Rep h N d v) ∧ GT K r
noncomputable def BT (K : Frag) : List (Str × Value) → Prop
  | [] => True
  | (x, v) :: r => (nsIn K mainGlobals x = some none ∧ bootBuiltins x = some v ∧ x ≠ "__name__") ∧ BT K r
theorem GT.get {K : Frag} {x : Str} {d : D} : ∀ {l : List (Str × D)}, GT K l → l.lookup x = some d → ∃ v, nsIn K mainGlobals x = some (some v) ∧ ∀ h N, Rep h N d v
  | [], _, e => by simp at e
  | (y, c) :: r, h, e => by
    rw [List.lookup_cons] at e
    cases hb : x == y with
    | true => rw [hb] at e; cases e; rw [beq_iff_eq.mp hb]; exact h.1
    | false => rw [hb] at e; exact GT.get h.2 e
theorem BT.get {K : Frag} {x : Str} {v : Value} : ∀ {l : List (Str × Value)}, BT K l → l.lookup x = some v → nsIn K mainGlobals x = some none ∧ bootBuiltins x = some v ∧ x ≠ "__name__"
  | [], _, e => by simp at e
  | (y, c) :: r, h, e => by
    rw [List.lookup_cons] at e
    cases hb : x == y with
    | true => rw [hb] at e; cases e; rw [beq_iff_eq.mp hb]; exact h.1
    | false => rw [hb] at e; exact BT.get h.2 e
theorem gtab_ok (p : Params) : GT (hd.heap_39 p) gtab := ⟨⟨_, by with_unfolding_all rfl, fun _ _ => rfl⟩, ⟨_, by with_unfolding_all rfl, fun _ _ => rfl⟩, ⟨_, by with_unfolding_all rfl, fun _ _ => rfl⟩, ⟨_, by with_unfolding_all rfl, fun _ _ => rfl⟩, ⟨_, by with_unfolding_all rfl, fun _ _ => rfl⟩, ⟨_, by with_unfolding_all rfl, fun _ _ => rfl⟩, ⟨_, by with_unfolding_all rfl, fun _ _ => rfl⟩, ⟨_, by with_unfolding_all rfl, fun _ _ => rfl⟩, ⟨_, by with_unfolding_all rfl, fun _ _ => rfl⟩, ⟨_, by with_unfolding_all rfl, fun _ _ => rfl⟩, ⟨_, by with_unfolding_all rfl, fun _ _ => rfl⟩, ⟨_, by with_unfolding_all rfl, fun _ _ => rfl⟩, ⟨_, by with_unfolding_all rfl, fun _ _ => rfl⟩, ⟨_, by with_unfolding_all rfl, fun _ _ => rfl⟩, ⟨_, by with_unfolding_all rfl, fun _ _ => rfl⟩, ⟨_, by with_unfolding_all rfl, fun _ _ => rfl⟩, ⟨_, by with_unfolding_all rfl, fun _ _ => rfl⟩, ⟨_, by with_unfolding_all rfl, fun _ _ => rfl⟩, ⟨_, by with_unfolding_all rfl, fun _ _ => rfl⟩, ⟨_, by with_unfolding_all rfl, fun _ _ => rfl⟩, ⟨_, by with_unfolding_all rfl, fun _ _ => rfl⟩, ⟨_, by with_unfolding_all rfl, fun _ _ => rfl⟩, ⟨_, by with_unfolding_all rfl, fun _ _ => rfl⟩, ⟨_, by with_unfolding_all rfl, fun _ _ => rfl⟩, ⟨_, by with_unfolding_all rfl, fun _ _ => rfl⟩, ⟨_, by with_unfolding_all rfl, fun _ _ => rfl⟩, ⟨_, by with_unfolding_all rfl, fun _ _ => rfl⟩, ⟨_, by with_unfolding_all rfl, fun _ _ => rfl⟩, ⟨_, by with_unfolding_all rfl, fun _ _ => rfl⟩, ⟨_, by with_unfolding_all rfl, fun _ _ => rfl⟩, ⟨_, by with_unfolding_all rfl, fun _ _ => rfl⟩, ⟨_, by with_unfolding_all rfl, fun _ _ => rfl⟩, ⟨_, by with_unfolding_all rfl, fun _ _ => rfl⟩, ⟨_, by with_unfolding_all rfl, fun _ _ => rfl⟩, ⟨_, by with_unfolding_all rfl, fun _ _ => rfl⟩, ⟨_, by with_unfolding_all rfl, fun _ _ => rfl⟩, ⟨_, by with_unfolding_all rfl, fun _ _ => rfl⟩, ⟨_, by with_unfolding_all rfl, fun _ _ => rfl⟩, ⟨_, by with_unfolding_all rfl, fun _ _ => rfl⟩, ⟨_, by with_unfolding_all rfl, fun _ _ => rfl⟩, ⟨_, by with_unfolding_all rfl, fun _ _ => rfl⟩, ⟨_, by with_unfolding_all rfl, fun _ _ => rfl⟩, ⟨_, by with_unfolding_all rfl, fun _ _ => rfl⟩, ⟨_, by with_unfolding_all rfl, fun _ _ => rfl⟩, ⟨_, by with_unfolding_all rfl, fun _ _ => rfl⟩, ⟨_, by with_unfolding_all rfl, fun _ _ => rfl⟩, ⟨_, by with_unfolding_all rfl, fun _ _ => rfl⟩, ⟨_, by with_unfolding_all rfl, fun _ _ => rfl⟩, ⟨_, by with_unfolding_all rfl, fun _ _ => rfl⟩, ⟨_, by with_unfolding_all rfl, fun _ _ => rfl⟩, ⟨_, by with_unfolding_all rfl, fun _ _ => rfl⟩, ⟨_, by with_unfolding_all rfl, fun _ _ => rfl⟩, ⟨_, by with_unfolding_all rfl, fun _ _ => rfl⟩, ⟨_, by with_unfolding_all rfl, fun _ _ => ⟨_, rfl⟩⟩, ⟨_, by with_unfolding_all rfl, fun _ _ => ⟨_, rfl⟩⟩, ⟨_, by with_unfolding_all rfl, fun _ _ => ⟨_, rfl⟩⟩, ⟨_, by with_unfolding_all rfl, fun _ _ => ⟨_, rfl⟩⟩, ⟨_, by with_unfolding_all rfl, fun _ _ => ⟨_, rfl⟩⟩, ⟨_, by with_unfolding_all rfl, fun _ _ => ⟨_, rfl⟩⟩, ⟨_, by with_unfolding_all rfl, fun _ _ => ⟨_, rfl⟩⟩, ⟨_, by with_unfolding_all rfl, fun _ _ => ⟨_, rfl⟩⟩, trivial⟩
theorem btab_ok (p : Params) : BT (hd.heap_39 p) btab := ⟨⟨by with_unfolding_all rfl, by with_unfolding_all rfl, by decide⟩, ⟨by with_unfolding_all rfl, by with_unfolding_all rfl, by decide⟩, ⟨by with_unfolding_all rfl, by with_unfolding_all rfl, by decide⟩, ⟨by with_unfolding_all rfl, by with_unfolding_all rfl, by decide⟩, ⟨by with_unfolding_all rfl, by with_unfolding_all rfl, by decide⟩, ⟨by with_unfolding_all rfl, by with_unfolding_all rfl, by decide⟩, ⟨by with_unfolding_all rfl, by with_unfolding_all rfl, by decide⟩, ⟨by with_unfolding_all rfl, by with_unfolding_all rfl, by decide⟩, ⟨by with_unfolding_all rfl, by with_unfolding_all rfl, by decide⟩, ⟨by with_unfolding_all rfl, by with_unfolding_all rfl, by decide⟩, ⟨by with_unfolding_all rfl, by with_unfolding_all rfl, by decide⟩, ⟨by with_unfolding_all rfl, by with_unfolding_all rfl, by decide⟩, ⟨by with_unfolding_all rfl, by with_unfolding_all rfl, by decide⟩, trivial⟩
section
variable {prog : Program} {w : World} {b : Heap} {C : Cx} {Γ : Vars} {σ : Store} {Q : D → Store → Prop}
theorem glob_ {x : Str} {pos : Pos} {d : D} (ok : C.Ok) (B : Base (hd.heap_39 w.params) b) (hx : C.env.kindOf x = some .globalImplicit) (e : gtab.lookup x = some d) (h : Q d σ) (hb : (x == ("__debug__" : Str)) = false) : WE (model prog w) b C (.Name x pos) Γ σ Q := by
  obtain ⟨v, h1, h2⟩ := (gtab_ok w.params).get e
  exact WE.glob ok B hx h1 h2 h hb
theorem blt_ {x : Str} {pos : Pos} {v : Value} (ok : C.Ok) (B : Base (hd.heap_39 w.params) b) (hx : C.env.kindOf x = some .globalImplicit) (e : btab.lookup x = some v) (h : Q (.raw v) σ) (hb : (x == ("__debug__" : Str)) = false) : WE (model prog w) b C (.Name x pos) Γ σ Q := by
  obtain ⟨h1, h2, h3⟩ := (btab_ok w.params).get e
  exact WE.blt ok B hx h1 h2 h h3 hb
theorem call_ {x : Str} {p pos : Pos} {e : PySem.Expr} {es : List PySem.Expr} (B : Base (hd.heap_39 w.params) b)
    (h : WE (model prog w) b C (.Name x p) Γ σ fun df σ1 => ∃ fv, df = .raw fv ∧ Kept (hd.heap_39 w.params) fv ∧ WArgs (model prog w) b C (e :: es) pos Γ σ1 fun ds σ2 => WV (model prog w) b C (fun vs => call fv vs []) ds Γ σ2 Q)
    (he : starEach (e :: es) C.env = (false, eval e C.env) :: starEach es C.env) (hp : (backTo pos (starEach es C.env)).any (·.1) = false) : WE (model prog w) b C (.Call (.Name x p) (e :: es) [] pos) Γ σ Q := WE.call B h he hp
theorem attrK_ {x name : Str} {xp pos : Pos} (B : Base (hd.heap_39 w.params) b) (h : WE (model prog w) b C (.Name x xp) Γ σ fun d σ' => ∃ cls fs v, d = .inst cls fs ∧ AttrOk (hd.heap_39 w.params) cls name ∧ fs.lookup name = some v ∧ handedIn v = true ∧ Q (.raw v) σ') :
    WE (model prog w) b C (.Attribute (.Name x xp) name pos) Γ σ Q := attr_ B h
theorem exAttr {K : Frag} {cls : Addr} {fs : List (Str × Value)} {name : Str} {v : Value} {P : Value → Prop} (h1 : AttrOk K cls name) (h2 : fs.lookup name = some v) (h3 : handedIn v = true) (h : P v) : ∃ cls' fs' v, D.inst cls fs = .inst cls' fs' ∧ AttrOk K cls' name ∧ fs'.lookup name = some v ∧ handedIn v = true ∧ P v := ⟨cls, fs, v, rfl, h1, h2, h3, h⟩
theorem attrOks (p : Params) : AttrOk (hd.heap_39 p) 112 "mul" ∧ AttrOk (hd.heap_39 p) 112 "divrem" ∧ AttrOk (hd.heap_39 p) 112 "power" ∧ AttrOk (hd.heap_39 p) 112 "gcd" ∧ AttrOk (hd.heap_39 p) 112 "factor" :=
  ⟨⟨by with_unfolding_all rfl, by with_unfolding_all rfl, _, by with_unfolding_all rfl, by with_unfolding_all rfl⟩, ⟨by with_unfolding_all rfl, by with_unfolding_all rfl, _, by with_unfolding_all rfl, by with_unfolding_all rfl⟩, ⟨by with_unfolding_all rfl, by with_unfolding_all rfl, _, by with_unfolding_all rfl, by with_unfolding_all rfl⟩, ⟨by with_unfolding_all rfl, by with_unfolding_all rfl, _, by with_unfolding_all rfl, by with_unfolding_all rfl⟩, ⟨by with_unfolding_all rfl, by with_unfolding_all rfl, _, by with_unfolding_all rfl, by with_unfolding_all rfl⟩⟩
end
section
variable {M : Model} {b : Heap} {C : Cx} {rest : List Stmt}
theorem andNext {Q : Fl → Vars → Store → Prop} {Γ : Vars} {σ : Store} (h : WS M b C rest Γ σ Q) : andW M b C rest Q .next Γ σ := h
theorem andRet {Q : Fl → Vars → Store → Prop} {Γ : Vars} {σ : Store} {d : D} (h : Q (.ret d) Γ σ) : andW M b C rest Q (.ret d) Γ σ := h
end
section
variable {M : Model} {b : Heap} {C : Cx} {Γ : Vars} {σ : Store} {Q : D → Store → Prop}
theorem wpart_none (h : Q .none σ) : WPart M b C Option.none Γ σ Q := h
theorem wpart_some {e : PySem.Expr} (h : WE M b C e Γ σ Q) : WPart M b C (some e) Γ σ Q := h
end
theorem exPart {d e f : D} {p q r : Option Int} {P : Option Int → Option Int → Option Int → Prop} (h1 : d.part = some p) (h2 : e.part = some q) (h3 : f.part = some r) (h : P p q r) : ∃ p q r, d.part = some p ∧ e.part = some q ∧ f.part = some r ∧ P p q r := ⟨p, q, r, h1, h2, h3, h⟩
theorem exF {K : Frag} {v : Value} {P : Value → Prop} (k : Kept K v) (h : P v) : ∃ fv, D.raw v = .raw fv ∧ Kept K fv ∧ P fv := ⟨v, rfl, k, h⟩
theorem exB {x : Bool} {P : Bool → Prop} (h : P x) : ∃ t, D.bool x = .bool t ∧ P t := ⟨x, rfl, h⟩
theorem szQ {n : Nat} {P : Prop} (h1 : n ≤ sizeLine) (h : P) : n ≤ sizeLine ∧ P := ⟨h1, h⟩
end Mine
namespace Mine
theorem tf {P : Prop} (h : false = true) : P := nomatch h
theorem ft {P : Prop} (h : true = false) : P := nomatch h
theorem conjTF {P Q : Prop} (h : P) : (true = true → P) ∧ (true = false → Q) := ⟨fun _ => h, fun q => (nomatch q)⟩
theorem conjTR {P Q : Prop} (h : Q) : (true = false → P) ∧ (true = true → Q) := ⟨fun q => (nomatch q), fun _ => h⟩
theorem conjFF {P Q : Prop} (h : Q) : (false = true → P) ∧ (false = false → Q) := ⟨fun q => (nomatch q), fun _ => h⟩
theorem conjNT {P Q : Prop} (h : P) : ((!false) = true → P) ∧ ((!false) = false → Q) := ⟨fun _ => h, fun q => (nomatch q)⟩
theorem conjNR {P Q : Prop} (h : Q) : ((!false) = false → P) ∧ ((!false) = true → Q) := ⟨fun q => (nomatch q), fun _ => h⟩
theorem conjMF {P Q : Prop} (h : Q) : ((!true) = true → P) ∧ ((!true) = false → Q) := ⟨fun q => (nomatch q), fun _ => h⟩
theorem conjMR {P Q : Prop} (h : P) : ((!true) = false → P) ∧ ((!true) = true → Q) := ⟨fun _ => h, fun q => (nomatch q)⟩
theorem conjFR {P Q : Prop} (h : P) : (false = false → P) ∧ (false = true → Q) := ⟨fun _ => h, fun q => (nomatch q)⟩
theorem len0 {P : List Value → Prop} (h : P []) (vs : List Value) (e : vs.length = 0) : P vs := List.eq_nil_of_length_eq_zero e ▸ h
theorem lenS {P : List Value → Prop} {n : Nat} (h : ∀ a vs, vs.length = n → P (a :: vs)) (vs : List Value) (e : vs.length = n + 1) : P vs := by
  cases vs with
  | nil => cases e
  | cons a l => exact h a l (Nat.succ.inj e)
theorem len1 {P : List Value → Prop} (h : ∀ a, P [a]) : ∀ vs : List Value, vs.length = 1 → P vs := lenS fun x => len0 (P := fun l => P (x :: l)) (h x)
theorem len2 {P : List Value → Prop} (h : ∀ a b, P [a, b]) : ∀ vs : List Value, vs.length = 2 → P vs := lenS fun x => len1 (P := fun l => P (x :: l)) (h x)
theorem len3 {P : List Value → Prop} (h : ∀ a b c, P [a, b, c]) : ∀ vs : List Value, vs.length = 3 → P vs := lenS fun x => len2 (P := fun l => P (x :: l)) (h x)
theorem len4 {P : List Value → Prop} (h : ∀ a b c d, P [a, b, c, d]) : ∀ vs : List Value, vs.length = 4 → P vs := lenS fun x => len3 (P := fun l => P (x :: l)) (h x)
theorem len5 {P : List Value → Prop} (h : ∀ a b c d e, P [a, b, c, d, e]) : ∀ vs : List Value, vs.length = 5 → P vs := lenS fun x => len4 (P := fun l => P (x :: l)) (h x)
theorem len6 {P : List Value → Prop} (h : ∀ a b c d e f, P [a, b, c, d, e, f]) : ∀ vs : List Value, vs.length = 6 → P vs := lenS fun x => len5 (P := fun l => P (x :: l)) (h x)
theorem st0 {s : Store} {P : Prop} {Q : Store → Prop} (h : P → Q s) : ∀ σ, σ = s ∧ P → Q σ := fun _ z => z.1 ▸ h z.2
theorem st1 {α : Type} {s : α → Store} {P : α → Prop} {Q : Store → Prop} (h : ∀ x, P x → Q (s x)) : ∀ σ, (∃ x, σ = s x ∧ P x) → Q σ := fun σ z => z.elim fun x k => st0 (h x) σ k
theorem st2 {α β : Type} {s : α → β → Store} {P : α → β → Prop} {Q : Store → Prop} (h : ∀ x y, P x y → Q (s x y)) : ∀ σ, (∃ x y, σ = s x y ∧ P x y) → Q σ := fun σ z => z.elim fun x k => st1 (h x) σ k
theorem st3 {α β γ : Type} {s : α → β → γ → Store} {P : α → β → γ → Prop} {Q : Store → Prop} (h : ∀ x y z, P x y z → Q (s x y z)) : ∀ σ, (∃ x y z, σ = s x y z ∧ P x y z) → Q σ := fun σ z => z.elim fun x k => st2 (h x) σ k
theorem st4 {α β γ δ : Type} {s : α → β → γ → δ → Store} {P : α → β → γ → δ → Prop} {Q : Store → Prop} (h : ∀ x y z u, P x y z u → Q (s x y z u)) : ∀ σ, (∃ x y z u, σ = s x y z u ∧ P x y z u) → Q σ := fun σ z => z.elim fun x k => st3 (h x) σ k
theorem an2 {a b Q : Prop} (z : a → b → Q) (y : a ∧ b) : Q := z y.1 y.2
theorem an3 {a b c Q : Prop} (z : a → b → c → Q) (y : a ∧ b ∧ c) : Q := an2 (z y.1) y.2
theorem an4 {a b c d Q : Prop} (z : a → b → c → d → Q) (y : a ∧ b ∧ c ∧ d) : Q := an3 (z y.1) y.2
theorem an5 {a b c d e Q : Prop} (z : a → b → c → d → e → Q) (y : a ∧ b ∧ c ∧ d ∧ e) : Q := an4 (z y.1) y.2
theorem an6 {a b c d e f Q : Prop} (z : a → b → c → d → e → f → Q) (y : a ∧ b ∧ c ∧ d ∧ e ∧ f) : Q := an5 (z y.1) y.2
theorem an7 {a b c d e f g Q : Prop} (z : a → b → c → d → e → f → g → Q) (y : a ∧ b ∧ c ∧ d ∧ e ∧ f ∧ g) : Q := an6 (z y.1) y.2
theorem an8 {a b c d e f g h Q : Prop} (z : a → b → c → d → e → f → g → h → Q) (y : a ∧ b ∧ c ∧ d ∧ e ∧ f ∧ g ∧ h) : Q := an7 (z y.1) y.2
theorem an9 {a b c d e f g h i Q : Prop} (z : a → b → c → d → e → f → g → h → i → Q) (y : a ∧ b ∧ c ∧ d ∧ e ∧ f ∧ g ∧ h ∧ i) : Q := an8 (z y.1) y.2
theorem an10 {a b c d e f g h i j Q : Prop} (z : a → b → c → d → e → f → g → h → i → j → Q) (y : a ∧ b ∧ c ∧ d ∧ e ∧ f ∧ g ∧ h ∧ i ∧ j) : Q := an9 (z y.1) y.2
theorem an11 {a b c d e f g h i j k Q : Prop} (z : a → b → c → d → e → f → g → h → i → j → k → Q) (y : a ∧ b ∧ c ∧ d ∧ e ∧ f ∧ g ∧ h ∧ i ∧ j ∧ k) : Q := an10 (z y.1) y.2
theorem an12 {a b c d e f g h i j k l Q : Prop} (z : a → b → c → d → e → f → g → h → i → j → k → l → Q) (y : a ∧ b ∧ c ∧ d ∧ e ∧ f ∧ g ∧ h ∧ i ∧ j ∧ k ∧ l) : Q := an11 (z y.1) y.2
theorem o_le {x m n : Nat} (h : x ≤ m) (e : Nat.ble m n = true) : x ≤ n := Nat.le_trans h (Nat.le_of_ble_eq_true e)
theorem o_lt {x m n : Nat} (h : x < m) (e : Nat.ble m (n + 1) = true) : x ≤ n := Nat.le_of_lt_succ (Nat.lt_of_lt_of_le h (Nat.le_of_ble_eq_true e))
theorem o_lt2 {x m n : Nat} (h : x < m) (e : Nat.ble m n = true) : x < n := Nat.lt_of_lt_of_le h (Nat.le_of_ble_eq_true e)
theorem o_le2 {x m n : Nat} (h : x ≤ m) (e : Nat.ble (m + 1) n = true) : x < n := Nat.lt_of_le_of_lt h (Nat.le_of_ble_eq_true e)
theorem o_ge {x m n : Nat} (h : m ≤ x) (e : Nat.ble n m = true) : n ≤ x := Nat.le_trans (Nat.le_of_ble_eq_true e) h
theorem o_ge2 {x m n : Nat} (h : m ≤ x) (e : Nat.ble (n + 1) m = true) : n < x := Nat.lt_of_lt_of_le (Nat.le_of_ble_eq_true e) h
theorem o_gt {x m n : Nat} (h : m < x) (e : Nat.ble n (m + 1) = true) : n ≤ x := Nat.le_trans (Nat.le_of_ble_eq_true e) h
theorem o_gt2 {x m n : Nat} (h : m < x) (e : Nat.ble n m = true) : n < x := Nat.lt_of_le_of_lt (Nat.le_of_ble_eq_true e) h
theorem o_ij {i j n : Nat} (h : i + (j + 1) = n) : i < n := by omega
theorem o_ij1 {i j n : Nat} (h : i + (j + 1) = n) : i + 1 + j = n := by omega
theorem o_ijs {i j n m : Nat} (h : i + (j + 1) = n) (h2 : n ≤ m) (e : Nat.ble m 16777216 = true) : i ≤ sizeLine := by have : m ≤ 16777216 := Nat.le_of_ble_eq_true e; show i ≤ 16777216; omega
theorem o_down {n m : Nat} (h : n + 1 ≤ m) : n ≤ m := Nat.le_of_succ_le h
theorem o_sub1 {n : Nat} (h : 1 ≤ n) : (n : Int) - 1 = ((n - 1 : Nat) : Int) := (Int.natCast_sub h).symm
theorem o_c1 {a : Nat} : (a : Int) + 1 = ((a + 1 : Nat) : Int) := rfl
theorem o_c2 {a b : Nat} : (a : Int) + b = ((a + b : Nat) : Int) := rfl
theorem o_c3 {a : Nat} : (2 : Int) + a = ((2 + a : Nat) : Int) := rfl
theorem z_eq {a b : Nat} (h : (a : Int) = b) : a = b := Int.ofNat_inj.mp h
theorem z_ne {a b : Nat} (h : (a : Int) ≠ b) : a ≠ b := fun e => h (by rw [e])
theorem z_nn {a b : Nat} (h : ¬ (a : Int) ≠ b) : a = b := z_eq (Decidable.not_not.mp h)
theorem z_lt {a b : Nat} (h : (a : Int) < b) : a < b := Int.ofNat_lt.mp h
theorem z_le {a b : Nat} (h : (a : Int) ≤ b) : a ≤ b := Int.ofNat_le.mp h
theorem z_nlt {a b : Nat} (h : ¬ (a : Int) < b) : ¬ a < b := fun e => h (Int.ofNat_lt.mpr e)
theorem z_nle {a b : Nat} (h : ¬ (a : Int) ≤ b) : ¬ a ≤ b := fun e => h (Int.ofNat_le.mpr e)
theorem z_nlt2 {a b : Nat} (h : ¬ (a : Int) < b) : b ≤ a := Nat.le_of_not_lt (z_nlt h)
theorem z_nle2 {a b : Nat} (h : ¬ (a : Int) ≤ b) : b < a := Nat.lt_of_not_le (z_nle h)
theorem l_eq {a n : Nat} (h : (a : Int) = @OfNat.ofNat Int n instOfNat) : a = @OfNat.ofNat Nat n (instOfNatNat n) := z_eq (b := n) h
theorem l_ne {a n : Nat} (h : (a : Int) ≠ @OfNat.ofNat Int n instOfNat) : a ≠ @OfNat.ofNat Nat n (instOfNatNat n) := z_ne (b := n) h
theorem l_nn {a n : Nat} (h : ¬ (a : Int) ≠ @OfNat.ofNat Int n instOfNat) : a = @OfNat.ofNat Nat n (instOfNatNat n) := z_nn (b := n) h
theorem l_lt {a n : Nat} (h : (a : Int) < @OfNat.ofNat Int n instOfNat) : a < @OfNat.ofNat Nat n (instOfNatNat n) := z_lt (b := n) h
theorem l_gt {a n : Nat} (h : @OfNat.ofNat Int n instOfNat < (a : Int)) : @OfNat.ofNat Nat n (instOfNatNat n) < a := z_lt (a := n) h
theorem l_nlt {a n : Nat} (h : ¬ (a : Int) < @OfNat.ofNat Int n instOfNat) : @OfNat.ofNat Nat n (instOfNatNat n) ≤ a := z_nlt2 (b := n) h
theorem l_nlt2 {a n : Nat} (h : ¬ (a : Int) < @OfNat.ofNat Int n instOfNat) : ¬ a < @OfNat.ofNat Nat n (instOfNatNat n) := z_nlt (b := n) h
theorem l_nz {a : Nat} (h : ¬ (0 : Int) < a) : a = 0 := Nat.eq_zero_of_not_pos (z_nlt (a := 0) h)
theorem l_len {m n : Nat} (h : (m : Int) + 1 = @OfNat.ofNat Int (n + 1) instOfNat) : m = @OfNat.ofNat Nat n (instOfNatNat n) := by have h : (m : Int) + 1 = (n : Int) + 1 := h; show m = n; omega
theorem l_nlen {m n : Nat} (h : ¬ (m : Int) + 1 = @OfNat.ofNat Int (n + 1) instOfNat) : m ≠ @OfNat.ofNat Nat n (instOfNatNat n) := fun e => h (by have e : m = n := e; subst e; rfl)
section
variable {prog : Program} {w : World} {b : Heap} {C : Cx} {Γ : Vars} {σ : Store} {Q : D → Store → Prop}
@[reducible] noncomputable def callK (M : Model) (b : Heap) (C : Cx) (fv : Value) (Γ : Vars) (Q : D → Store → Prop) : List D → Store → Prop := fun ds σ => WV M b C (fun vs => call fv vs []) ds Γ σ Q
@[reducible] noncomputable def w2R (M : Model) (b : Heap) (C : Cx) (t : Value → Value → Sem Value) (e : D) (Γ : Vars) (Q : D → Store → Prop) : D → Store → Prop := fun d σ => W2 M b C t d e Γ σ Q
@[reducible] noncomputable def w2L (M : Model) (b : Heap) (C : Cx) (t : Value → Value → Sem Value) (d : D) (Γ : Vars) (Q : D → Store → Prop) : D → Store → Prop := fun e σ => W2 M b C t d e Γ σ Q
noncomputable def SE (M : Model) (b : Heap) (C : Cx) (Γ : Vars) (e : PySem.Expr) (d : D) : Prop := ∀ σ (Q : D → Store → Prop), Q d σ → WE M b C e Γ σ Q
noncomputable def SA (M : Model) (b : Heap) (C : Cx) (Γ : Vars) (es : List PySem.Expr) (pos : Pos) (ds : List D) : Prop := ∀ σ (Q : List D → Store → Prop), Q ds σ → WArgs M b C es pos Γ σ Q
theorem se_int {i : Int} {k : Nat} {pos : Pos} : SE (model prog w) b C Γ (.Constant (.int i) k pos) (.int i) := fun _ _ h => WE.int h
theorem se_str {x : Str} {k : Nat} {pos : Pos} : SE (model prog w) b C Γ (.Constant (.str x) k pos) (.str x) := fun _ _ h => WE.str h
theorem se_bool {x : Bool} {k : Nat} {pos : Pos} : SE (model prog w) b C Γ (.Constant (.bool x) k pos) (.bool x) := fun _ _ h => WE.bool h
theorem se_none {k : Nat} {pos : Pos} : SE (model prog w) b C Γ (.Constant .none k pos) .none := fun _ _ h => WE.none h
theorem se_neg {i : Int} {k : Nat} {p pos : Pos} : SE (model prog w) b C Γ (.UnaryOp .USub (.Constant (.int i) k p) pos) (.int (-i)) := fun _ _ h => WE.unary (WE.int (W1.neg h))
theorem se_var {x : Str} {pos : Pos} {d : D} (ok : C.Ok) (hv : Γ.lookup x = some d) (hd : (x == ("__debug__" : Str)) = false) (hn : (x == ("__classdict__" : Str)) = false) : SE (model prog w) b C Γ (.Name x pos) d := fun _ _ h => WE.var ok hv h hd hn
theorem se_glob {x : Str} {pos : Pos} {d : D} (ok : C.Ok) (B : Base (hd.heap_39 w.params) b) (hx : C.env.kindOf x = some .globalImplicit) (e : gtab.lookup x = some d) (hb : (x == ("__debug__" : Str)) = false) : SE (model prog w) b C Γ (.Name x pos) d := fun _ _ h => glob_ ok B hx e h hb
theorem se_blt {x : Str} {pos : Pos} {v : Value} (ok : C.Ok) (B : Base (hd.heap_39 w.params) b) (hx : C.env.kindOf x = some .globalImplicit) (e : btab.lookup x = some v) (hb : (x == ("__debug__" : Str)) = false) : SE (model prog w) b C Γ (.Name x pos) (.raw v) := fun _ _ h => blt_ ok B hx e h hb
theorem sa_nil {pos : Pos} : SA (model prog w) b C Γ [] pos [] := fun _ _ h => WArgs.nil h
theorem sa_cons {e : PySem.Expr} {rest : List PySem.Expr} {pos : Pos} {d : D} {ds : List D} (h1 : SE (model prog w) b C Γ e d) (h2 : SA (model prog w) b C Γ rest pos ds) (he : starEach (e :: rest) C.env = (false, eval e C.env) :: starEach rest C.env) : SA (model prog w) b C Γ (e :: rest) pos (d :: ds) :=
  fun σ Q h => WArgs.cons (h1 _ _ (h2 _ _ h)) he
theorem callS_ {x : Str} {p pos : Pos} {e : PySem.Expr} {es : List PySem.Expr} {fv : Value} {ds : List D} (B : Base (hd.heap_39 w.params) b) (hf : SE (model prog w) b C Γ (.Name x p) (.raw fv)) (ha : SA (model prog w) b C Γ (e :: es) pos ds) (hk : Kept (hd.heap_39 w.params) fv)
    (he : starEach (e :: es) C.env = (false, eval e C.env) :: starEach es C.env) (hp : (backTo pos (starEach es C.env)).any (·.1) = false) (h : WV (model prog w) b C (fun vs => call fv vs []) ds Γ σ Q) : WE (model prog w) b C (.Call (.Name x p) (e :: es) [] pos) Γ σ Q :=
  call_ B (hf _ _ (exF hk (ha _ _ h))) he hp
theorem callF_ {x : Str} {p pos : Pos} {e : PySem.Expr} {es : List PySem.Expr} {fv : Value} (B : Base (hd.heap_39 w.params) b) (hf : SE (model prog w) b C Γ (.Name x p) (.raw fv)) (hk : Kept (hd.heap_39 w.params) fv)
    (he : starEach (e :: es) C.env = (false, eval e C.env) :: starEach es C.env) (hp : (backTo pos (starEach es C.env)).any (·.1) = false) (h : WArgs (model prog w) b C (e :: es) pos Γ σ (callK (model prog w) b C fv Γ Q)) : WE (model prog w) b C (.Call (.Name x p) (e :: es) [] pos) Γ σ Q :=
  call_ B (hf _ _ (exF hk h)) he hp
theorem argsS_ {e : PySem.Expr} {rest : List PySem.Expr} {pos : Pos} {d : D} {Q : List D → Store → Prop} (h1 : SE (model prog w) b C Γ e d) (he : starEach (e :: rest) C.env = (false, eval e C.env) :: starEach rest C.env) (h : WArgs (model prog w) b C rest pos Γ σ (consK d Q)) : WArgs (model prog w) b C (e :: rest) pos Γ σ Q :=
  WArgs.cons (h1 _ _ h) he
theorem argsA_ {es : List PySem.Expr} {pos : Pos} {ds : List D} {Q : List D → Store → Prop} (h1 : SA (model prog w) b C Γ es pos ds) (h : Q ds σ) : WArgs (model prog w) b C es pos Γ σ Q := h1 _ _ h
theorem binS_ {l r : PySem.Expr} {op : Operator} {pos : Pos} {d e : D} (hl : SE (model prog w) b C Γ l d) (hr : SE (model prog w) b C Γ r e) (h : W2 (model prog w) b C (binaryOp op) d e Γ σ Q) : WE (model prog w) b C (.BinOp l op r pos) Γ σ Q := WE.binop (hl _ _ (hr _ _ h))
theorem binR_ {l r : PySem.Expr} {op : Operator} {pos : Pos} {e : D} (hr : SE (model prog w) b C Γ r e) (h : WE (model prog w) b C l Γ σ (w2R (model prog w) b C (binaryOp op) e Γ Q)) : WE (model prog w) b C (.BinOp l op r pos) Γ σ Q := WE.binop (h.mono fun _ _ z => hr _ _ z)
theorem binL_ {l r : PySem.Expr} {op : Operator} {pos : Pos} {d : D} (hl : SE (model prog w) b C Γ l d) (h : WE (model prog w) b C r Γ σ (w2L (model prog w) b C (binaryOp op) d Γ Q)) : WE (model prog w) b C (.BinOp l op r pos) Γ σ Q := WE.binop (hl _ _ h)
theorem subS_ {l r : PySem.Expr} {pos : Pos} {d e : D} (hl : SE (model prog w) b C Γ l d) (hr : SE (model prog w) b C Γ r e) (h : W2 (model prog w) b C (subscriptTail l r) d e Γ σ Q) : WE (model prog w) b C (.Subscript l r pos) Γ σ Q := WE.sub (hl _ _ (hr _ _ h))
theorem subR_ {l r : PySem.Expr} {pos : Pos} {e : D} (hr : SE (model prog w) b C Γ r e) (h : WE (model prog w) b C l Γ σ (w2R (model prog w) b C (subscriptTail l r) e Γ Q)) : WE (model prog w) b C (.Subscript l r pos) Γ σ Q := WE.sub (h.mono fun _ _ z => hr _ _ z)
theorem subL_ {l r : PySem.Expr} {pos : Pos} {d : D} (hl : SE (model prog w) b C Γ l d) (h : WE (model prog w) b C r Γ σ (w2L (model prog w) b C (subscriptTail l r) d Γ Q)) : WE (model prog w) b C (.Subscript l r pos) Γ σ Q := WE.sub (hl _ _ h)
theorem cmpS_ {l r : PySem.Expr} {op : CmpOp} {pos : Pos} {d e : D} (hl : SE (model prog w) b C Γ l d) (hr : SE (model prog w) b C Γ r e) (hm : behindInMarks op r = false) (h : W2 (model prog w) b C (compareOp op) d e Γ σ Q) : WE (model prog w) b C (.Compare l [op] [r] pos) Γ σ Q := WE.cmp (hl _ _ (hr _ _ h)) hm
theorem cmpR_ {l r : PySem.Expr} {op : CmpOp} {pos : Pos} {e : D} (hr : SE (model prog w) b C Γ r e) (hm : behindInMarks op r = false) (h : WE (model prog w) b C l Γ σ (w2R (model prog w) b C (compareOp op) e Γ Q)) : WE (model prog w) b C (.Compare l [op] [r] pos) Γ σ Q := WE.cmp (h.mono fun _ _ z => hr _ _ z) hm
theorem tcmpS_ {l r : PySem.Expr} {op : CmpOp} {pos : Pos} {d e : D} {T : Bool → Store → Prop} (hl : SE (model prog w) b C Γ l d) (hr : SE (model prog w) b C Γ r e) (hm : behindInMarks op r = false) (h : W2 (model prog w) b C (compareOp op) d e Γ σ (boolK T)) : WT (model prog w) b C (.Compare l [op] [r] pos) Γ σ T := WT.cmp (hl _ _ (hr _ _ h)) hm
theorem tcmpR_ {l r : PySem.Expr} {op : CmpOp} {pos : Pos} {e : D} {T : Bool → Store → Prop} (hr : SE (model prog w) b C Γ r e) (hm : behindInMarks op r = false) (h : WE (model prog w) b C l Γ σ (w2R (model prog w) b C (compareOp op) e Γ (boolK T))) : WT (model prog w) b C (.Compare l [op] [r] pos) Γ σ T := WT.cmp (h.mono fun _ _ z => hr _ _ z) hm
theorem useS_ {e : PySem.Expr} {d : D} (h1 : SE (model prog w) b C Γ e d) (h : Q d σ) : WE (model prog w) b C e Γ σ Q := h1 _ _ h
end
end Mine
namespace Mine
set_option hygiene false
local macro_rules | `(tactic| fail "m p") => `(tactic| first | assumption | exact And.left (by assumption) | exact And.right (by assumption))
local macro_rules | `(tactic| fail "m q") => `(tactic| first | assumption | exact Int.natCast_nonneg _ | exact Nat.lt_succ_self _ | exact Nat.zero_add _ | exact o_c1 | exact o_c3 | exact z_ne (by assumption) | exact z_nn (by assumption) | exact z_lt (by assumption) | exact z_nlt (by assumption) | exact z_nlt2 (by assumption) | exact z_nle2 (by assumption) | exact l_eq (by assumption) | exact l_ne (by assumption) | exact l_nn (by assumption) | exact l_lt (by assumption) | exact l_gt (by assumption) | exact l_nlt (by assumption) | exact l_nlt2 (by assumption) | exact l_nz (by assumption) | exact l_len (by assumption) | exact l_nlen (by assumption) | exact o_ij (by assumption) | exact o_ij1 (by assumption) | exact o_down (by assumption) | exact Nat.pos_of_ne_zero (by assumption) | exact Nat.eq_zero_of_not_pos (by assumption) | exact Nat.le_of_lt (by assumption) | exact Nat.ne_of_gt (by assumption) | (apply o_le; fail "m p"; with_unfolding_all rfl) | (apply o_lt; fail "m p"; with_unfolding_all rfl) | (apply o_le2; fail "m p"; with_unfolding_all rfl) | (apply o_ge; fail "m p"; with_unfolding_all rfl) | (apply o_ge2; fail "m p"; with_unfolding_all rfl) | (apply o_gt; fail "m p"; with_unfolding_all rfl) | (apply o_gt2; fail "m p"; with_unfolding_all rfl) | exact o_sub1 (by first | assumption | (apply o_ge; assumption; with_unfolding_all rfl) | fail) | (apply o_ijs; assumption; assumption; with_unfolding_all rfl) | fail)
local macro_rules | `(tactic| fail "m r") => `(tactic| with_reducible fail "m q")
local macro_rules | `(tactic| fail "m o") => `(tactic| first | fail "m r" | omega)
local macro_rules | `(tactic| fail "m u") => `(tactic| with_unfolding_all exact rfl)
set_option hygiene true
local macro_rules | `(tactic| fail "m v") => `(tactic| first | fail "m u" | assumption | (refine' has_skip ?ka ?kb; (case ka => decide); (case kb => fail "m v")))
local macro_rules | `(tactic| fail "m s") => `(tactic| first
  | with_reducible exact se_int | with_reducible exact se_str | with_reducible exact se_bool | with_reducible exact se_none | with_reducible exact se_neg
  | (with_reducible refine' se_var ?k1 ?k2 ?k3 ?k4; (case k1 => assumption); (case k2 => fail "m v"); (case k3 => decide); (case k4 => decide))
  | (with_reducible refine' se_blt ?k1 ?k2 ?k3 ?k4 ?k5; (case k1 => assumption); (case k2 => assumption); (case k3 => fail "m u"); (case k4 => fail "m u"); (case k5 => decide))
  | (with_reducible refine' se_glob ?k1 ?k2 ?k3 ?k4 ?k5; (case k1 => assumption); (case k2 => assumption); (case k3 => fail "m u"); (case k4 => fail "m u"); (case k5 => decide)))
local macro_rules | `(tactic| fail "m l") => `(tactic| first | with_reducible exact sa_nil | (with_reducible refine' sa_cons ?k1 ?k2 ?k3; (case k1 => fail "m s"); (case k2 => fail "m l"); (case k3 => fail "m u")))
set_option hygiene false
local macro_rules | `(tactic| fail "m k") => `(tactic| first | exact Kept.type | exact Kept.builtin | exact Kept.ofK (by fail "m u"))
set_option hygiene true
local macro_rules | `(tactic| fail "m 0") => `(tactic| first
  | (with_reducible refine' callS_ ?k1 ?k2 ?k3 ?k4 ?k5 ?k6 ?_; (case k1 => assumption); (case k2 => fail "m s"); (case k3 => fail "m l"); (case k4 => fail "m k"); (case k5 => fail "m u"); (case k6 => fail "m u"))
  | (with_reducible refine' callF_ ?k1 ?k2 ?k4 ?k5 ?k6 ?_; (case k1 => assumption); (case k2 => fail "m s"); (case k4 => fail "m k"); (case k5 => fail "m u"); (case k6 => fail "m u"))
  | (with_reducible refine' argsA_ ?k1 ?_; (case k1 => fail "m l"))
  | (with_reducible refine' argsS_ ?k1 ?k2 ?_; (case k1 => fail "m s"); (case k2 => fail "m u"))
  | (with_reducible refine' binS_ ?k1 ?k2 ?_; (case k1 => fail "m s"); (case k2 => fail "m s"))
  | (with_reducible refine' binR_ ?k2 ?_; (case k2 => fail "m s"))
  | (with_reducible refine' binL_ ?k1 ?_; (case k1 => fail "m s"))
  | (with_reducible refine' subS_ ?k1 ?k2 ?_; (case k1 => fail "m s"); (case k2 => fail "m s"))
  | (with_reducible refine' subR_ ?k2 ?_; (case k2 => fail "m s"))
  | (with_reducible refine' subL_ ?k1 ?_; (case k1 => fail "m s"))
  | (with_reducible refine' cmpS_ ?k1 ?k2 ?k3 ?_; (case k1 => fail "m s"); (case k2 => fail "m s"); (case k3 => fail "m u"))
  | (with_reducible refine' cmpR_ ?k2 ?k3 ?_; (case k2 => fail "m s"); (case k3 => fail "m u"))
  | (with_reducible refine' tcmpS_ ?k1 ?k2 ?k3 ?_; (case k1 => fail "m s"); (case k2 => fail "m s"); (case k3 => fail "m u"))
  | (with_reducible refine' tcmpR_ ?k2 ?k3 ?_; (case k2 => fail "m s"); (case k3 => fail "m u"))
  | (with_reducible refine' useS_ ?k1 ?_; (case k1 => fail "m s")))
set_option hygiene false
local macro_rules | `(tactic| fail "m a") => `(tactic| first | assumption | decide | omega | (exact Nat.le_of_ble_eq_true rfl))
set_option hygiene true
local macro_rules | `(tactic| fail "m 2") => `(tactic| first | (with_reducible refine' loopNext ?k1 ?_; (case k1 => assumption)) | (with_reducible refine' loopRet ?k1 ?_; (case k1 => assumption)) | (with_reducible refine' endsRet ?k1 ?_; (case k1 => assumption)) | (with_reducible refine' WX.assign ?k1 ?_ ?k2 ?k3; (case k1 => assumption); (case k2 => fail "m u"); (case k3 => fail "m u")) | (with_reducible refine' WX.aug ?k1 ?k2 ?_ ?k3 ?k4; (case k1 => assumption); (case k2 => fail "m v"); (case k3 => fail "m u"); (case k4 => decide)) | (with_reducible refine' WX.append ?k1 ?k2 ?_ ?k3 ?k4 ?k5 ?k6 ?k7 ?k8 ?k9 ?k10; (case k1 => assumption); (case k2 => fail "m v"); (case k3 => fail "m u"); (case k4 => fail "m u"); (case k5 => fail "m u"); (case k6 => fail "m u"); (case k7 => decide); (case k8 => decide); (case k9 => fail "m u"); (case k10 => fail "m u")))
local macro_rules | `(tactic| fail "m 3") => `(tactic| first | (with_reducible refine' WE.cmp ?_ ?k1; (case k1 => fail "m u")) | (with_reducible refine' WE.chain ?_ ?k1; (case k1 => fail "m u")) | (with_reducible refine' exPart ?k1 ?k2 ?k3 ?_; (case k1 => fail "m u"); (case k2 => fail "m u"); (case k3 => fail "m u")) | (with_reducible refine' WArgs.cons ?_ ?k1; (case k1 => fail "m u")) | (with_reducible refine' attrK_ ?k1 ?_; (case k1 => assumption)) | (with_reducible refine' exAttr ?k1 ?k2 ?k3 ?_; (case k1 => first | exact (attrOks _).1 | exact (attrOks _).2.1 | exact (attrOks _).2.2.1 | exact (attrOks _).2.2.2.1 | exact (attrOks _).2.2.2.2); (case k2 => fail "m u"); (case k3 => fail "m u")) | (with_reducible refine' szQ ?k1 ?_; (case k1 => exact Nat.le_of_ble_eq_true rfl)) | (with_reducible refine' WT.cmp ?_ ?k1; (case k1 => fail "m u")) | (with_reducible refine' WT.chain ?_ ?k1; (case k1 => fail "m u")) | (with_reducible refine' WT.val ?_ ?k1; (case k1 => intro _; fail "m u")))
set_option hygiene false
local macro_rules | `(tactic| fail "m 1") => `(tactic| first | with_reducible refine' WS.cons ?_ | with_reducible refine' WS.nil ?_ | with_reducible refine' andNext ?_ | with_reducible refine' andRet ?_ | with_reducible refine' WX.ret ?_ | with_reducible refine' WX.ite ?_ | with_reducible refine' conjTF ?_ | with_reducible refine' conjTR ?_ | with_reducible refine' conjFF ?_ | with_reducible refine' conjFR ?_ | with_reducible refine' conjNT ?_ | with_reducible refine' conjNR ?_ | with_reducible refine' conjMF ?_ | with_reducible refine' conjMR ?_ | fail "m 2" | fail "m 0" | with_reducible refine' WT.not ?_ | with_reducible refine' WT.or_nil ?_ | with_reducible refine' WT.or ?_ | with_reducible refine' WT.and_nil ?_ | with_reducible refine' WT.and ?_ | with_reducible refine' WE.binop ?_ | with_reducible refine' WE.unary ?_ | with_reducible refine' WE.or ?_ | with_reducible refine' WE.and ?_ | with_reducible refine' WE.bool1 ?_ | with_reducible refine' WE.ifexp ?_ | with_reducible refine' WE.list ?_ | with_reducible refine' WE.tup ?_ | with_reducible refine' WE.sub ?_ | with_reducible refine' WE.slice ?_ | with_reducible refine' wpart_none ?_ | with_reducible refine' wpart_some ?_ | with_reducible refine' WArgs.nil ?_ | with_reducible refine' exB ?_ | with_reducible refine' W2.add ?_ | with_reducible refine' W2.sub ?_ | with_reducible refine' W2.band ?_ | with_reducible refine' W2.bor ?_ | with_reducible refine' W2.iadd ?_ | with_reducible refine' W2.isub ?_ | with_reducible refine' W2.lt ?_ | with_reducible refine' W2.gt ?_ | with_reducible refine' W2.le ?_ | with_reducible refine' W2.ge ?_ | with_reducible refine' W2.eqi ?_ | with_reducible refine' W2.nei ?_ | with_reducible refine' W2.eqs ?_ | with_reducible refine' W2.nes ?_ | with_reducible refine' W2.isNone ?_ | with_reducible refine' W2.isNotNone ?_ | with_reducible refine' W1.not ?_ | with_reducible refine' W1.neg ?_ | with_reducible refine' WV.range1 ?_ | with_reducible refine' WV.range2 ?_ | with_reducible refine' WV.abs ?_ | with_reducible refine' WV.reprB ?_ | fail "m 3")
local macro_rules | `(tactic| fail "m") => `(tactic| repeat fail "m 1")
local macro_rules | `(tactic| fail "m n") => `(tactic| exact Nat.le_of_ble_eq_true rfl)
local macro_rules | `(tactic| fail "m t") => `(tactic| first | refine WX.assignSw (by assumption) ?_ | refine WX.assignT (by assumption) rfl ?_)
local macro_rules | `(tactic| fail "m i") => `(tactic| repeat ((fail_if_success (with_reducible refine' WE.ifexp ?_)); fail "m 1"))
local macro_rules | `(tactic| fail "m j") => `(tactic| repeat ((fail_if_success (with_reducible refine' WX.ite ?_)); fail "m 1"))
set_option hygiene true
theorem bits2 : Builtin.Int.intBits 2 = 2 := by decide +kernel
theorem two_pow_nat (k : Nat) : (2 : Int) ^ ((k : Int)).toNat = ((2 ^ k : Nat) : Int) := by simp
theorem pow_ge {k : Nat} (h : 1 ≤ k) : 2 ≤ 2 ^ k := by
  have := Nat.pow_le_pow_right (show 0 < 2 by decide) h
  simpa using this
section
variable {prog : Program} {w : World} {b : Heap} {C : Cx} {Γ : Vars} {σ : Store} {Q : D → Store → Prop}

theorem pow2_ {k : Nat} (hk : k ≤ 1000) (h : Q (.int ((2 ^ k : Nat) : Int)) σ) : W2 (model prog w) b C (binaryOp .Pow) (.int 2) (.int (k : Int)) Γ σ Q := by
  refine W2.pow (by fail "m o") ?_ ?_
  · rw [bits2]; fail "m o"
  · rw [two_pow_nat]; exact h
theorem modN_ {x y : Nat} (hy : 0 < y) (h : Q (.int ((x % y : Nat) : Int)) σ) : W2 (model prog w) b C (binaryOp .Mod) (.int (x : Int)) (.int (y : Int)) Γ σ Q :=
  W2.fmod (by fail "m o") (by rw [nat_fmod]; exact h)
theorem divN_ {x y : Nat} (hy : 0 < y) (hz : y < 1073741824) (h : Q (.int ((x / y : Nat) : Int)) σ) : W2 (model prog w) b C (binaryOp .FloorDiv) (.int (x : Int)) (.int (y : Int)) Γ σ Q :=
  W2.fdiv (by fail "m o") (PyProof.noPylong_small (by fail "m o")) (by rw [nat_fdiv]; exact h)

theorem powN_ {x y m : Nat} (hm : 1 < m) (q : Q (.int ((x ^ y % m : Nat) : Int)) σ) : WV (model prog w) b C (fun vs => call (.builtin "pow") vs []) [.int (x : Int), .int (y : Int), .int (m : Int)] Γ σ Q := by
  refine WV.pow3 (by fail "m o") (by fail "m o") ?_
  have e1 : ((x : Int) % (m : Int)).toNat = x % m := by
    rw [show (x : Int) % (m : Int) = ((x % m : Nat) : Int) from rfl]; exact Int.toNat_natCast _
  rw [e1, Int.toNat_natCast, Int.toNat_natCast, ← Nat.pow_mod]
  exact q
theorem bits_le {m e : Nat} (h : m ≤ 2 ^ e) (he : e ≤ 60 := by decide) : Builtin.Int.intBits (m : Int) ≤ 64 := by
  unfold Builtin.Int.intBits
  split
  · (first | fail "m r" | (clear h he; omega))
  · rename_i hm
    have hm : m ≠ 0 := by intro q; subst q; exact hm rfl
    rw [Int.natAbs_natCast]
    have h1 : 2 ^ m.log2 ≤ m := Nat.log2_self_le hm
    have h2 : m.log2 ≤ e := by
      rcases Nat.lt_or_ge e m.log2 with q | q
      · have := Nat.pow_lt_pow_right (show 1 < 2 by decide) q
        (first | fail "m r" | (clear he hm q; omega))
      · exact q
    (first | fail "m r" | (clear h hm h1; omega))
theorem bits_small {m : Nat} (h : m ≤ sizeLine) : Builtin.Int.intBits (m : Int) ≤ 64 := bits_le (e := 24) h

variable {k : Nat} (B : Base (hd.heap_39 w.params) b) (hk : 1 ≤ k ∧ k ≤ 9)
include B hk
theorem c_law_row (v : Nat) (hv : v ≤ sizeLine) : Fn0 (model prog w) b 1 (.ref 286) [.int (v : Int), .int (k : Int)] (row (2 ^ k) v) := by
  have hB : 2 ≤ 2 ^ k := pow_ge hk.1
  have hB2 : 2 ^ k ≤ 2 ^ 9 := Nat.pow_le_pow_right (by decide) hk.2
  refine Fn0.intro B (names := ["value", "w"]) ⟨by with_unfolding_all rfl, ?fnb, by with_unfolding_all rfl, by with_unfolding_all rfl, by decide, by with_unfolding_all rfl, by with_unfolding_all rfl, by with_unfolding_all rfl⟩ rfl (by fail "m o") (fun A L Kf hKf ok => ?_)
  case fnb => exact len2 (P := fun vs => bindArgs _ ⟨vs, []⟩ = pure (List.zip _ vs)) (fun x0 x1 => by with_unfolding_all rfl)
  dsimp only [List.zip, List.zipWith]
  refine WS.cons (WX.assign ok (listP_ (WArgs.nil ⟨rfl, by decide, fun a => ?_⟩)) rfl rfl)
  refine andNext (WS.cons ?_)
  refine whileI_ (fun m Γ σ => ∃ done, σ = [(a, nats done)] ∧ Has Γ "found" (.raw (.ref a)) ∧ Has Γ "value" (.int (m : Int)) ∧ Has Γ "w" (.int (k : Int)) ∧ done ++ dg (2 ^ k) m = dg (2 ^ k) v) ⟨v, [], rfl, rfl, rfl, rfl, rfl⟩ ?_
  refine fun m J hJ Γ => st1 (fun done => an4 fun hf hv' hw' hd => ?_)
  fail "m"
  refine ⟨fun hc => ?_, fun hc => ?_⟩
  · have hc : 0 < m := by have := of_decide_eq_true hc; fail "m o"
    fail "m"
    refine pow2_ (by fail "m o") (modN_ (by fail "m o") ?_)
    have hl : done.length ≤ v := by
      have := congrArg List.length hd
      have h2 := dg_len hB v
      rw [List.length_append] at this; (first | fail "m r" | (clear hk hv hB hB2 hc; omega))
    refine ⟨_, rfl, by rw [nats, List.length_map]; (first | fail "m r" | (clear hk hB hB2 hc; omega)), ?_⟩
    fail "m"
    refine pow2_ (by fail "m o") (divN_ (by fail "m o") (by fail "m o") ?_)
    fail "m"
    refine ⟨m / 2 ^ k, Nat.div_lt_self hc hB, done ++ [m % 2 ^ k], by simp [nats], hf, rfl, hw', ?_⟩
    rw [← hd, dg_pos hB hc, List.append_assoc]; rfl
  · have hc : m = 0 := by have := of_decide_eq_false hc; fail "m o"
    subst hc
    fail "m"
    refine .inr ⟨a, nats done, rfl, by simp, ?_⟩
    rw [dg_zero, List.append_nil] at hd
    rw [row, ← hd]

omit hk in
theorem c_law_whole (hk : k ≤ 9) (l : List Nat) (hl : l.length ≤ sizeLine) : Fn0 (model prog w) b 1 (.ref 293) [.list (nats l), .int (k : Int)] (.int (val (2 ^ k) l : Nat)) := by
  refine Fn0.intro B (names := ["row", "w"]) ⟨by with_unfolding_all rfl, ?fnb, by with_unfolding_all rfl, by with_unfolding_all rfl, by decide, by with_unfolding_all rfl, by with_unfolding_all rfl, by with_unfolding_all rfl⟩ rfl (by fail "m o") (fun A L Kf hKf ok => ?_)
  case fnb => exact len2 (P := fun vs => bindArgs _ ⟨vs, []⟩ = pure (List.zip _ vs)) (fun x0 x1 => by with_unfolding_all rfl)
  dsimp only [List.zip, List.zipWith]
  fail "m"
  refine forI_ (fun xs Γ σ => ∃ todo done, σ = [] ∧ xs = nats todo ∧ todo.reverse ++ done = l ∧ Has Γ "value" (.int (val (2 ^ k) done : Nat)) ∧ Has Γ "w" (.int (k : Int))) ok ?_ ?_ ?_
  · fail "m"
    refine W2.sliceL (by decide) (by rw [nats, List.length_map]; fail "m o") ?_
    rw [pick_rev]
    exact ⟨_, .list _, l.reverse, [], rfl, by simp [nats], by simp, rfl, rfl⟩
  · refine fun x xs J hJ Γ => st2 (fun todo done => an4 fun hx hl' hv hw => ?_)
    cases todo with
    | nil => cases hx
    | cons y todo =>
      cases hx
      refine WA.name ok ?_
      fail "m"
      refine pow2_ (by fail "m o") ?_
      refine W2.mul (.of_right (by have h2 : 2 ^ k ≤ 2 ^ 9 := Nat.pow_le_pow_right (by decide) hk; exact bits_le h2)) ?_
      fail "m"
      refine ⟨todo, y :: done, rfl, rfl, by simpa using hl', ?_, hw⟩
      show _ = _
      rw [val, List.lookup_cons]
      simp [Int.mul_comm, Int.add_comm]
  · refine fun Γ => st2 (fun todo done => an4 fun hx hl' hv hw => ?_)
    have : todo = [] := by simpa [nats] using hx.symm
    subst this
    have hl' : done = l := by simpa using hl'
    subst hl'
    fail "m"
    exact Ends0.ret

theorem c_law_times (x y : Nat) (hx : x ≤ sizeLine) (hy : y ≤ sizeLine) (hxy : x * y ≤ sizeLine) : Fn0 (model prog w) b 2 (.ref 305) [row (2 ^ k) x, row (2 ^ k) y, .int (k : Int)] (row (2 ^ k) (x * y)) := by
  have hB : 2 ≤ 2 ^ k := pow_ge hk.1
  refine Fn0.intro B (names := ["one", "other", "w"]) ⟨by with_unfolding_all rfl, ?fnb, by with_unfolding_all rfl, by with_unfolding_all rfl, by decide, by with_unfolding_all rfl, by with_unfolding_all rfl, by with_unfolding_all rfl⟩ rfl (by fail "m o") (fun A L Kf hKf ok => ?_)
  case fnb => exact len3 (P := fun vs => bindArgs _ ⟨vs, []⟩ = pure (List.zip _ vs)) (fun x0 x1 x2 => by with_unfolding_all rfl)
  dsimp only [List.zip, List.zipWith]
  fail "m"
  refine WV.fn0 ok (c_law_whole B hk.2 _ (Nat.le_trans (dg_len hB _) hx)) (by fail "m n") ?_
  fail "m"
  refine WV.fn0 ok (c_law_whole B hk.2 _ (Nat.le_trans (dg_len hB _) hy)) (by fail "m n") ?_
  rw [val_dg hB, val_dg hB]
  refine W2.mul (.of_left (bits_small hx)) ?_
  fail "m"
  rw [← Int.natCast_mul]
  refine WV.fn0 ok (c_law_row B hk _ hxy) (by fail "m n") ?_
  fail "m"
  exact Ends0.ret

theorem c_law_parts (x y : Nat) (hx : x ≤ sizeLine) (hy : 0 < y) (hy' : y ≤ sizeLine) : Fn0 (model prog w) b 2 (.ref 312) [row (2 ^ k) x, row (2 ^ k) y, .int (k : Int)] (.tup [row (2 ^ k) (x / y), row (2 ^ k) (x % y)]) := by
  have hB : 2 ≤ 2 ^ k := pow_ge hk.1
  have h1 : x / y ≤ sizeLine := Nat.le_trans (Nat.div_le_self _ _) hx
  have h2 : x % y ≤ sizeLine := Nat.le_trans (Nat.mod_le _ _) hx
  refine Fn0.intro B (names := ["one", "other", "w"]) ⟨by with_unfolding_all rfl, ?fnb, by with_unfolding_all rfl, by with_unfolding_all rfl, by decide, by with_unfolding_all rfl, by with_unfolding_all rfl, by with_unfolding_all rfl⟩ rfl (by fail "m o") (fun A L Kf hKf ok => ?_)
  case fnb => exact len3 (P := fun vs => bindArgs _ ⟨vs, []⟩ = pure (List.zip _ vs)) (fun x0 x1 x2 => by with_unfolding_all rfl)
  dsimp only [List.zip, List.zipWith]
  refine WS.cons (WX.assignSw ok ?_)
  fail "m"
  refine WV.fn0 ok (c_law_whole B hk.2 _ (Nat.le_trans (dg_len hB _) hx)) (by fail "m n") ?_
  fail "m"
  refine WV.fn0 ok (c_law_whole B hk.2 _ (Nat.le_trans (dg_len hB _) hy')) (by fail "m n") ?_
  rw [val_dg hB, val_dg hB]
  fail "m"
  refine ⟨_, rfl, rfl, ?_⟩
  fail "m"
  refine divN_ hy (by have : sizeLine = 16777216 := by decide
                      fail "m o") ?_
  fail "m"
  refine WV.fn0 ok (c_law_row B hk _ h1) (by fail "m n") ?_
  fail "m"
  refine modN_ hy ?_
  fail "m"
  refine WV.fn0 ok (c_law_row B hk _ h2) (by fail "m n") ?_
  fail "m"
  exact Ends0.ret

theorem c_law_power (x y m : Nat) (hx : x ≤ sizeLine) (hy : y ≤ sizeLine) (hm : 1 < m) (hm' : m ≤ sizeLine) : Fn0 (model prog w) b 2 (.ref 319) [row (2 ^ k) x, row (2 ^ k) y, row (2 ^ k) m, .int (k : Int)] (row (2 ^ k) (x ^ y % m)) := by
  have hB : 2 ≤ 2 ^ k := pow_ge hk.1
  refine Fn0.intro B (names := ["one", "exponent", "modulus", "w"]) ⟨by with_unfolding_all rfl, ?fnb, by with_unfolding_all rfl, by with_unfolding_all rfl, by decide, by with_unfolding_all rfl, by with_unfolding_all rfl, by with_unfolding_all rfl⟩ rfl (by fail "m o") (fun A L Kf hKf ok => ?_)
  case fnb => exact len4 (P := fun vs => bindArgs _ ⟨vs, []⟩ = pure (List.zip _ vs)) (fun x0 x1 x2 x3 => by with_unfolding_all rfl)
  dsimp only [List.zip, List.zipWith]
  fail "m"
  refine WV.fn0 ok (c_law_whole B hk.2 _ (Nat.le_trans (dg_len hB _) hx)) (by fail "m n") ?_
  fail "m"
  refine WV.fn0 ok (c_law_whole B hk.2 _ (Nat.le_trans (dg_len hB _) hy)) (by fail "m n") ?_
  fail "m"
  refine WV.fn0 ok (c_law_whole B hk.2 _ (Nat.le_trans (dg_len hB _) hm')) (by fail "m n") ?_
  rw [val_dg hB, val_dg hB, val_dg hB]
  fail "m"
  refine powN_ hm ?_
  fail "m"
  refine WV.fn0 ok (c_law_row B hk _ (Nat.le_trans (Nat.le_of_lt (Nat.mod_lt _ (by fail "m o"))) hm')) (by fail "m n") ?_
  fail "m"
  exact Ends0.ret
end
noncomputable def downs : Nat → List D
  | 0 => []
  | n + 1 => .int (n : Nat) :: downs n
noncomputable def ups : Nat → Nat → List D
  | _, 0 => []
  | a, n + 1 => .int (a : Nat) :: ups (a + 1) n
theorem ups_eq : ∀ (n a : Nat), (List.range n).map (fun (k : Nat) => D.int ((a : Int) + (k : Int) * 1)) = ups a n
  | 0, a => rfl
  | n + 1, a => by
    rw [List.range_succ_eq_map, List.map_cons, List.map_map, ups, ← ups_eq n (a + 1)]
    have e : ((fun (k : Nat) => D.int ((a : Int) + (k : Int) * 1)) ∘ Nat.succ) = fun (k : Nat) => D.int (((a + 1 : Nat) : Int) + (k : Int) * 1) := by
      funext k
      show D.int _ = D.int _
      congr 1
      simp only [Nat.succ_eq_add_one]; fail "m o"
    rw [e]
    congr 1
    first | done | (congr 1; fail "m o")
theorem downs_eq : ∀ (n : Nat), (List.range n).map (fun (k : Nat) => D.int (((n : Int) - 1) + (k : Int) * (-1))) = downs n
  | 0 => rfl
  | n + 1 => by
    rw [List.range_succ_eq_map, List.map_cons, List.map_map, downs, ← downs_eq n]
    congr 1
    · congr 1; simp
    · apply List.map_congr_left
      intro k _
      show D.int _ = D.int _
      congr 1
      simp only [Nat.succ_eq_add_one]; fail "m o"
theorem fitsLong {i : Int} (h1 : -(2 ^ 60) ≤ i) (h2 : i ≤ 2 ^ 60) : Builtin.Range.rangeFitsLong i = true := by
  unfold Builtin.Range.rangeFitsLong
  rw [Bool.and_eq_true, decide_eq_true_iff, decide_eq_true_iff]
  fail "m o"
theorem small_of {a b c : Int} (h1 : -(2 ^ 50) ≤ a) (h2 : a ≤ 2 ^ 50) (h3 : -(2 ^ 50) ≤ b) (h4 : b ≤ 2 ^ 50) (h5 : c = 1 ∨ c = -1) (h6 : 0 ≤ Builtin.Range.rangeSize a b c) (h7 : Builtin.Range.rangeSize a b c ≤ 2 ^ 50) : Builtin.Range.small a b c = true := by
  unfold Builtin.Range.small
  rw [fitsLong (by (first | fail "m r" | (clear h3 h4 h5 h6 h7; omega))) (by (first | fail "m r" | (clear h3 h4 h5 h6 h7; omega))), fitsLong (by (first | fail "m r" | (clear h1 h2 h5 h6 h7; omega))) (by (first | fail "m r" | (clear h1 h2 h5 h6 h7; omega))), fitsLong (by (first | fail "m r" | (clear h1 h2 h3 h4 h6 h7; omega))) (by (first | fail "m r" | (clear h1 h2 h3 h4 h6 h7; omega))), fitsLong (by (first | fail "m r" | (clear h1 h2 h3 h4 h5; omega))) (by (first | fail "m r" | (clear h1 h2 h3 h4 h5; omega)))]
  rcases h5 with rfl | rfl
  · rw [if_pos (by decide), fitsLong (by (first | fail "m r" | (clear h1 h2 h6 h7; omega))) (by (first | fail "m r" | (clear h1 h2 h6 h7; omega)))]; simp
  · rw [if_neg (by decide), fitsLong (by (first | fail "m r" | (clear h1 h2 h6 h7; omega))) (by (first | fail "m r" | (clear h1 h2 h6 h7; omega)))]; simp
theorem items_ups (a n : Nat) (h : a + n ≤ 2 ^ 40) : Items (.range (a : Int) ((a + n : Nat) : Int) 1) (ups a n) := by
  have e : Builtin.Range.rangeSize (a : Int) ((a + n : Nat) : Int) 1 = n := by
    unfold Builtin.Range.rangeSize
    simp only [show (1 : Int) > 0 by decide, if_true, Int.ediv_one]
    split <;> (first | fail "m r" | (clear h; omega))
  have := Items.range (a : Int) ((a + n : Nat) : Int) 1 (small_of (by (first | fail "m r" | (clear h e; omega))) (by fail "m o") (by (first | fail "m r" | (clear h; omega))) (by fail "m o") (.inl rfl) (by rw [e]; fail "m o") (by rw [e]; fail "m o"))
  rw [e, Int.toNat_natCast, ups_eq] at this
  exact this
theorem items_downs (n : Nat) (h : n ≤ 2 ^ 40) : Items (.range ((n : Int) - 1) (-1) (-1)) (downs n) := by
  have e : Builtin.Range.rangeSize ((n : Int) - 1) (-1) (-1) = n := by
    unfold Builtin.Range.rangeSize
    simp only [show ¬ ((-1 : Int) > 0) by decide, if_false, show (- -1 : Int) = 1 by rfl, Int.ediv_one]
    split <;> fail "m o"
  have := Items.range ((n : Int) - 1) (-1) (-1) (small_of (by fail "m o") (by fail "m o") (by (first | fail "m r" | (clear h e; omega))) (by (first | fail "m r" | (clear h e; omega))) (.inr rfl) (by rw [e]; fail "m o") (by rw [e]; fail "m o"))
  rw [e, Int.toNat_natCast, downs_eq] at this
  exact this
theorem nats_get {l : List Nat} {i x : Nat} (h : l[i]? = some x) : (nats l)[((i : Nat) : Int).toNat]? = some (.int (x : Nat)) := by
  rw [Int.toNat_natCast, nats, List.getElem?_map, h]; rfl
theorem nats_len (l : List Nat) : (nats l).length = l.length := List.length_map _
theorem sz : sizeLine = 16777216 := by decide

noncomputable def cmpN (a c : Nat) : Int := if a < c then -1 else if a = c then 0 else 1
theorem val_lt {B : Nat} (hB : 1 ≤ B) : ∀ l : List Nat, (∀ x ∈ l, x < B) → val B l < B ^ l.length
  | [], _ => by simp [val]
  | x :: l, h => by
    have h1 := val_lt hB l fun y hy => h y (List.mem_cons_of_mem _ hy)
    have h2 := h x (List.mem_cons_self ..)
    rw [val, List.length_cons, Nat.pow_succ]
    have : B * (val B l + 1) ≤ B * B ^ l.length := Nat.mul_le_mul_left _ h1
    rw [Nat.mul_add] at this
    rw [Nat.mul_comm (B ^ _)]
    (first | fail "m r" | (clear hB h1; omega))
theorem val_append {B : Nat} : ∀ (l m : List Nat), val B (l ++ m) = val B l + B ^ l.length * val B m
  | [], m => by simp [val]
  | x :: l, m => by
    rw [List.cons_append, val, val_append l m, val, List.length_cons, Nat.pow_succ, Nat.mul_add, Nat.add_assoc, ← Nat.mul_assoc, Nat.mul_comm B (B ^ l.length)]
theorem can_ge {B : Nat} (hB : 2 ≤ B) : ∀ l : List Nat, Can B l → l ≠ [] → B ^ (l.length - 1) ≤ val B l
  | [], _, h => absurd rfl h
  | [x], h, _ => by
    have : x ≠ 0 := by intro q; exact h.2 (by simp [q])
    simp [val]; (first | fail "m r" | (clear hB; omega))
  | x :: y :: l, h, _ => by
    have ih := can_ge hB (y :: l) ⟨fun z hz => h.1 z (List.mem_cons_of_mem _ hz), by have := h.2; rwa [List.getLast?_cons_cons] at this⟩ (by simp)
    rw [val]
    simp only [List.length_cons, Nat.add_sub_cancel] at ih ⊢
    rw [Nat.pow_succ, Nat.mul_comm]
    exact Nat.le_trans (Nat.mul_le_mul_left B ih) (Nat.le_add_left _ _)
theorem len_lt_val {B : Nat} (hB : 2 ≤ B) {l m : List Nat} (hl : Can B l) (hm : Can B m) (h : l.length < m.length) : val B l < val B m := by
  have h1 := val_lt (show 1 ≤ B by fail "m o") l hl.1
  have h2 := can_ge hB m hm (by intro q; subst q; simp at h)
  have h3 : B ^ l.length ≤ B ^ (m.length - 1) := Nat.pow_le_pow_right (by fail "m o") (by (first | fail "m r" | (clear hB h1 h2; omega)))
  (first | fail "m r" | (clear hB h; omega))
theorem top_lt_val {B : Nat} (hB : 2 ≤ B) {l m : List Nat} {i x y : Nat} (hl : ∀ z ∈ l, z < B) (hm : ∀ z ∈ m, z < B) (hx : l[i]? = some x) (hy : m[i]? = some y) (hd : l.drop (i + 1) = m.drop (i + 1)) (h : x < y) : val B l < val B m := by
  have split : ∀ (l : List Nat) (x : Nat), l[i]? = some x → val B l = val B (l.take i) + B ^ i * (x + B * val B (l.drop (i + 1))) := fun l x hx => by
    have hlt : i < l.length := by
      rcases Nat.lt_or_ge i l.length with q | q
      · exact q
      · rw [List.getElem?_eq_none q] at hx; cases hx
    have e : l.drop i = x :: l.drop (i + 1) := by
      rw [List.drop_eq_getElem_cons hlt]
      rw [List.getElem?_eq_getElem hlt] at hx; cases hx; rfl
    have := val_append (B := B) (l.take i) (l.drop i)
    rw [List.take_append_drop, e, val, List.length_take, Nat.min_eq_left (Nat.le_of_lt hlt)] at this
    exact this
  rw [split l x hx, split m y hy, hd]
  have hll : (l.take i).length = i := by
    rw [List.length_take]
    rcases Nat.lt_or_ge i l.length with q | q
    · (first | fail "m r" | (clear hB h; omega))
    · rw [List.getElem?_eq_none q] at hx; cases hx
  have h1 : val B (l.take i) < B ^ i := by
    have := val_lt (show 1 ≤ B by fail "m o") (l.take i) fun z hz => hl z (List.mem_of_mem_take hz)
    rwa [hll] at this
  have h3 : B ^ i * (x + B * val B (m.drop (i + 1))) + B ^ i ≤ B ^ i * (y + B * val B (m.drop (i + 1))) := by
    rw [← Nat.mul_succ]; exact Nat.mul_le_mul_left _ (by (first | fail "m r" | (clear hB hll h1; omega)))
  (first | fail "m r" | (clear hB h hll; omega))

section
variable {prog : Program} {w : World} {b : Heap} {C : Cx} {Γ : Vars} {σ : Store} {Q : D → Store → Prop}
theorem itemN_ {value slice : PySem.Expr} {l : List Nat} {i x : Nat} (h1 : i ≤ sizeLine) (hx : l[i]? = some x) (h : Q (.int (x : Nat)) σ)
    (hs : ∀ o j, subscripted slice false o j = operate [o, j] (getItem o j) := by intro _ _; rfl) : W2 (model prog w) b C (subscriptTail value slice) (.list (nats l)) (.int (i : Nat)) Γ σ Q :=
  W2.item (by fail "m o") (by rw [sz] at h1; fail "m o") (nats_get hx) h hs
theorem lenN_ {l : List Nat} (hz : l.length ≤ sizeLine) (q : Q (.int (l.length : Nat)) σ) : WV (model prog w) b C (fun vs => call (.builtin "len") vs []) [.list (nats l)] Γ σ Q :=
  WV.lenL (by rw [nats_len]; exact hz) (by rw [nats_len]; exact q)
theorem downs_ {n : Nat} (q : Q (.range ((n : Int) - 1) (-1) (-1)) σ) : WV (model prog w) b C (fun vs => call (.type "range") vs []) [.int ((n : Int) - 1), .int (-1), .int (-1)] Γ σ Q :=
  WV.range3 (by decide) (PyProof.noPylong_small (by decide)) q

variable {k : Nat} (B : Base (hd.heap_39 w.params) b) (hk : 1 ≤ k ∧ k ≤ 9)
include B
theorem c_law_common (x y : Nat) (hx : x ≤ sizeLine) (hy : y ≤ sizeLine) : Fn0 (model prog w) b 1 (.ref 326) [.int (x : Nat), .int (y : Nat)] (.int (Nat.gcd x y : Nat)) := by
  refine Fn0.intro B (names := ["here", "there"]) ⟨by with_unfolding_all rfl, ?fnb, by with_unfolding_all rfl, by with_unfolding_all rfl, by decide, by with_unfolding_all rfl, by with_unfolding_all rfl, by with_unfolding_all rfl⟩ rfl (by fail "m o") (fun A L Kf hKf ok => ?_)
  case fnb => exact len2 (P := fun vs => bindArgs _ ⟨vs, []⟩ = pure (List.zip _ vs)) (fun x0 x1 => by with_unfolding_all rfl)
  dsimp only [List.zip, List.zipWith]
  refine WS.cons ?_
  refine whileI_ (fun m Γ σ => ∃ h, σ = [] ∧ Has Γ "here" (.int (h : Nat)) ∧ Has Γ "there" (.int (m : Nat)) ∧ Nat.gcd h m = Nat.gcd x y) ⟨y, x, rfl, rfl, rfl, rfl⟩ ?_
  rintro m J hJ Γ σ ⟨h, rfl, h1, h2, hg⟩
  fail "m"
  refine ⟨fun hc => ?_, fun hc => ?_⟩
  · have hc : 0 < m := by have := of_decide_eq_true hc; fail "m o"
    refine WS.cons ?_
    fail "m t"
    fail "m"
    refine modN_ hc ?_
    fail "m"
    refine ⟨_, rfl, rfl, ?_⟩
    fail "m"
    refine ⟨h % m, Nat.mod_lt _ hc, m, rfl, rfl, rfl, ?_⟩
    rw [← hg, Nat.gcd_comm h m, Nat.gcd_rec m h, Nat.gcd_comm]
  · have hc : m = 0 := by have := of_decide_eq_false hc; fail "m o"
    subst hc
    fail "m"
    rw [← hg, Nat.gcd_zero_right]
    fail "m"; exact Ends0.ret

include hk in
theorem c_law_gcd (x y : Nat) (hx : x ≤ sizeLine) (hy : y ≤ sizeLine) (hp : Nat.gcd x y ≤ sizeLine) : Fn0 (model prog w) b 2 (.ref 333) [row (2 ^ k) x, row (2 ^ k) y, .int (k : Int)] (row (2 ^ k) (Nat.gcd x y)) := by
  have hB : 2 ≤ 2 ^ k := pow_ge hk.1
  refine Fn0.intro B (names := ["one", "other", "w"]) ⟨by with_unfolding_all rfl, ?fnb, by with_unfolding_all rfl, by with_unfolding_all rfl, by decide, by with_unfolding_all rfl, by with_unfolding_all rfl, by with_unfolding_all rfl⟩ rfl (by fail "m o") (fun A L Kf hKf ok => ?_)
  case fnb => exact len3 (P := fun vs => bindArgs _ ⟨vs, []⟩ = pure (List.zip _ vs)) (fun x0 x1 x2 => by with_unfolding_all rfl)
  dsimp only [List.zip, List.zipWith]
  fail "m"
  refine WV.fn0 ok (c_law_whole B hk.2 _ (Nat.le_trans (dg_len hB _) hx)) (by fail "m n") ?_
  fail "m"
  refine WV.fn0 ok (c_law_whole B hk.2 _ (Nat.le_trans (dg_len hB _) hy)) (by fail "m n") ?_
  rw [val_dg hB, val_dg hB]
  fail "m"
  refine WV.fn0 ok (c_law_common B _ _ hx hy) (by fail "m n") ?_
  fail "m"
  refine WV.fn0 ok (c_law_row B hk _ hp) (by fail "m n") ?_
  fail "m"
  exact Ends0.ret

theorem c_compare {Bs : Nat} (hB : 2 ≤ Bs) (x y : Nat) (hx : x ≤ sizeLine) (hy : y ≤ sizeLine) : Fn0 (model prog w) b 1 (.ref 67) [row Bs x, row Bs y] (.int (cmpN x y)) := by
  have lx := Nat.le_trans (dg_len hB x) hx
  have ly := Nat.le_trans (dg_len hB y) hy
  have cx := can_dg hB x
  have cy := can_dg hB y
  refine Fn0.intro B (names := ["a", "b"]) ⟨by with_unfolding_all rfl, ?fnb, by with_unfolding_all rfl, by with_unfolding_all rfl, by decide, by with_unfolding_all rfl, by with_unfolding_all rfl, by with_unfolding_all rfl⟩ rfl (by fail "m o") (fun A L Kf hKf ok => ?_)
  case fnb => exact len2 (P := fun vs => bindArgs _ ⟨vs, []⟩ = pure (List.zip _ vs)) (fun x0 x1 => by with_unfolding_all rfl)
  dsimp only [List.zip, List.zipWith]
  fail "m"
  refine lenN_ lx ?_
  fail "m"
  refine lenN_ ly ?_
  fail "m"
  refine ⟨fun hc => ?_, fun hc => ?_⟩
  · fail "m"
    refine lenN_ lx ?_
    fail "m"
    refine lenN_ ly ?_
    fail "m"
    have hne : (dg Bs x).length ≠ (dg Bs y).length := by have := of_decide_eq_true hc; fail "m o"
    refine ⟨fun h => ?_, fun h => ?_⟩
    · have h : (dg Bs x).length < (dg Bs y).length := by have := of_decide_eq_true h; fail "m o"
      have := len_lt_val hB cx cy h
      rw [val_dg hB, val_dg hB] at this
      fail "m"
      exact .inl (by rw [cmpN, if_pos this])
    · have h : (dg Bs y).length < (dg Bs x).length := by have := of_decide_eq_false h; (first | fail "m r" | (clear hB hx hy lx ly; omega))
      have := len_lt_val hB cy cx h
      rw [val_dg hB, val_dg hB] at this
      fail "m"
      exact .inl (by rw [cmpN, if_neg (by (first | fail "m r" | (clear hB hx hy lx ly hne h; omega))), if_neg (by fail "m o")])
  · have hlen : (dg Bs x).length = (dg Bs y).length := by have := of_decide_eq_false hc; fail "m o"
    fail "m"
    refine forI_ (fun xs Γ σ => ∃ i, σ = [] ∧ xs = downs i ∧ i ≤ (dg Bs x).length ∧ (dg Bs x).drop i = (dg Bs y).drop i ∧ Has Γ "a" (row Bs x) ∧ Has Γ "b" (row Bs y)) ok ?_ ?_ ?_
    · fail "m"
      refine lenN_ lx ?_
      fail "m"
      refine downs_ ?_
      refine ⟨_, items_downs _ (by rw [sz] at lx; fail "m o"), _, rfl, rfl, Nat.le_refl _, ?_, rfl, rfl⟩
      rw [List.drop_length, hlen, List.drop_length]
    · refine fun e xs J hJ Γ => st1 (fun i => an5 fun he hi hd h1 h2 => ?_)
      cases i with
      | zero => cases he
      | succ i =>
        cases he
        obtain ⟨u, hu⟩ : ∃ u, (dg Bs x)[i]? = some u := ⟨_, List.getElem?_eq_getElem (by (first | fail "m r" | (clear hB hx hy lx ly; omega)))⟩
        obtain ⟨v, hv⟩ : ∃ v, (dg Bs y)[i]? = some v := ⟨_, List.getElem?_eq_getElem (by (first | fail "m r" | (clear hB hx hy lx ly; omega)))⟩
        refine WA.name ok ?_
        fail "m"
        refine itemN_ (by (first | fail "m r" | (clear hB hx hy ly; omega))) hu ?_
        fail "m"
        refine itemN_ (by (first | fail "m r" | (clear hB hx hy ly; omega))) hv ?_
        fail "m"
        refine ⟨fun hc => ?_, fun hc => ?_⟩
        · have hne : u ≠ v := by have := of_decide_eq_true hc; fail "m o"
          fail "m"
          refine itemN_ (by (first | fail "m r" | (clear hB hx hy ly hne; omega))) hu ?_
          fail "m"
          refine itemN_ (by (first | fail "m r" | (clear hB hx hy ly hne; omega))) hv ?_
          fail "m"
          refine ⟨fun h => ?_, fun h => ?_⟩
          · have h : u < v := by have := of_decide_eq_true h; fail "m o"
            have := top_lt_val hB cx.1 cy.1 hu hv hd h
            rw [val_dg hB, val_dg hB] at this
            fail "m"
            exact .inl (by rw [cmpN, if_pos this])
          · have h : v < u := by have := of_decide_eq_false h; (first | fail "m r" | (clear hB hx hy lx ly hlen hi; omega))
            have := top_lt_val hB cy.1 cx.1 hv hu hd.symm h
            rw [val_dg hB, val_dg hB] at this
            fail "m"
            exact .inl (by rw [cmpN, if_neg (by (first | fail "m r" | (clear hB hx hy lx ly hlen hi hne h; omega))), if_neg (by fail "m o")])
        · have heq : u = v := by have := of_decide_eq_false hc; fail "m o"
          subst heq
          fail "m"
          refine ⟨i, rfl, rfl, by fail "m o", ?_, h1, h2⟩
          rw [List.drop_eq_getElem_cons (show i < (dg Bs x).length by (first | fail "m r" | (clear hB hx hy lx ly; omega))), List.drop_eq_getElem_cons (show i < (dg Bs y).length by (first | fail "m r" | (clear hB hx hy lx ly; omega))), hd]
          rw [List.getElem?_eq_getElem (by (first | fail "m r" | (clear hB hx hy lx ly; omega)))] at hu hv
          cases hu
          rw [Option.some.inj hv]
    · refine fun Γ => st1 (fun i => an5 fun he hi hd h1 h2 => ?_)
      cases i with
      | succ i => cases he
      | zero =>
        have e : dg Bs x = dg Bs y := hd
        have e : x = y := by rw [← val_dg hB x, e, val_dg hB]
        fail "m"
        exact .inl (by rw [cmpN, if_neg (by (first | fail "m r" | (clear hB hx hy lx ly hlen hi; omega))), if_pos e])
end
theorem bits1 : Builtin.Int.intBits 1 = 1 := by decide +kernel
theorem and_mask (x k : Nat) : Builtin.bitAnd (x : Int) (((2 ^ k : Nat) : Int) - 1) = ((x % 2 ^ k : Nat) : Int) := by
  have h0 : 0 < 2 ^ k := Nat.pow_pos (by decide)
  rw [show ((2 ^ k : Nat) : Int) - 1 = ((2 ^ k - 1 : Nat) : Int) by fail "m o", bitAnd_pp (by fail "m o") (by fail "m o"), Int.toNat_natCast, Int.toNat_natCast, Nat.and_two_pow_sub_one_eq_mod]
theorem val_take_succ {B : Nat} (l : List Nat) (i : Nat) : val B (l.take (i + 1)) = val B (l.take i) + B ^ i * l.getD i 0 := by
  rcases Nat.lt_or_ge i l.length with h | h
  · rw [List.take_add_one, val_append, List.length_take, Nat.min_eq_left (Nat.le_of_lt h), List.getElem?_eq_getElem h]
    simp [List.getD, h, val]
  · rw [List.take_of_length_le (by fail "m o"), List.take_of_length_le h]
    simp [List.getD, List.getElem?_eq_none h]
theorem can_of_ge {B : Nat} (hB : 2 ≤ B) {l : List Nat} (h1 : ∀ x ∈ l, x < B) (h2 : l ≠ [] → B ^ (l.length - 1) ≤ val B l) : Can B l := by
  refine ⟨h1, fun h => ?_⟩
  have hne : l ≠ [] := by rintro rfl; cases h
  have h2 := h2 hne
  obtain ⟨m, hm⟩ : ∃ m, l = m ++ [0] := by
    refine ⟨l.dropLast, ?_⟩
    rw [List.getLast?_eq_some_getLast hne] at h
    have := List.dropLast_concat_getLast hne
    rw [Option.some.inj h] at this
    exact this.symm
  subst hm
  rw [val_append, List.length_append] at h2
  simp only [val, Nat.mul_zero, Nat.add_zero, List.length_singleton, Nat.add_sub_cancel] at h2
  have := val_lt (show 1 ≤ B by fail "m o") m fun x hx => h1 x (List.mem_append_left _ hx)
  (first | fail "m r" | (clear hB; omega))
theorem val_zeros {B : Nat} : ∀ (l : List Nat) (e : Nat), (∀ x ∈ l.drop e, x = 0) → val B (l.take e) = val B l := by
  intro l e h
  have hz : ∀ m : List Nat, (∀ x ∈ m, x = 0) → val B m = 0 := by
    intro m
    induction m with
    | nil => intro _; rfl
    | cons x m ih => intro h; rw [val, ih fun y hy => h y (List.mem_cons_of_mem _ hy), h x (List.mem_cons_self ..)]; simp
  have := val_append (B := B) (l.take e) (l.drop e)
  rw [List.take_append_drop, hz _ h, Nat.mul_zero, Nat.add_zero] at this
  exact this.symm

section
variable {prog : Program} {w : World} {b : Heap} {C : Cx} {Γ : Vars} {σ : Store} {Q : D → Store → Prop}
theorem shl1_ {k : Nat} (hk : k ≤ 1000) (h : Q (.int ((2 ^ k : Nat) : Int)) σ) : W2 (model prog w) b C (binaryOp .LShift) (.int 1) (.int (k : Int)) Γ σ Q := by
  refine W2.shl (by fail "m o") ?_ ?_
  · rw [bits1]; fail "m o"
  · rw [two_pow_nat, Int.one_mul]; exact h
theorem ishrN_ {x k : Nat} (h : Q (.int ((x / 2 ^ k : Nat) : Int)) σ) : W2 (model prog w) b C (inplaceOp .RShift) (.int (x : Int)) (.int (k : Int)) Γ σ Q :=
  W2.ishr (by fail "m o") (by rw [two_pow_nat, nat_fdiv]; exact h)

variable {k : Nat} (B : Base (hd.heap_39 w.params) b) (hk : 1 ≤ k ∧ k ≤ 9)
include B
theorem c_normal {Bs : Nat} (hB : 2 ≤ Bs) (l : List Nat) (hl : l.length ≤ sizeLine) (hlt : ∀ x ∈ l, x < Bs) : Fn0 (model prog w) b 1 (.ref 46) [.list (nats l)] (row Bs (val Bs l)) := by
  refine Fn0.intro B (names := ["a"]) ⟨by with_unfolding_all rfl, ?fnb, by with_unfolding_all rfl, by with_unfolding_all rfl, by decide, by with_unfolding_all rfl, by with_unfolding_all rfl, by with_unfolding_all rfl⟩ rfl (by fail "m o") (fun A L Kf hKf ok => ?_)
  case fnb => exact len1 (P := fun vs => bindArgs _ ⟨vs, []⟩ = pure (List.zip _ vs)) (fun x0 => by with_unfolding_all rfl)
  dsimp only [List.zip, List.zipWith]
  fail "m"
  refine lenN_ hl ?_
  fail "m"
  refine whileI_ (fun e Γ σ => σ = [] ∧ Has Γ "a" (.list (nats l)) ∧ Has Γ "end" (.int (e : Nat)) ∧ e ≤ l.length ∧ ∀ x ∈ l.drop e, x = 0) ⟨_, rfl, rfl, rfl, Nat.le_refl _, by simp⟩ ?_
  refine fun e J hJ Γ => st0 (an4 fun h1 h2 he hz => ?_)
  have fin : (e = 0 ∨ ∃ x, l[e - 1]? = some x ∧ x ≠ 0) → row Bs (val Bs l) = .list (nats (l.take e)) := by
    intro h
    have hc : Can Bs (l.take e) := by
      refine ⟨fun x hx => hlt x (List.mem_of_mem_take hx), ?_⟩
      rcases h with rfl | ⟨x, hx, h0⟩
      · simp
      · have e0 : 0 < e := by
          rcases Nat.eq_zero_or_pos e with q | q
          · subst q; simp at h2 hz hx; exact absurd (hz x (List.mem_of_getElem? hx)) h0
          · exact q
        rw [List.getLast?_eq_getElem?, List.length_take, Nat.min_eq_left he, List.getElem?_take, if_pos (by (first | fail "m r" | (clear hB hl he h0; omega))), hx]
        simpa using h0
    rw [row, ← val_zeros l e hz, hc.dg hB]
  fail "m"
  refine ⟨fun hc => ⟨fun q => (by cases q), fun _ => ?_⟩, fun hc => ?_⟩
  · have hc : e = 0 := by have := of_decide_eq_false hc; fail "m o"
    fail "m"
    refine W2.sliceL (by decide) (by rw [nats_len]; exact hl) ?_
    rw [pick_over, show (nats l).take e = nats (l.take e) from (List.map_take ..).symm]
    fail "m"
    exact .inl (fin (.inl hc)).symm
  · have hc : 0 < e := by have := of_decide_eq_true hc; fail "m o"
    obtain ⟨u, hu⟩ : ∃ u, l[e - 1]? = some u := ⟨_, List.getElem?_eq_getElem (by (first | fail "m r" | (clear hB hl fin; omega)))⟩
    fail "m"
    rw [show (e : Int) - 1 = ((e - 1 : Nat) : Int) by (first | fail "m r" | (clear hB hl he fin; omega))]
    refine itemN_ (by (first | fail "m r" | (clear hB fin; omega))) hu ?_
    fail "m"
    refine ⟨fun hc2 => ⟨fun q => (by cases q), fun _ => ?_⟩, fun hc2 => ?_⟩
    · have hc2 : u ≠ 0 := by have := of_decide_eq_false hc2; fail "m o"
      fail "m"
      refine W2.sliceL (by decide) (by rw [nats_len]; exact hl) ?_
      rw [pick_over, show (nats l).take e = nats (l.take e) from (List.map_take ..).symm]
      fail "m"
      exact .inl (fin (.inr ⟨u, hu, hc2⟩)).symm
    · have hc2 : u = 0 := by have := of_decide_eq_true hc2; fail "m o"
      subst hc2
      fail "m"
      refine ⟨e - 1, by (first | fail "m r" | (clear hB hl he fin; omega)), rfl, h1, ?_, by (first | fail "m r" | (clear hB hl fin; omega)), ?_⟩
      · show _ = _
        rw [show ((e - 1 : Nat) : Int) = (e : Int) - 1 by (first | fail "m r" | (clear hB hl he fin; omega))]; rfl
      · rw [List.drop_eq_getElem_cons (show e - 1 < l.length by (first | fail "m r" | (clear hB hl fin; omega))), show e - 1 + 1 = e by (first | fail "m r" | (clear hB hl he fin; omega))]
        intro x hx
        rcases List.mem_cons.mp hx with rfl | hx
        · rw [List.getElem?_eq_getElem (by (first | fail "m r" | (clear hB hl fin; omega)))] at hu; exact Option.some.inj hu
        · exact hz x hx

include hk in
theorem c_nat_of (v : Nat) (hv : v ≤ sizeLine) : Fn0 (model prog w) b 1 (.ref 53) [.int (v : Nat), .int (k : Nat)] (row (2 ^ k) v) := by
  have hB : 2 ≤ 2 ^ k := pow_ge hk.1
  refine Fn0.intro B (names := ["number", "w"]) ⟨by with_unfolding_all rfl, ?fnb, by with_unfolding_all rfl, by with_unfolding_all rfl, by decide, by with_unfolding_all rfl, by with_unfolding_all rfl, by with_unfolding_all rfl⟩ rfl (by fail "m o") (fun A L Kf hKf ok => ?_)
  case fnb => exact len2 (P := fun vs => bindArgs _ ⟨vs, []⟩ = pure (List.zip _ vs)) (fun x0 x1 => by with_unfolding_all rfl)
  dsimp only [List.zip, List.zipWith]
  fail "m"
  refine ⟨fun hc => (by have := of_decide_eq_true hc; (first | fail "m r" | (clear hk hv hB; omega))), fun hc => ?_⟩
  fail "m"
  fail "m t"
  refine WE.tup (WArgs.cons (listP_ (WArgs.nil ⟨rfl, by decide, fun a => ?_⟩)) (by with_unfolding_all rfl))
  fail "m"
  refine shl1_ (by fail "m o") ?_
  fail "m"
  refine ⟨_, rfl, rfl, ?_⟩
  fail "m"
  refine whileI_ (fun m Γ σ => ∃ done, σ = [(a, nats done)] ∧ Has Γ "found" (.raw (.ref a)) ∧ Has Γ "number" (.int (m : Int)) ∧ Has Γ "w" (.int (k : Int)) ∧ Has Γ "mask" (.int (((2 ^ k : Nat) : Int) - 1)) ∧ done ++ dg (2 ^ k) m = dg (2 ^ k) v) ⟨v, [], rfl, rfl, rfl, rfl, rfl, rfl⟩ ?_
  refine fun m J hJ Γ => st1 (fun done => an5 fun hf hv' hw' hm' hd => ?_)
  fail "m"
  refine ⟨fun hc => ?_, fun hc => ?_⟩
  · have hc : 0 < m := by have := of_decide_eq_true hc; fail "m o"
    fail "m"
    rw [and_mask]
    have hl : done.length ≤ v := by
      have := congrArg List.length hd
      have h2 := dg_len hB v
      rw [List.length_append] at this; (first | fail "m r" | (clear hk hv hB hc; omega))
    refine ⟨_, rfl, by rw [nats_len]; (first | fail "m r" | (clear hk hB hc; omega)), ?_⟩
    fail "m"
    refine ishrN_ ?_
    fail "m"
    refine ⟨m / 2 ^ k, Nat.div_lt_self hc hB, done ++ [m % 2 ^ k], by simp [nats], hf, rfl, hw', hm', ?_⟩
    rw [← hd, dg_pos hB hc, List.append_assoc]; rfl
  · have hc : m = 0 := by have := of_decide_eq_false hc; fail "m o"
    subst hc
    fail "m"
    refine .inr ⟨a, nats done, rfl, by simp, ?_⟩
    rw [dg_zero, List.append_nil] at hd
    rw [row, ← hd]

include hk in
theorem c_is_even (x : Nat) (hx : x ≤ sizeLine) : Fn0 (model prog w) b 1 (.ref 60) [row (2 ^ k) x] (.bool (x % 2 == 0)) := by
  have hB : 2 ≤ 2 ^ k := pow_ge hk.1
  have lx := Nat.le_trans (dg_len hB x) hx
  refine Fn0.intro B (names := ["a"]) ⟨by with_unfolding_all rfl, ?fnb, by with_unfolding_all rfl, by with_unfolding_all rfl, by decide, by with_unfolding_all rfl, by with_unfolding_all rfl, by with_unfolding_all rfl⟩ rfl (by fail "m o") (fun A L Kf hKf ok => ?_)
  case fnb => exact len1 (P := fun vs => bindArgs _ ⟨vs, []⟩ = pure (List.zip _ vs)) (fun x0 => by with_unfolding_all rfl)
  dsimp only [List.zip, List.zipWith]
  fail "m"
  refine lenN_ lx ?_
  fail "m"
  refine ⟨fun hc => ?_, fun hc => ?_⟩
  · have hc : (dg (2 ^ k) x).length = 0 := by have := of_decide_eq_true hc; fail "m o"
    have : x = 0 := (dg_nil hB).mp (List.length_eq_zero_iff.mp hc)
    subst this
    fail "m"
    exact Ends0.ret
  · have hc : (dg (2 ^ k) x).length ≠ 0 := by have := of_decide_eq_false hc; fail "m o"
    have h0 : 0 < x := by
      rcases Nat.eq_zero_or_pos x with q | q
      · subst q; exact absurd rfl hc
      · exact q
    have hu : (dg (2 ^ k) x)[0]? = some (x % 2 ^ k) := by rw [dg_pos hB h0]; rfl
    fail "m"
    refine itemN_ (i := 0) (by fail "m o") hu ?_
    fail "m"
    rw [show (1 : Int) = ((2 ^ 1 : Nat) : Int) - 1 by decide, and_mask]
    have e : x % 2 ^ k % 2 ^ 1 = x % 2 := by
      obtain ⟨j, rfl⟩ : ∃ j, k = j + 1 := ⟨k - 1, by (first | fail "m r" | (clear hx hB lx hc h0; omega))⟩
      rw [Nat.pow_one, Nat.pow_succ, Nat.mul_comm]
      exact Nat.mod_mul_right_mod ..
    rw [e]
    fail "m"; refine .inl ?_
    congr 1
    rw [Bool.eq_iff_iff, decide_eq_true_iff, beq_iff_eq]
    (first | fail "m r" | (clear hk hx hB lx hc h0; omega))
end
theorem val_snoc {B : Nat} (l : List Nat) (x : Nat) : val B (l ++ [x]) = val B l + B ^ l.length * x := by
  rw [val_append]; simp [val]
theorem lt_snoc {B : Nat} {l : List Nat} {x : Nat} (h : ∀ y ∈ l, y < B) (hx : x < B) : ∀ y ∈ l ++ [x], y < B := fun y hy => by
  rcases List.mem_append.mp hy with q | q
  · exact h y q
  · rw [List.mem_singleton.mp q]; exact hx
theorem getD_of {l : List Nat} {i u : Nat} (h : l[i]? = some u) : l.getD i 0 = u := by simp [List.getD, h]
theorem getD_none {l : List Nat} {i : Nat} (h : l.length ≤ i) : l.getD i 0 = 0 := by simp [List.getD, List.getElem?_eq_none h]
theorem get_lt {B : Nat} {l : List Nat} (h : ∀ x ∈ l, x < B) {i u : Nat} (hu : l[i]? = some u) : u < B := h u (List.mem_of_getElem? hu)
theorem add_step {B P d c s u : Nat} (h : d + P * c = s) : d + P * ((c + u) % B) + P * B * ((c + u) / B) = s + P * u := by
  have := Nat.mod_add_div (c + u) B
  have e : P * ((c + u) % B) + P * B * ((c + u) / B) = P * (c + u) := by rw [Nat.mul_assoc, ← Nat.mul_add, this]
  rw [Nat.add_assoc, e, Nat.mul_add, ← h]; (first | fail "m r" | (clear h this e; omega))
section
variable {prog : Program} {w : World} {b : Heap} {C : Cx} {Γ : Vars} {σ : Store} {Q : D → Store → Prop}
variable {k : Nat} (B : Base (hd.heap_39 w.params) b) (hk : 1 ≤ k ∧ k ≤ 9)
include B hk

theorem c_add (x y : Nat) (hx : x ≤ 2 ^ 20) (hy : y ≤ 2 ^ 20) (hxy : (dg (2 ^ k) y).length ≤ (dg (2 ^ k) x).length) : Fn0 (model prog w) b 1 (.ref 74) [row (2 ^ k) x, row (2 ^ k) y, .int (k : Nat)] (row (2 ^ k) (x + y)) := by
  have hB : 2 ≤ 2 ^ k := pow_ge hk.1
  have hB2 : 2 ^ k ≤ 2 ^ 9 := Nat.pow_le_pow_right (by decide) hk.2
  have lx := Nat.le_trans (dg_len hB x) hx
  have ly := Nat.le_trans (dg_len hB y) hy
  have cx := can_dg hB x
  have cy := can_dg hB y
  have ex := val_dg hB x
  have ey := val_dg hB y
  generalize hl : dg (2 ^ k) x = l at *
  generalize hm : dg (2 ^ k) y = m at *
  have hz := sz
  have ends : ∀ done c, val (2 ^ k) done + (2 ^ k) ^ l.length * c = x + y → done.length = l.length → (∀ z ∈ done, z < 2 ^ k) → c < 2 ^ k → row (2 ^ k) (x + y) = .list (nats (if 0 < c then done ++ [c] else done)) := by
    intro done c h1 h2 h3 h4
    have key : ∀ r, val (2 ^ k) r = x + y → Can (2 ^ k) r → row (2 ^ k) (x + y) = .list (nats r) := fun r e h => by
      rw [row, ← e, h.dg hB]
    split
    · rename_i hc
      refine key _ (by rw [val_snoc, h2]; exact h1) ⟨lt_snoc h3 h4, ?_⟩
      rw [List.getLast?_append]; simp; fail "m o"
    · have hc : c = 0 := by fail "m o"
      subst hc
      refine key _ (by simpa using h1) (can_of_ge hB h3 fun hne => ?_)
      rw [h2]
      have hln : l ≠ [] := by
        rintro rfl
        have : done = [] := List.length_eq_zero_iff.mp h2
        exact hne this
      have := can_ge hB l cx hln
      simp at h1
      (first | fail "m r" | (clear hk hx hB hB2 lx ly hxy hz h2 h4; omega))
  refine Fn0.intro B (names := ["a", "b", "w"]) ⟨by with_unfolding_all rfl, ?fnb, by with_unfolding_all rfl, by with_unfolding_all rfl, by decide, by with_unfolding_all rfl, by with_unfolding_all rfl, by with_unfolding_all rfl⟩ rfl (by fail "m o") (fun A L Kf hKf ok => ?_)
  case fnb => exact len3 (P := fun vs => bindArgs _ ⟨vs, []⟩ = pure (List.zip _ vs)) (fun x0 x1 x2 => by with_unfolding_all rfl)
  dsimp only [List.zip, List.zipWith]
  rw [row, row, hl, hm]
  fail "m"
  refine lenN_ (by fail "m o") ?_
  fail "m"
  refine lenN_ (by (first | fail "m r" | (clear hk hx hy hB hB2 lx ex ey hxy hz; show _ ≤ 16777216; omega))) ?_
  fail "m"
  refine ⟨fun hc => (by have := of_decide_eq_true hc; (first | fail "m r" | (clear hk hx hy hB hB2 lx ex ly ey hz; omega))), fun hc => ?_⟩
  fail "m"
  fail "m t"
  refine WE.tup (WArgs.cons (listP_ (WArgs.nil ⟨rfl, by decide, fun a => ?_⟩)) (by with_unfolding_all rfl))
  fail "m"
  refine shl1_ (by fail "m o") ?_
  fail "m"
  refine ⟨_, rfl, rfl, ?_⟩
  fail "m"
  refine forI_ (fun xs Γ σ => ∃ i j c done, σ = [(a, nats done)] ∧ xs = ups i j ∧ i + j = m.length ∧ Has Γ "found" (.raw (.ref a)) ∧ Has Γ "a" (.list (nats l)) ∧ Has Γ "b" (.list (nats m)) ∧ Has Γ "w" (.int (k : Int)) ∧ Has Γ "mask" (.int (((2 ^ k : Nat) : Int) - 1)) ∧ Has Γ "carry" (.int (c : Nat)) ∧
    done.length = i ∧ (∀ z ∈ done, z < 2 ^ k) ∧ c ≤ 1 ∧ val (2 ^ k) done + (2 ^ k) ^ i * c = val (2 ^ k) (l.take i) + val (2 ^ k) (m.take i)) ok ?_ ?_ ?_
  · fail "m"
    refine lenN_ (by (first | fail "m r" | (clear hk hx hy hB hB2 lx ex ey hxy hz; show _ ≤ 16777216; omega))) ?_
    fail "m"
    have := items_ups 0 m.length (by (first | fail "m r" | (clear hk hx hy hB hB2 lx ex ey hxy hz; omega)))
    rw [Nat.zero_add] at this
    exact ⟨_, this, 0, m.length, 0, [], rfl, rfl, by fail "m o", rfl, rfl, rfl, rfl, rfl, rfl, rfl, by simp, by (first | fail "m r" | (clear hk hx hy hB hB2 lx ex ly ey hxy hz; omega)), by simp [val]⟩
  · refine fun e xs J hJ Γ => st4 (fun i j c done => an12 fun he hij h1 h2 h3 h4 h5 h6 h7 h8 h9 h10 => ?_)
    cases j with
    | zero => cases he
    | succ j =>
      cases he
      obtain ⟨u, hu⟩ : ∃ u, l[i]? = some u := ⟨_, List.getElem?_eq_getElem (by (first | fail "m r" | (clear hk hx hy hB hB2 lx ex ly ey hz h7 h9 h10; omega)))⟩
      obtain ⟨v, hv⟩ : ∃ v, m[i]? = some v := ⟨_, List.getElem?_eq_getElem (by fail "m o")⟩
      have bu := get_lt cx.1 hu
      have bv := get_lt cy.1 hv
      refine WA.name ok ?_
      fail "m"
      refine itemN_ (by (first | fail "m r" | (clear hk hx hy hB hB2 lx ex ey hxy h7 h9 h10 bu bv hz; show _ ≤ 16777216; omega))) hu ?_
      fail "m"
      refine itemN_ (by (first | fail "m r" | (clear hk hx hy hB hB2 lx ex ey hxy h7 h9 h10 bu bv hz; show _ ≤ 16777216; omega))) hv ?_
      fail "m"
      rw [show (c : Int) + ((u : Int) + (v : Int)) = ((c + (u + v) : Nat) : Int) by (first | fail "m r" | (clear hk hx hy hB hB2 lx ex ly ey hxy hz h7 h9 h10 hij bu bv; omega)), and_mask]
      refine ⟨_, rfl, by rw [nats_len]; (first | fail "m r" | (clear hk hx hy hB hB2 lx ex ey hxy h9 h10 bu bv hz; show _ ≤ 16777216; omega)), ?_⟩
      fail "m"
      refine ishrN_ ?_
      fail "m"
      have hs := add_step (u := u + v) (B := 2 ^ k) h10
      have hc1 : (c + (u + v)) / 2 ^ k ≤ 1 := by
        have : (c + (u + v)) / 2 ^ k < 2 := by rw [Nat.div_lt_iff_lt_mul (by fail "m o")]; (first | fail "m r" | (clear hk hx hy hB hB2 lx ex ly ey hxy hz h7 h10 hij hs; omega))
        fail "m o"
      refine ⟨i + 1, j, (c + (u + v)) / 2 ^ k, done ++ [(c + (u + v)) % 2 ^ k], by simp [nats], rfl, by fail "m o", h1, h2, h3, h4, h5, rfl, by simp [h7], lt_snoc h8 (Nat.mod_lt _ (by fail "m o")), hc1, ?_⟩
      rw [val_snoc, h7, val_take_succ, val_take_succ, getD_of hu, getD_of hv, Nat.pow_succ, hs, Nat.mul_add]
      (first | fail "m r" | (clear hk hx hy hB hB2 lx ex ly ey hxy hz h7 h9 h10 hij bu bv hs hc1; omega))
  · refine fun Γ => st4 (fun i j c done => an12 fun he hij h1 h2 h3 h4 h5 h6 h7 h8 h9 h10 => ?_)
    cases j with
    | succ j => cases he
    | zero =>
      have hij : i = m.length := by (first | fail "m r" | (clear hk hx hy hB hB2 lx ex ly ey hxy hz h7 h9 h10; omega))
      subst hij
      fail "m"
      refine forI_ (fun xs Γ σ => ∃ i j c done, σ = [(a, nats done)] ∧ xs = ups i j ∧ i + j = l.length ∧ m.length ≤ i ∧ Has Γ "found" (.raw (.ref a)) ∧ Has Γ "a" (.list (nats l)) ∧ Has Γ "w" (.int (k : Int)) ∧ Has Γ "mask" (.int (((2 ^ k : Nat) : Int) - 1)) ∧ Has Γ "carry" (.int (c : Nat)) ∧
        done.length = i ∧ (∀ z ∈ done, z < 2 ^ k) ∧ c ≤ 1 ∧ val (2 ^ k) done + (2 ^ k) ^ i * c = val (2 ^ k) (l.take i) + y) ok ?_ ?_ ?_
      · fail "m"
        refine lenN_ (by (first | fail "m r" | (clear hk hx hy hB hB2 lx ex ey hxy h9 h10 hij hz; show _ ≤ 16777216; omega))) ?_
        fail "m"
        refine lenN_ (by fail "m o") ?_
        fail "m"
        have := items_ups m.length (l.length - m.length) (by (first | fail "m r" | (clear hk hx hy hB hB2 ex ly ey hz h9 h10 hij; omega)))
        rw [show m.length + (l.length - m.length) = l.length by (first | fail "m r" | (clear hk hx hy hB hB2 lx ex ly ey hz h9 h10 hij; omega))] at this
        refine ⟨_, this, m.length, l.length - m.length, c, done, rfl, rfl, by (first | fail "m r" | (clear hk hx hy hB hB2 lx ex ly ey hz h9 h10 hij; omega)), Nat.le_refl _, h1, h2, h4, h5, h6, h7, h8, h9, ?_⟩
        rw [h10, List.take_length, ey]
      · refine fun e xs J hJ Γ => st4 (fun i j c done => an12 fun he hij hmi h1 h2 h4 h5 h6 h7 h8 h9 h10 => ?_)
        cases j with
        | zero => cases he
        | succ j =>
          cases he
          obtain ⟨u, hu⟩ : ∃ u, l[i]? = some u := ⟨_, List.getElem?_eq_getElem (by fail "m o")⟩
          have bu := get_lt cx.1 hu
          refine WA.name ok ?_
          fail "m"
          refine itemN_ (by fail "m o") hu ?_
          fail "m"
          rw [show (c : Int) + (u : Int) = ((c + u : Nat) : Int) by (first | fail "m r" | (clear hk hx hy hB hB2 lx ex ly ey hxy hz hmi h7 h9 h10 hij bu; omega)), and_mask]
          refine ⟨_, rfl, by rw [nats_len]; (first | fail "m r" | (clear hk hx hy hB hB2 ex ly ey hxy hmi h9 h10 bu hz; show _ ≤ 16777216; omega)), ?_⟩
          fail "m"
          refine ishrN_ ?_
          fail "m"
          have hs := add_step (u := u) (B := 2 ^ k) h10
          have hc1 : (c + u) / 2 ^ k ≤ 1 := by
            have : (c + u) / 2 ^ k < 2 := by rw [Nat.div_lt_iff_lt_mul (by fail "m o")]; (first | fail "m r" | (clear hk hx hy hB hB2 lx ex ly ey hxy hz hmi h7 h10 hij hs; omega))
            fail "m o"
          refine ⟨i + 1, j, (c + u) / 2 ^ k, done ++ [(c + u) % 2 ^ k], by simp [nats], rfl, by fail "m o", by (first | fail "m r" | (clear hk hx hy hB hB2 lx ex ly ey hxy hz h9 h10 hij bu hs hc1; omega)), h1, h2, h4, h5, rfl, by simp [h7], lt_snoc h8 (Nat.mod_lt _ (by fail "m o")), hc1, ?_⟩
          rw [val_snoc, h7, val_take_succ, getD_of hu, Nat.pow_succ, hs]
          (first | fail "m r" | (clear hk hx hy hB hB2 lx ex ly ey hxy hz hmi h7 h9 h10 hij bu hs hc1; omega))
      · refine fun Γ => st4 (fun i j c done => an12 fun he hij hmi h1 h2 h4 h5 h6 h7 h8 h9 h10 => ?_)
        cases j with
        | succ j => cases he
        | zero =>
          have hij : i = l.length := by (first | fail "m r" | (clear hk hx hy hB hB2 lx ex ly ey hxy hz hmi h7 h9 h10; omega))
          subst hij
          rw [List.take_length, ex] at h10
          have e := ends done c h10 h7 h8 (by (first | fail "m r" | (clear hk hx hy lx ex ly ey hxy hz hmi h7 h10 hij; omega)))
          fail "m"
          refine ⟨fun hc => ?_, fun hc => ?_⟩
          · have hc : 0 < c := by have := of_decide_eq_true hc; fail "m o"
            fail "m"
            refine ⟨_, rfl, by rw [nats_len]; (first | fail "m r" | (clear hk hx hy hB hB2 ex ly ey hxy h9 hmi h10 hij hc hz; show _ ≤ 16777216; omega)), ?_⟩
            fail "m"
            refine .inr ⟨a, nats (done ++ [c]), rfl, by simp [nats], ?_⟩
            rw [e, if_pos hc]
          · have hc : ¬ 0 < c := by have := of_decide_eq_false hc; (first | fail "m r" | (clear hk hx hy hB hB2 lx ex ly ey hxy hz hmi h7 h10 hij; omega))
            fail "m"
            refine .inr ⟨a, nats done, rfl, by simp, ?_⟩
            rw [e, if_neg hc]
end
theorem pds_nats : ∀ l : List Nat, pds (nats l) = some (l.map fun (n : Nat) => PyData.int (n : Int))
  | [] => rfl
  | x :: l => by
    have := pds_nats l
    show pds (D.int (x : Int) :: nats l) = _
    show (match some (PyData.int (x : Int)), pds (nats l) with | some a, some b => some (a :: b) | _, _ => none) = _
    rw [this]; rfl
theorem pd_nats (l : List Nat) : (D.list (nats l)).pd = some (.list (l.map fun (n : Nat) => PyData.int (n : Int))) := by
  exact congrArg (Option.map PyData.list) (pds_nats l)
theorem eqv_nats : ∀ l m : List Nat, PyData.eqvAll (l.map fun (n : Nat) => PyData.int (n : Int)) (m.map fun (n : Nat) => PyData.int (n : Int)) = decide (l = m)
  | [], [] => rfl
  | [], _ :: _ => rfl
  | _ :: _, [] => rfl
  | x :: l, y :: m => by
    simp only [List.map_cons, PyData.eqvAll, PyData.eqv, eqv_nats l m]
    rw [Bool.eq_iff_iff, Bool.and_eq_true, decide_eq_true_iff, decide_eq_true_iff, beq_iff_eq, List.cons.injEq, Int.natCast_inj]
theorem can_nats : ∀ l : List Nat, PyData.canLayAll0 (l.map fun (n : Nat) => PyData.int (n : Int)) = true
  | [] => by simp [PyData.canLayAll0]
  | x :: l => by simp [PyData.canLayAll0, PyData.canLay0, can_nats l]
theorem depth_nats : ∀ l : List Nat, PyData.depthAll (l.map fun (n : Nat) => PyData.int (n : Int)) = 0
  | [] => by simp [PyData.depthAll]
  | x :: l => by simp [PyData.depthAll, PyData.depth, depth_nats l]
theorem shaped_nats (l : List Nat) : SeqAt.shaped (.list (l.map fun (n : Nat) => PyData.int (n : Int))) = true := by
  unfold SeqAt.shaped
  simp [PyData.canLay0, can_nats, PyData.depth, depth_nats]
theorem dg_one {B : Nat} (hB : 2 ≤ B) : dg B 1 = [1] := by
  rw [dg_pos hB (by decide), Nat.mod_eq_of_lt (by fail "m o"), Nat.div_eq_of_lt (by fail "m o"), dg_zero]
theorem row_one {B : Nat} (hB : 2 ≤ B) : row B 1 = .list [.int 1] := by rw [row, dg_one hB]; rfl
theorem dg_inj {B : Nat} (hB : 2 ≤ B) {x y : Nat} : dg B x = dg B y ↔ x = y := ⟨fun h => by rw [← val_dg hB x, h, val_dg hB], fun h => by rw [h]⟩
theorem bitOr_pp (x y : Nat) : Builtin.bitOr (x : Int) (y : Int) = ((x ||| y : Nat) : Int) := by
  rw [bitOr_and, bitAnd_pp (by fail "m o") (by fail "m o"), Int.toNat_natCast, Int.toNat_natCast]
  have := nat_or_add_and x y
  fail "m o"
theorem or_disj {f k u v : Nat} (hf : f ≤ k) (hu : u < 2 ^ k) : (u / 2 ^ f ||| v * 2 ^ (k - f)) = u / 2 ^ f + v * 2 ^ (k - f) := by
  have h : u / 2 ^ f < 2 ^ (k - f) := by
    rw [Nat.div_lt_iff_lt_mul (Nat.pow_pos (by decide)), ← Nat.pow_add, Nat.sub_add_cancel hf]; exact hu
  have := Nat.two_pow_add_eq_or_of_lt h v
  rw [Nat.or_comm, Nat.mul_comm, ← this, Nat.add_comm]

section
variable {prog : Program} {w : World} {b : Heap} {C : Cx} {Γ : Vars} {σ : Store} {Q : D → Store → Prop}
theorem eqN_ {l m : List Nat} (ok : C.Ok) (h : Q (.bool (decide (l = m))) σ) : W2 (model prog w) b C (compareOp .Eq) (.list (nats l)) (.list (nats m)) Γ σ Q := by
  refine W2.eqd ok (pd_nats l) (pd_nats m) (shaped_nats l) (shaped_nats m) ?_
  rw [PyData.eqv, eqv_nats]; exact h
theorem neN_ {l m : List Nat} (ok : C.Ok) (h : Q (.bool (decide (l ≠ m))) σ) : W2 (model prog w) b C (compareOp .NotEq) (.list (nats l)) (.list (nats m)) Γ σ Q := by
  refine W2.ned ok (pd_nats l) (pd_nats m) (shaped_nats l) (shaped_nats m) ?_
  rw [PyData.eqv, eqv_nats]
  have e : (!decide (l = m)) = decide (l ≠ m) := by simp
  rw [e]; exact h
theorem eqRow_ {B x y : Nat} (hB : 2 ≤ B) (ok : C.Ok) (h : Q (.bool (decide (x = y))) σ) : W2 (model prog w) b C (compareOp .Eq) (row B x) (row B y) Γ σ Q :=
  eqN_ ok (by simp only [dg_inj hB]; exact h)
theorem neRow_ {B x y : Nat} (hB : 2 ≤ B) (ok : C.Ok) (h : Q (.bool (decide (x ≠ y))) σ) : W2 (model prog w) b C (compareOp .NotEq) (row B x) (row B y) Γ σ Q :=
  neN_ ok (by simp only [ne_eq, dg_inj hB]; exact h)
theorem shrN_ {x k : Nat} (h : Q (.int ((x / 2 ^ k : Nat) : Int)) σ) : W2 (model prog w) b C (binaryOp .RShift) (.int (x : Int)) (.int (k : Int)) Γ σ Q :=
  W2.shr (by fail "m o") (by rw [two_pow_nat, nat_fdiv]; exact h)
theorem shlN_ {x k : Nat} (hx : x ≤ sizeLine) (hk : k ≤ 1000) (h : Q (.int ((x * 2 ^ k : Nat) : Int)) σ) : W2 (model prog w) b C (binaryOp .LShift) (.int (x : Int)) (.int (k : Int)) Γ σ Q := by
  refine W2.shl (by fail "m o") ?_ ?_
  · have := bits_small hx; (first | fail "m r" | (clear hx; omega))
  · rw [two_pow_nat, ← Int.natCast_mul]; exact h

variable {k : Nat} (B : Base (hd.heap_39 w.params) b) (hk : 1 ≤ k ∧ k ≤ 9)
include B hk
theorem c_sub (x y : Nat) (hx : x ≤ 2 ^ 20) (hyx : y ≤ x) : Fn0 (model prog w) b 2 (.ref 81) [row (2 ^ k) x, row (2 ^ k) y, .int (k : Nat)] (row (2 ^ k) (x - y)) := by
  have hB : 2 ≤ 2 ^ k := pow_ge hk.1
  have hB2 : 2 ^ k ≤ 2 ^ 9 := Nat.pow_le_pow_right (by decide) hk.2
  have hz := sz
  have cmp := c_compare (prog := prog) (w := w) B hB x y (by fail "m o") (by (first | fail "m r" | (clear hk hB hB2 hz; show _ ≤ 16777216; omega)))
  have lx := Nat.le_trans (dg_len hB x) hx
  have ly := Nat.le_trans (dg_len hB y) (Nat.le_trans hyx hx)
  have cx := can_dg hB x
  have cy := can_dg hB y
  have ex := val_dg hB x
  have ey := val_dg hB y
  have hlm : (dg (2 ^ k) y).length ≤ (dg (2 ^ k) x).length := by
    rcases Nat.lt_or_ge (dg (2 ^ k) x).length (dg (2 ^ k) y).length with q | q
    · have := len_lt_val hB cx cy q; (first | fail "m r" | (clear hk hx hB hB2 hz lx ly q; omega))
    · exact q
  generalize hl : dg (2 ^ k) x = l at *
  generalize hm : dg (2 ^ k) y = m at *
  refine Fn0.intro B (names := ["a", "b", "w"]) ⟨by with_unfolding_all rfl, ?fnb, by with_unfolding_all rfl, by with_unfolding_all rfl, by decide, by with_unfolding_all rfl, by with_unfolding_all rfl, by with_unfolding_all rfl⟩ rfl (by fail "m o") (fun A L Kf hKf ok => ?_)
  case fnb => exact len3 (P := fun vs => bindArgs _ ⟨vs, []⟩ = pure (List.zip _ vs)) (fun x0 x1 x2 => by with_unfolding_all rfl)
  dsimp only [List.zip, List.zipWith]
  rw [row, row, hl, hm] at cmp
  rw [row, row, hl, hm]
  fail "m"
  refine WV.fn0 ok cmp (by fail "m n") ?_
  fail "m"
  refine ⟨fun hc => ?_, fun hc => ?_⟩
  · have := of_decide_eq_true hc
    unfold cmpN at this
    split at this <;> first | (first | fail "m r" | (clear hk hx hB hB2 hz lx ly hlm; omega)) | (split at this <;> fail "m o")
  fail "m"
  fail "m t"
  refine WE.tup (WArgs.cons (listP_ (WArgs.nil ⟨rfl, by decide, fun a => ?_⟩)) (by with_unfolding_all rfl))
  fail "m"
  refine shl1_ (by fail "m o") ?_
  fail "m"
  refine ⟨_, rfl, rfl, ?_⟩
  fail "m"
  refine forI_ (fun xs Γ σ => ∃ i j c done, σ = [(a, nats done)] ∧ xs = ups i j ∧ i + j = l.length ∧ Has Γ "found" (.raw (.ref a)) ∧ Has Γ "a" (.list (nats l)) ∧ Has Γ "b" (.list (nats m)) ∧ Has Γ "w" (.int (k : Int)) ∧ Has Γ "base" (.int ((2 ^ k : Nat) : Int)) ∧ Has Γ "borrow" (.int (c : Nat)) ∧
    done.length = i ∧ (∀ z ∈ done, z < 2 ^ k) ∧ c ≤ 1 ∧ val (2 ^ k) done + val (2 ^ k) (m.take i) = val (2 ^ k) (l.take i) + (2 ^ k) ^ i * c) ok ?_ ?_ ?_
  · fail "m"
    refine lenN_ (by fail "m o") ?_
    fail "m"
    have := items_ups 0 l.length (by (first | fail "m r" | (clear hk hx hyx hB hB2 hz ex ly ey hlm; omega)))
    rw [Nat.zero_add] at this
    exact ⟨_, this, 0, l.length, 0, [], rfl, rfl, by fail "m o", rfl, rfl, rfl, rfl, rfl, rfl, rfl, by simp, by (first | fail "m r" | (clear hk hx hyx hB hB2 hz lx ex ly ey hlm; omega)), by simp [val]⟩
  · refine fun e xs J hJ Γ => st4 (fun i j c done => an12 fun he hij h1 h2 h3 h4 h5 h6 h7 h8 h9 h10 => ?_)
    cases j with
    | zero => cases he
    | succ j =>
      cases he
      obtain ⟨u, hu⟩ : ∃ u, l[i]? = some u := ⟨_, List.getElem?_eq_getElem (by fail "m o")⟩
      have bu := get_lt cx.1 hu
      have bv : m.getD i 0 < 2 ^ k := by
        rcases Nat.lt_or_ge i m.length with q | q
        · have e : m[i]? = some m[i] := List.getElem?_eq_getElem q
          rw [getD_of e]; exact get_lt cy.1 e
        · rw [getD_none q]; fail "m o"
      generalize hv : m.getD i 0 = v at bv
      refine WA.name ok ?_
      fail "m"
      refine itemN_ (by fail "m o") hu ?_
      fail "m i"
      refine WE.mono (Q := fun d σ' => d = .int (v : Nat) ∧ σ' = [(a, nats done)]) ?_ ?_
      · fail "m"
        refine lenN_ (by (first | fail "m r" | (clear hk hx hyx hB hB2 lx ex ey hlm h7 h9 h10 hij bu hv bv hz; show _ ≤ 16777216; omega))) ?_
        fail "m"
        refine ⟨fun hc => ?_, fun hc => ?_⟩
        · have hc : i < m.length := by have := of_decide_eq_true hc; fail "m o"
          have e : m[i]? = some v := by rw [← hv, List.getElem?_eq_getElem hc, getD_of (List.getElem?_eq_getElem hc)]
          fail "m"
          exact itemN_ (by fail "m o") e ⟨rfl, rfl⟩
        · have hc : m.length ≤ i := by have := of_decide_eq_false hc; fail "m o"
          rw [getD_none hc] at hv
          subst hv
          fail "m"
          exact ⟨rfl, rfl⟩
      rintro _ _ ⟨rfl, rfl⟩
      have fin : ∀ d c', d < 2 ^ k → c' ≤ 1 → d + v + c = u + 2 ^ k * c' → val (2 ^ k) (done ++ [d]) + val (2 ^ k) (m.take (i + 1)) = val (2 ^ k) (l.take (i + 1)) + (2 ^ k) ^ (i + 1) * c' := fun d c' hd hc' e => by
        rw [val_snoc, h7, val_take_succ, val_take_succ, getD_of hu, hv, Nat.pow_succ, Nat.mul_assoc]
        have e := congrArg ((2 ^ k) ^ i * ·) e
        simp only [Nat.mul_add] at e
        (first | fail "m r" | (clear hk hx hyx hB hB2 hz lx ex ly ey hlm h7 h9 hij bu hv bv hd hc'; omega))
      fail "m"
      by_cases hneg : u < c + v
      · have e1 : ((u : Int) - (c : Int) - (v : Int)) < 0 := by (first | fail "m r" | (clear hk hx hyx hB hB2 hz lx ex ly ey hlm h7 h9 h10 hij bu hv bv; omega))
        refine ⟨fun _ => ?_, fun hc => absurd e1 (of_decide_eq_false hc)⟩
        fail "m"
        refine ⟨fun _ => ?_, fun hc => absurd e1 (of_decide_eq_false hc)⟩
        fail "m"
        rw [show (u : Int) - (c : Int) - (v : Int) + ((2 ^ k : Nat) : Int) = ((u + 2 ^ k - c - v : Nat) : Int) by (first | fail "m r" | (clear hk hx hyx hB hB2 hz lx ex ly ey hlm h7 h10 hij bu hv hneg e1; omega))]
        refine ⟨_, rfl, by rw [nats_len]; (first | fail "m r" | (clear hk hx hyx hB hB2 ex ly ey hlm h9 h10 bu hv bv hneg e1 hz; show _ ≤ 16777216; omega)), ?_⟩
        fail "m"
        exact ⟨i + 1, j, 1, done ++ [u + 2 ^ k - c - v], by simp [nats], rfl, by fail "m o", h1, h2, h3, h4, h5, rfl, by simp [h7], lt_snoc h8 (by (first | fail "m r" | (clear hk hx hyx hB hB2 hz lx ex ly ey hlm h7 h10 hij bu hv e1; omega))), by (first | fail "m r" | (clear hk hx hyx hB hB2 hz lx ex ly ey hlm h7 h9 h10 hij bu hv bv hneg e1; omega)), fin _ 1 (by (first | fail "m r" | (clear hk hx hyx hB hB2 hz lx ex ly ey hlm h7 h10 hij bu hv e1; omega))) (by (first | fail "m r" | (clear hk hx hyx hB hB2 hz lx ex ly ey hlm h7 h9 h10 hij bu hv bv hneg e1; omega))) (by (first | fail "m r" | (clear hk hx hyx hB hB2 hz lx ex ly ey hlm h7 h10 hij bu hv hneg e1; omega)))⟩
      · have e1 : ¬ ((u : Int) - (c : Int) - (v : Int)) < 0 := by (first | fail "m r" | (clear hk hx hyx hB hB2 hz lx ex ly ey hlm h7 h9 h10 hij bu hv bv; omega))
        refine ⟨fun hc => absurd (of_decide_eq_true hc) e1, fun _ => ?_⟩
        fail "m"
        refine ⟨fun hc => absurd (of_decide_eq_true hc) e1, fun _ => ?_⟩
        fail "m"
        rw [show (u : Int) - (c : Int) - (v : Int) = ((u - c - v : Nat) : Int) by (first | fail "m r" | (clear hk hx hyx hB hB2 hz lx ex ly ey hlm h7 h9 h10 hij bu hv bv e1; omega))]
        refine ⟨_, rfl, by rw [nats_len]; (first | fail "m r" | (clear hk hx hyx hB hB2 ex ly ey hlm h9 h10 bu hv bv hneg e1 hz; show _ ≤ 16777216; omega)), ?_⟩
        fail "m"
        exact ⟨i + 1, j, 0, done ++ [u - c - v], by simp [nats], rfl, by fail "m o", h1, h2, h3, h4, h5, rfl, by simp [h7], lt_snoc h8 (by (first | fail "m r" | (clear hk hx hyx hB hB2 hz lx ex ly ey hlm h7 h10 hij bv e1; omega))), by fail "m o", fin _ 0 (by (first | fail "m r" | (clear hk hx hyx hB hB2 hz lx ex ly ey hlm h7 h10 hij bv e1; omega))) (by fail "m o") (by (first | fail "m r" | (clear hk hx hyx hB hB2 hz lx ex ly ey hlm h7 h9 h10 hij bu hv bv e1; omega)))⟩
  · refine fun Γ => st4 (fun i j c done => an12 fun he hij h1 h2 h3 h4 h5 h6 h7 h8 h9 h10 => ?_)
    cases j with
    | succ j => cases he
    | zero =>
      have hij : i = l.length := by (first | fail "m r" | (clear hk hx hyx hB hB2 hz lx ex ly ey hlm h7 h9 h10; omega))
      subst hij
      rw [List.take_length, ex, List.take_of_length_le hlm, ey] at h10
      have hlt := val_lt (show 1 ≤ 2 ^ k by fail "m o") done h8
      rw [h7] at hlt
      have hv : val (2 ^ k) done = x - y := by
        rcases Nat.eq_zero_or_pos c with q | q
        · subst q; (first | fail "m r" | (clear hk hx hB hB2 hz lx ly hlm h7 hij hlt h9; omega))
        · have : c = 1 := by (first | fail "m r" | (clear hk hx hyx hB hB2 hz lx ex ly ey hlm h7 h10 hij hlt; omega))
          subst this; (first | fail "m r" | (clear hk hx hB hB2 hz lx ly hlm h7 hij h9 q; omega))
      refine WS.freeze (Γ' := [("found", .list (nats done))]) ?_ ⟨.inr ⟨rfl, h1⟩, trivial⟩
      fail "m"
      refine WV.fn0 ok (c_normal B hB done (by (first | fail "m r" | (clear hk hx hyx hB hB2 ex ly ey hlm h9 h10 hij hlt hv hz; show _ ≤ 16777216; omega))) h8) (by fail "m n") ?_
      rw [hv]
      fail "m"
      exact Ends0.ret
theorem c_sub1 (x : Nat) (hx : x ≤ 2 ^ 20) (h1 : 1 ≤ x) : Fn0 (model prog w) b 2 (.ref 81) [row (2 ^ k) x, .list [.int 1], .int (k : Nat)] (row (2 ^ k) (x - 1)) := by
  rw [← row_one (pow_ge hk.1)]; exact c_sub B hk x 1 hx h1
end
noncomputable def shrD (k f : Nat) : List Nat → List Nat
  | [] => []
  | u :: l => (u / 2 ^ f + l.headD 0 * 2 ^ (k - f)) % 2 ^ k :: shrD k f l
theorem shrD_lt {k f : Nat} : ∀ l : List Nat, ∀ x ∈ shrD k f l, x < 2 ^ k
  | [], x, h => by simp [shrD] at h
  | u :: l, x, h => by
    rcases List.mem_cons.mp h with rfl | h
    · exact Nat.mod_lt _ (Nat.pow_pos (by decide))
    · exact shrD_lt l x h
theorem shrD_len {k f : Nat} : ∀ l : List Nat, (shrD k f l).length = l.length
  | [] => rfl
  | u :: l => by rw [shrD, List.length_cons, List.length_cons, shrD_len l]
theorem head_mod {B c : Nat} (h : c ∣ B) : ∀ l : List Nat, val B l % c = l.headD 0 % c
  | [] => rfl
  | u :: l => by
    obtain ⟨e, rfl⟩ := h
    show (u + c * e * val (c * e) l) % c = u % c
    rw [Nat.mul_assoc, Nat.add_mul_mod_self_left]
theorem val_shrD {k f : Nat} (hf : f ≤ k) : ∀ l : List Nat, (∀ x ∈ l, x < 2 ^ k) → val (2 ^ k) (shrD k f l) = val (2 ^ k) l / 2 ^ f
  | [], _ => by simp [shrD, val]
  | u :: l, h => by
    have ih := val_shrD hf l fun x hx => h x (List.mem_cons_of_mem _ hx)
    have hu := h u (List.mem_cons_self ..)
    have hp : 0 < 2 ^ f := Nat.pow_pos (by decide)
    have hk : 2 ^ k = 2 ^ f * 2 ^ (k - f) := by rw [← Nat.pow_add, Nat.add_sub_cancel' hf]
    have h1 : u / 2 ^ f < 2 ^ (k - f) := by
      rw [Nat.div_lt_iff_lt_mul hp, Nat.mul_comm, ← hk]; exact hu
    have hm := head_mod (B := 2 ^ k) (c := 2 ^ f) ⟨_, hk⟩ l
    rw [shrD, val, val, ih]
    clear ih
    generalize val (2 ^ k) l = V at *
    have e1 : (u / 2 ^ f + l.headD 0 * 2 ^ (k - f)) % 2 ^ k = u / 2 ^ f + V % 2 ^ f * 2 ^ (k - f) := by
      have e2 : l.headD 0 * 2 ^ (k - f) = V % 2 ^ f * 2 ^ (k - f) + 2 ^ k * (l.headD 0 / 2 ^ f) := by
        rw [hm]
        have := Nat.mod_add_div (l.headD 0) (2 ^ f)
        have := congrArg (· * 2 ^ (k - f)) this
        simp only [Nat.add_mul] at this
        rw [← this, hk]
        congr 1
        rw [Nat.mul_right_comm]
      rw [e2, ← Nat.add_assoc, Nat.add_mul_mod_self_left, Nat.mod_eq_of_lt]
      have h2 : V % 2 ^ f + 1 ≤ 2 ^ f := Nat.mod_lt _ hp
      have := Nat.mul_le_mul_right (2 ^ (k - f)) h2
      rw [← hk, Nat.add_mul, Nat.one_mul] at this
      (first | fail "m r" | (clear hf hu hp hm e2 h2; omega))
    have e4 : (u + 2 ^ f * 2 ^ (k - f) * V) / 2 ^ f = u / 2 ^ f + 2 ^ (k - f) * V := by rw [Nat.mul_assoc, Nat.add_mul_div_left _ _ hp]
    rw [e1, hk, e4]
    have := Nat.mod_add_div V (2 ^ f)
    have := congrArg (2 ^ (k - f) * ·) this
    simp only [Nat.mul_add] at this
    have e3 : 2 ^ f * 2 ^ (k - f) * (V / 2 ^ f) = 2 ^ (k - f) * (2 ^ f * (V / 2 ^ f)) := by rw [Nat.mul_comm (2 ^ f), Nat.mul_assoc]
    rw [e3, Nat.mul_comm (V % 2 ^ f)]
    (first | fail "m r" | (clear hf hu hp hk h1 hm e1 e4 e3; omega))
theorem val_drop {B : Nat} (hB : 1 ≤ B) {l : List Nat} (h : ∀ x ∈ l, x < B) (i : Nat) : val B (l.drop i) = val B l / B ^ i := by
  rcases Nat.lt_or_ge l.length i with q | q
  · rw [List.drop_of_length_le (by fail "m o")]
    have h1 := val_lt hB l h
    have h2 : B ^ l.length ≤ B ^ i := Nat.pow_le_pow_right hB (by fail "m o")
    rw [Nat.div_eq_of_lt (by (first | fail "m r" | (clear hB q; omega)))]; rfl
  · have h1 := val_append (B := B) (l.take i) (l.drop i)
    rw [List.take_append_drop, List.length_take, Nat.min_eq_left q] at h1
    have h2 := val_lt hB (l.take i) fun x hx => h x (List.mem_of_mem_take hx)
    rw [List.length_take, Nat.min_eq_left q] at h2
    rw [h1, Nat.add_mul_div_left _ _ (Nat.pow_pos hB), Nat.div_eq_of_lt h2, Nat.zero_add]

noncomputable def tzD (u : Nat) : Nat := Builtin.Int.intBits (Builtin.bitAnd (u : Int) (-(u : Int))) - 1
theorem tzD_ok : ∀ u, u < 512 → 0 < u → u % 2 ^ (tzD u + 1) = 2 ^ tzD u ∧ 1 ≤ Builtin.Int.intBits (Builtin.bitAnd (u : Int) (-(u : Int))) := by
  have : ((List.range 512).all fun u => u == 0 || (u % 2 ^ (tzD u + 1) == 2 ^ tzD u && Nat.ble 1 (Builtin.Int.intBits (Builtin.bitAnd (u : Int) (-(u : Int)))))) = true := by decide +kernel
  intro u h h0
  have := List.all_eq_true.mp this u (List.mem_range.mpr h)
  simp only [Bool.or_eq_true, Bool.and_eq_true, beq_iff_eq] at this
  rcases this with q | ⟨q1, q2⟩
  · fail "m o"
  · exact ⟨q1, Nat.le_of_ble_eq_true q2⟩
theorem tz_uniq {x s t : Nat} (h1 : x % 2 ^ (s + 1) = 2 ^ s) (h2 : x % 2 ^ (t + 1) = 2 ^ t) : s = t := by
  have key : ∀ s t, s < t → x % 2 ^ (s + 1) = 2 ^ s → x % 2 ^ (t + 1) = 2 ^ t → False := by
    intro s t h h1 h2
    have hd : 2 ^ (s + 1) ∣ 2 ^ t := Nat.pow_dvd_pow _ (by (first | fail "m r" | (clear h1 h2; omega)))
    have hd2 : 2 ^ (s + 1) ∣ 2 ^ (t + 1) := Nat.pow_dvd_pow _ (by (first | fail "m r" | (clear h1 h2 hd; omega)))
    have : x % 2 ^ (t + 1) % 2 ^ (s + 1) = x % 2 ^ (s + 1) := Nat.mod_mod_of_dvd _ hd2
    rw [h2, h1, Nat.mod_eq_zero_of_dvd hd] at this
    have := Nat.pow_pos (n := s) (show 0 < 2 by decide)
    (first | fail "m r" | (clear h h2 hd hd2 this; omega))
  rcases Nat.lt_trichotomy s t with q | q | q
  · exact (key s t q h1 h2).elim
  · exact q
  · exact (key t s q h2 h1).elim

section
variable {prog : Program} {w : World} {b : Heap} {C : Cx} {Γ : Vars} {σ : Store} {Q : D → Store → Prop}
variable {k : Nat} (B : Base (hd.heap_39 w.params) b) (hk : 1 ≤ k ∧ k ≤ 9)
include B hk
theorem c_shift_right (x n : Nat) (hx : x ≤ 2 ^ 20) (hn : 2 ^ n ≤ x) : Fn0 (model prog w) b 2 (.ref 88) [row (2 ^ k) x, .int (n : Nat), .int (k : Nat)] (row (2 ^ k) (x / 2 ^ n)) := by
  have hB : 2 ≤ 2 ^ k := pow_ge hk.1
  have hB2 : 2 ^ k ≤ 2 ^ 9 := Nat.pow_le_pow_right (by decide) hk.2
  have hz := sz
  have lx := Nat.le_trans (dg_len hB x) hx
  have cx := can_dg hB x
  have ex := val_dg hB x
  have hsp : n / k ≤ (dg (2 ^ k) x).length := by
    have h1 := val_lt (show 1 ≤ 2 ^ k by fail "m o") _ cx.1
    rw [ex, ← Nat.pow_mul] at h1
    have h2 : n < k * (dg (2 ^ k) x).length := (Nat.pow_lt_pow_iff_right (show 1 < 2 by decide)).mp (Nat.lt_of_le_of_lt hn h1)
    exact Nat.le_of_lt ((Nat.div_lt_iff_lt_mul (by fail "m o")).mpr (by rw [Nat.mul_comm]; exact h2))
  have hf : n % k < k := Nat.mod_lt _ (by fail "m o")
  have hfin : val (2 ^ k) ((dg (2 ^ k) x).drop (n / k)) / 2 ^ (n % k) = x / 2 ^ n := by
    rw [val_drop (by fail "m o") cx.1, ex, Nat.div_div_eq_div_mul, ← Nat.pow_mul, ← Nat.pow_add, Nat.div_add_mod]
  generalize hl : dg (2 ^ k) x = l at *
  generalize hs : n / k = s at *
  generalize hff : n % k = f at *
  refine Fn0.intro B (names := ["a", "n", "w"]) ⟨by with_unfolding_all rfl, ?fnb, by with_unfolding_all rfl, by with_unfolding_all rfl, by decide, by with_unfolding_all rfl, by with_unfolding_all rfl, by with_unfolding_all rfl⟩ rfl (by fail "m o") (fun A L Kf hKf ok => ?_)
  case fnb => exact len3 (P := fun vs => bindArgs _ ⟨vs, []⟩ = pure (List.zip _ vs)) (fun x0 x1 x2 => by with_unfolding_all rfl)
  dsimp only [List.zip, List.zipWith]
  rw [row, hl]
  fail "m"
  fail "m t"
  fail "m"
  refine divN_ (by fail "m o") (by fail "m o") ?_
  fail "m"
  refine modN_ (by fail "m o") ?_
  rw [hs, hff]
  fail "m"
  refine ⟨_, rfl, rfl, ?_⟩
  fail "m"
  fail "m t"
  refine WE.tup (WArgs.cons (listP_ (WArgs.nil ⟨rfl, by decide, fun a => ?_⟩)) (by with_unfolding_all rfl))
  fail "m"
  refine shl1_ (by fail "m o") ?_
  fail "m"
  refine ⟨_, rfl, rfl, ?_⟩
  fail "m"
  refine forI_ (fun xs Γ σ => ∃ i j done, σ = [(a, nats done)] ∧ xs = ups i j ∧ i + j = l.length ∧ Has Γ "found" (.raw (.ref a)) ∧ Has Γ "a" (.list (nats l)) ∧ Has Γ "few" (.int (f : Nat)) ∧ Has Γ "w" (.int (k : Int)) ∧ Has Γ "mask" (.int (((2 ^ k : Nat) : Int) - 1)) ∧
    done ++ shrD k f (l.drop i) = shrD k f (l.drop s)) ok ?_ ?_ ?_
  · fail "m"
    refine lenN_ (by fail "m o") ?_
    fail "m"
    have := items_ups s (l.length - s) (by (first | fail "m r" | (clear hk hx hn hB hB2 hz ex hs hff hf hfin; omega)))
    rw [show s + (l.length - s) = l.length by (first | fail "m r" | (clear hk hx hn hB hB2 hz lx ex hs hff hf hfin; omega))] at this
    exact ⟨_, this, s, l.length - s, [], rfl, rfl, by (first | fail "m r" | (clear hk hx hn hB hB2 hz lx ex hs hff hf hfin; omega)), rfl, rfl, rfl, rfl, rfl, rfl⟩
  · refine fun e xs J hJ Γ => st3 (fun i j done => an8 fun he hij h1 h2 h3 h4 h5 h6 => ?_)
    cases j with
    | zero => cases he
    | succ j =>
      cases he
      obtain ⟨u, hu⟩ : ∃ u, l[i]? = some u := ⟨_, List.getElem?_eq_getElem (by fail "m o")⟩
      have bu := get_lt cx.1 hu
      have hd : l.drop i = u :: l.drop (i + 1) := by
        rw [List.drop_eq_getElem_cons (show i < l.length by fail "m o")]
        rw [List.getElem?_eq_getElem (by fail "m o")] at hu
        rw [Option.some.inj hu]
      have hlen := congrArg List.length h6
      rw [List.length_append, shrD_len, shrD_len, List.length_drop, List.length_drop] at hlen
      generalize hv : (l.drop (i + 1)).headD 0 = v
      have bv : v < 2 ^ k := by
        rw [← hv]
        cases h : l.drop (i + 1) with
        | nil => show 0 < _; fail "m o"
        | cons y r => exact cx.1 y (List.mem_of_mem_drop (by rw [h]; exact List.mem_cons_self ..))
      refine WA.name ok ?_
      refine WS.cons (WX.assign ok ?_ (by with_unfolding_all rfl) (by with_unfolding_all rfl))
      refine WE.mono (Q := fun d σ' => d = .int (v : Nat) ∧ σ' = [(a, nats done)]) ?_ ?_
      · fail "m"
        refine lenN_ (by fail "m o") ?_
        fail "m"
        rw [show (i : Int) + 1 = ((i + 1 : Nat) : Int) by fail "m o"]
        refine ⟨fun hc => ?_, fun hc => ?_⟩
        · have hc : i + 1 < l.length := by have := of_decide_eq_true hc; fail "m o"
          have e : l[i + 1]? = some v := by
            rw [← hv, List.headD_eq_head?_getD, List.head?_drop, List.getElem?_eq_getElem hc]; rfl
          fail "m"
          rw [show (i : Int) + 1 = ((i + 1 : Nat) : Int) by fail "m o"]
          exact itemN_ (by (first | fail "m r" | (clear hk hx hn hB hB2 ex hs hsp hff hf hfin bu hlen hv bv hz; show _ ≤ 16777216; omega))) e ⟨rfl, rfl⟩
        · have hc : l.length ≤ i + 1 := by have := of_decide_eq_false hc; fail "m o"
          rw [List.drop_of_length_le hc] at hv
          have hv : 0 = v := hv
          subst hv
          fail "m"
          exact ⟨rfl, rfl⟩
      rintro _ _ ⟨rfl, rfl⟩
      fail "m"
      refine itemN_ (by fail "m o") hu ?_
      fail "m"
      refine shrN_ ?_
      fail "m"
      rw [show (k : Int) - (f : Int) = ((k - f : Nat) : Int) by (first | fail "m r" | (clear hk hx hn hB hB2 hz lx ex hs hsp hff hfin hij bu hlen hv bv; omega))]
      refine shlN_ (by (first | fail "m r" | (clear hk hx hn lx ex hs hsp hff hf hfin hij bu hlen hv hz; show _ ≤ 16777216; omega))) (by (first | fail "m r" | (clear hx hn hB hB2 hz lx ex hs hsp hfin hij bu hlen hv bv; omega))) ?_
      fail "m"
      rw [bitOr_pp, or_disj (by fail "m o") bu, and_mask]
      refine ⟨_, rfl, by rw [nats_len]; (first | fail "m r" | (clear hk hx hn hB hB2 ex hs hff hf hfin bu hv bv hz; show _ ≤ 16777216; omega)), ?_⟩
      fail "m"
      refine ⟨i + 1, j, done ++ [(u / 2 ^ f + v * 2 ^ (k - f)) % 2 ^ k], by simp [nats], rfl, by fail "m o", h1, h2, h3, h4, h5, ?_⟩
      rw [← h6, hd, shrD, hv, List.append_assoc]; rfl
  · refine fun Γ => st3 (fun i j done => an8 fun he hij h1 h2 h3 h4 h5 h6 => ?_)
    cases j with
    | succ j => cases he
    | zero =>
      have hij : i = l.length := by (first | fail "m r" | (clear hk hx hn hB hB2 hz lx ex hs hsp hff hf hfin; omega))
      subst hij
      rw [List.drop_length, shrD, List.append_nil] at h6
      refine WS.freeze (Γ' := [("found", .list (nats done))]) ?_ ⟨.inr ⟨rfl, h1⟩, trivial⟩
      have hdl : done.length ≤ l.length := by rw [h6, shrD_len, List.length_drop]; (first | fail "m r" | (clear hk hx hn hB hB2 hz lx ex hs hff hf hfin hij; omega))
      fail "m"
      refine WV.fn0 ok (c_normal B hB done (by (first | fail "m r" | (clear hk hx hn hB hB2 ex hs hsp hff hf hfin hij hz; show _ ≤ 16777216; omega))) (by rw [h6]; exact shrD_lt _)) (by fail "m n") ?_
      rw [h6, val_shrD (by fail "m o") _ (fun x hx => cx.1 x (List.mem_of_mem_drop hx)), hfin]
      fail "m"
      exact Ends0.ret

theorem c_trailing (x t : Nat) (hx : x ≤ 2 ^ 20) (ht : x % 2 ^ (t + 1) = 2 ^ t) : Fn0 (model prog w) b 1 (.ref 95) [row (2 ^ k) x, .int (k : Nat)] (.int (t : Nat)) := by
  have hB : 2 ≤ 2 ^ k := pow_ge hk.1
  have hB2 : 2 ^ k ≤ 2 ^ 9 := Nat.pow_le_pow_right (by decide) hk.2
  have hz := sz
  have lx := Nat.le_trans (dg_len hB x) hx
  have cx := can_dg hB x
  have ex := val_dg hB x
  have x0 : 0 < x := by
    rcases Nat.eq_zero_or_pos x with q | q
    · subst q
      have := Nat.pow_pos (n := t) (show 0 < 2 by decide)
      simp at ht; (first | fail "m r" | (clear hk hB hB2 hz hx lx ex; omega))
    · exact q
  generalize hl : dg (2 ^ k) x = l at *
  refine Fn0.intro B (names := ["a", "w"]) ⟨by with_unfolding_all rfl, ?fnb, by with_unfolding_all rfl, by with_unfolding_all rfl, by decide, by with_unfolding_all rfl, by with_unfolding_all rfl, by with_unfolding_all rfl⟩ rfl (by fail "m o") (fun A L Kf hKf ok => ?_)
  case fnb => exact len2 (P := fun vs => bindArgs _ ⟨vs, []⟩ = pure (List.zip _ vs)) (fun x0 x1 => by with_unfolding_all rfl)
  dsimp only [List.zip, List.zipWith]
  rw [row, hl]
  refine WS.cons (forEnum_ ok B ?_ (by with_unfolding_all rfl) (by with_unfolding_all rfl) (by intro _; with_unfolding_all rfl))
  fail "m"
  refine ⟨rfl, ?_⟩
  fail "m"
  refine ⟨nats l, .inl rfl, ?_⟩
  refine loopI_ (fun xs Γ σ => ∃ i, σ = [] ∧ i ≤ l.length ∧ xs = (enumD (nats l)).drop i ∧ Has Γ "w" (.int (k : Int)) ∧ x = (2 ^ k) ^ i * val (2 ^ k) (l.drop i)) ?_ ?_ _ _ _ ⟨0, rfl, Nat.zero_le _, rfl, rfl, by simp [ex]⟩
  · refine fun e xs J hJ Γ => st1 (fun i => an4 fun hil he h1 h2 => ?_)
    have hlen : (enumD (nats l)).length = l.length := by simp [enumD, nats]
    have hi : i < l.length := by
      have := congrArg List.length he
      simp [hlen] at this; (first | fail "m r" | (clear hk hx ht hB hB2 hz x0 lx ex h2; omega))
    obtain ⟨u, hu⟩ : ∃ u, l[i]? = some u := ⟨_, List.getElem?_eq_getElem hi⟩
    have bu := get_lt cx.1 hu
    have hd : l.drop i = u :: l.drop (i + 1) := by
      rw [List.drop_eq_getElem_cons hi]
      rw [List.getElem?_eq_getElem hi] at hu
      rw [Option.some.inj hu]
    have hen : (enumD (nats l))[i]? = some (.tup [.int (i : Nat), .int (u : Nat)]) := by
      simp only [enumD, List.getElem?_map, List.getElem?_zipIdx, nats, hu]
      simp
    rw [List.drop_eq_getElem_cons (by rw [hlen]; exact hi)] at he
    rw [List.getElem?_eq_getElem (by rw [hlen]; exact hi)] at hen
    rw [Option.some.inj hen] at he
    cases he
    rw [hd, val] at h2
    refine WA.tup ok rfl rfl (by with_unfolding_all rfl) ?_
    dsimp only [bindAll]
    fail "m"
    refine ⟨fun hc => ?_, fun hc => ?_⟩
    · have hc : 0 < u := by have := of_decide_eq_true hc; fail "m o"
      fail "m"
      refine W2.mul (.of_left (bits_small (m := i) (by (first | fail "m r" | (clear hk hx ht hB hB2 x0 ex hil h2 bu hc hz; show _ ≤ 16777216; omega))))) ?_
      fail "m"
      refine bitLength_ ?_ (by with_unfolding_all rfl) (by with_unfolding_all rfl) (by with_unfolding_all rfl) (by with_unfolding_all rfl)
      fail "m"
      refine ⟨_, rfl, ?_⟩
      fail "m"
      obtain ⟨q1, q2⟩ := tzD_ok u (by (first | fail "m r" | (clear hk hx ht hz x0 lx ex hil h2 hc; omega))) hc
      fail "m"; refine .inl ?_
      have hs : tzD u < k := by
        rcases Nat.lt_or_ge (tzD u) k with q | q
        · exact q
        · have : u % 2 ^ (tzD u + 1) ≤ u := Nat.mod_le _ _
          rw [q1] at this
          have := Nat.pow_le_pow_right (show 0 < 2 by decide) q
          (first | fail "m r" | (clear hk hx ht hB hB2 hz x0 lx ex hil h2 hc q1 q2 q; omega))
      have key : x % 2 ^ (k * i + tzD u + 1) = 2 ^ (k * i + tzD u) := by
        rw [h2, ← Nat.pow_mul, Nat.add_assoc, Nat.pow_add _ (k * i), Nat.mul_mod_mul_left, Nat.pow_add _ (k * i)]
        congr 1
        obtain ⟨j, hj⟩ : ∃ j, k = tzD u + 1 + j := ⟨k - (tzD u + 1), by (first | fail "m r" | (clear hk hx ht hB hB2 hz x0 lx ex hil h2 bu hc q1 q2; omega))⟩
        conv => lhs; rw [hj, Nat.pow_add, Nat.mul_assoc, Nat.add_mul_mod_self_left]
        exact q1
      have := tz_uniq key ht
      rw [← this]
      congr 1
      unfold tzD
      rw [Nat.mul_comm k i]
      generalize Builtin.Int.intBits (Builtin.bitAnd (u : Int) (-(u : Int))) = z at *
      rw [← Int.natCast_mul]
      (first | fail "m r" | (clear hk hx ht hB hB2 hz x0 lx ex hil h2 bu hc q1 hs key this; omega))
    · have hc : u = 0 := by have := of_decide_eq_false hc; fail "m o"
      subst hc
      fail "m"
      refine ⟨i + 1, rfl, hi, rfl, h1, ?_⟩
      rw [h2, Nat.zero_add, Nat.pow_succ, Nat.mul_assoc]
  · refine fun Γ => st1 (fun i => an4 fun hil he h1 h2 => ?_)
    have hlen : (enumD (nats l)).length = l.length := by simp [enumD, nats]
    have := congrArg List.length he
    simp [hlen] at this
    rw [List.drop_of_length_le (by (first | fail "m r" | (clear hk hx ht hB hB2 hz x0 lx ex hil h2; omega)))] at h2
    simp [val] at h2
    (first | fail "m r" | (clear hk ht hB hB2 hz lx hil hlen this; omega))
end
noncomputable def D.easy : D → Bool
  | .none | .bool _ | .int _ | .str _ | .list _ | .tup _ => true
  | _ => false
noncomputable def D.is : D → Ty → Bool
  | .bool _, .bool | .bool _, .int | .int _, .int | .str _, .str | .list _, .list | .tup _, .tuple => true
  | _, _ => false
theorem D.isT_easy {d : D} (h : d.easy = true) (T : Ty) : d.isT T = some (d.is T) := by
  cases d <;> cases T <;> first | rfl | cases h
noncomputable def D.limb (B : Nat) : D → Bool
  | .int i => decide (0 ≤ i) && decide (i < (B : Int))
  | _ => false
noncomputable def D.nat : D → Nat
  | .int i => i.toNat
  | _ => 0
noncomputable def isRow (B : Nat) : D → Bool
  | .list l => l.all (D.limb B) && decide ((nats (l.map D.nat)).length = 0 ∨ (l.map D.nat).getLast? ≠ some 0)
  | _ => false
noncomputable def valD (B : Nat) : D → Nat
  | .list l => val B (l.map D.nat)
  | _ => 0
theorem limb_nat {B : Nat} {d : D} (h : d.limb B = true) : d = .int (d.nat : Nat) ∧ d.nat < B := by
  cases d with
  | int i =>
    simp only [D.limb, Bool.and_eq_true, decide_eq_true_iff] at h
    refine ⟨?_, ?_⟩
    · show D.int i = .int (i.toNat : Nat)
      congr 1; fail "m o"
    · show i.toNat < B
      fail "m o"
  | _ => cases h
theorem limbs_nats {B : Nat} : ∀ {l : List D}, l.all (D.limb B) = true → l = nats (l.map D.nat) ∧ ∀ x ∈ l.map D.nat, x < B
  | [], _ => ⟨rfl, by simp⟩
  | d :: l, h => by
    rw [List.all_cons, Bool.and_eq_true] at h
    obtain ⟨h1, h2⟩ := limb_nat h.1
    obtain ⟨h3, h4⟩ := limbs_nats h.2
    refine ⟨?_, fun x hx => ?_⟩
    · rw [List.map_cons, nats, List.map_cons, ← h1]
      congr 1
    · rcases List.mem_cons.mp hx with rfl | hx
      · exact h2
      · exact h4 x hx
theorem isRow_row {B : Nat} (hB : 2 ≤ B) {d : D} (h : isRow B d = true) : d = row B (valD B d) := by
  cases d with
  | list l =>
    rw [isRow, Bool.and_eq_true, decide_eq_true_iff] at h
    obtain ⟨h1, h2⟩ := limbs_nats h.1
    have hc : Can B (l.map D.nat) := ⟨h2, by
      rcases h.2 with q | q
      · rw [nats_len] at q
        rw [List.length_eq_zero_iff.mp q]; simp
      · exact q⟩
    rw [row, valD, hc.dg hB, ← h1]
  | _ => cases h
theorem nats_nat (l : List Nat) : (nats l).map D.nat = l := by
  rw [nats, List.map_map]
  conv => rhs; rw [← List.map_id l]
  rfl
theorem isRow_ofRow {B : Nat} (hB : 2 ≤ B) (n : Nat) : isRow B (row B n) = true ∧ valD B (row B n) = n := by
  have c := can_dg hB n
  refine ⟨?_, ?_⟩
  · rw [row, isRow, Bool.and_eq_true, decide_eq_true_iff, nats_nat]
    refine ⟨List.all_eq_true.mpr fun x hx => ?_, .inr c.2⟩
    obtain ⟨y, hy, rfl⟩ := List.mem_map.mp hx
    have := c.1 y hy
    simp only [D.limb, Bool.and_eq_true, decide_eq_true_iff]
    (first | fail "m r" | (clear hB; omega))
  · rw [row, valD, nats_nat, val_dg hB]
section
variable {prog : Program} {w : World} {b : Heap} {C : Cx} {Γ : Vars} {σ : Store} {Q : D → Store → Prop}
theorem isi_ {d : D} {T : Ty} (h : d.easy = true) (q : Q (.bool (d.is T)) σ) : WV (model prog w) b C (fun vs => call (.builtin "isinstance") vs []) [d, .raw (.type T.name)] Γ σ Q :=
  WV.isi (D.isT_easy h T) q
noncomputable def okRow : D → Prop
  | .list l => l.length ≤ 2 ^ 20 ∧ ∀ x ∈ l, D.easy x = true
  | d => d.easy = true
theorem okRow.easy {d : D} (h : okRow d) : d.easy = true := by
  cases d <;> first | rfl | exact h
theorem filter_limb {B : Nat} (l : List D) : decide ((0 : Int) < ((l.filter fun d => !D.limb B d).length : Nat)) = !(l.all (D.limb B)) := by
  rw [Bool.eq_iff_iff, decide_eq_true_iff, Bool.not_eq_true']
  constructor
  · intro h
    have h : 0 < (l.filter fun d => !D.limb B d).length := by fail "m o"
    obtain ⟨x, hx⟩ := List.exists_mem_of_length_pos h
    rw [List.mem_filter, Bool.not_eq_true'] at hx
    rw [← Bool.not_eq_true, List.all_eq_true]
    intro q
    rw [q x hx.1] at hx; exact absurd hx.2 (by decide)
  · intro h
    have : (l.filter fun d => !D.limb B d) ≠ [] := by
      intro q
      rw [List.filter_eq_nil_iff] at q
      have : l.all (D.limb B) = true := List.all_eq_true.mpr fun x hx => by
        have := q x hx
        simpa using this
      rw [h] at this; cases this
    have := List.length_pos_iff.mpr this
    fail "m o"
theorem turnIf {M : Model} {C : Cx} {elt t c : PySem.Expr} {Γ : Vars} {p : D → Bool} {f : D → D} {x : D} (h : WAL M b C t x Γ fun Γ1 => WT M b C c Γ1 [] fun t σ' => σ' = [] ∧ t = p x ∧ (p x = true → WE M b C elt Γ1 [] fun d σ' => σ' = [] ∧ d = f x)) : CompTurn M b C elt t [c] Γ p f x := h
theorem turn0 {M : Model} {C : Cx} {elt t : PySem.Expr} {Γ : Vars} {p : D → Bool} {f : D → D} {x : D} (h : WAL M b C t x Γ fun Γ1 => true = p x ∧ (p x = true → WE M b C elt Γ1 [] fun d σ' => σ' = [] ∧ d = f x)) : CompTurn M b C elt t [] Γ p f x := h
variable {k : Nat} (B : Base (hd.heap_39 w.params) b) (hk : 1 ≤ k ∧ k ≤ 9)
include B hk
theorem c_is_limb (d : D) (hd' : d.easy = true) : Fn0 (model prog w) b 1 (.ref 123) [d, .int (k : Nat)] (.bool (d.limb (2 ^ k))) := by
  refine Fn0.intro B (names := ["value", "w"]) ⟨by with_unfolding_all rfl, ?fnb, by with_unfolding_all rfl, by with_unfolding_all rfl, by decide, by with_unfolding_all rfl, by with_unfolding_all rfl, by with_unfolding_all rfl⟩ rfl (by fail "m o") (fun A L Kf hKf ok => ?_)
  case fnb => exact len2 (P := fun vs => bindArgs _ ⟨vs, []⟩ = pure (List.zip _ vs)) (fun x0 x1 => by with_unfolding_all rfl)
  dsimp only [List.zip, List.zipWith]
  cases d with
  | int i =>
    fail "m"
    refine WV.isi (T := .int) rfl ?_
    fail "m"
    refine WV.isi (T := .bool) rfl ?_
    fail "m"
    refine ⟨fun hc => ?_, fun hc => ?_⟩
    · fail "m"; refine .inl ?_
      rw [D.limb, hc]; rfl
    · fail "m"
      refine shl1_ (k := k) (by fail "m o") ?_
      fail "m"
      refine .inl ?_
      rw [D.limb, hc]; simp
  | bool x =>
    fail "m"
    refine WV.isi (T := .int) rfl ?_
    fail "m"
    refine WV.isi (T := .bool) rfl ?_
    fail "m"
    exact .inl rfl
  | none =>
    fail "m"
    refine WV.isi (T := .int) rfl ?_
    fail "m"
    exact .inl rfl
  | str x =>
    fail "m"
    refine WV.isi (T := .int) rfl ?_
    fail "m"
    exact .inl rfl
  | list x =>
    fail "m"
    refine WV.isi (T := .int) rfl ?_
    fail "m"
    exact .inl rfl
  | tup x =>
    fail "m"
    refine WV.isi (T := .int) rfl ?_
    fail "m"
    exact .inl rfl
  | _ => cases hd'

theorem c_is_nat (d : D) (hd' : okRow d) : Fn0 (model prog w) b 2 (.ref 128) [d, .int (k : Nat)] (.bool (isRow (2 ^ k) d)) := by
  have hz := sz
  refine Fn0.intro B (names := ["value", "w"]) ⟨by with_unfolding_all rfl, ?fnb, by with_unfolding_all rfl, by with_unfolding_all rfl, by decide, by with_unfolding_all rfl, by with_unfolding_all rfl, by with_unfolding_all rfl⟩ rfl (by fail "m o") (fun A L Kf hKf ok => ?_)
  case fnb => exact len2 (P := fun vs => bindArgs _ ⟨vs, []⟩ = pure (List.zip _ vs)) (fun x0 x1 => by with_unfolding_all rfl)
  dsimp only [List.zip, List.zipWith]
  fail "m"
  refine isi_ (T := .list) hd'.easy ?_
  have other : d.is .list = false → isRow (2 ^ k) d = false := by cases d <;> first | exact fun _ => rfl | exact fun q => (nomatch q)
  fail "m"
  refine ⟨fun hc => ?_, fun hc => ?_⟩
  · fail "m"
    refine .inl ?_
    rw [other (by simpa using hc)]
  · cases d with
    | list l =>
      have hd' : l.length ≤ 2 ^ 20 ∧ ∀ x ∈ l, D.easy x = true := hd'
      fail "m"
      refine comp_ (p := fun d => !D.limb (2 ^ k) d) (f := id) [("w", L + 1)] [("w", .int (k : Nat))] ok ?_ (fun L' => ⟨⟨by with_unfolding_all rfl, .inl (by with_unfolding_all rfl), .inl (by with_unfolding_all rfl), _, by with_unfolding_all rfl, by with_unfolding_all rfl⟩, trivial⟩) (by with_unfolding_all rfl) ⟨by with_unfolding_all rfl, trivial⟩ (by dsimp only [List.map]; decide) (by decide) (by with_unfolding_all rfl) (by decide) (by intro _; with_unfolding_all rfl)
      fail "m"
      refine ⟨rfl, l, .list _, by fail "m o", ?_, ?_⟩
      · intro L' ok' x hx
        refine turnIf (WAL.name ok' ?_ (by with_unfolding_all rfl))
        fail "m"
        refine WV.fn0 ok' (c_is_limb B hk x (hd'.2 x hx)) (by fail "m n") ?_
        fail "m"
        refine ⟨rfl, rfl, fun _ => ?_⟩
        fail "m"
        exact ⟨rfl, rfl⟩
      · fail "m"
        refine WV.lenL (by rw [List.length_map]; exact Nat.le_trans (List.length_filter_le ..) (by fail "m o")) ?_
        fail "m"
        rw [List.length_map, filter_limb]
        refine ⟨fun hc => ?_, fun hc => ?_⟩
        · fail "m"
          refine .inl ?_
          rw [Bool.not_eq_true'] at hc
          rw [isRow, hc]; rfl
        · fail "m"
          refine WV.lenL (by fail "m o") ?_
          fail "m"
          rw [Bool.not_eq_false'] at hc
          obtain ⟨e1, e2⟩ := limbs_nats hc
          have len : (nats (l.map D.nat)).length = l.length := by rw [← e1]
          refine ⟨fun h0 => ?_, fun h0 => ?_⟩
          · have h0 : l.length = 0 := by have := of_decide_eq_true h0; fail "m o"
            fail "m"; refine .inl ?_
            rw [isRow, hc, decide_eq_true (.inl (by (first | fail "m r" | (clear hk hz hd'; omega))))]; rfl
          · have h0 : l.length ≠ 0 := by have := of_decide_eq_false h0; fail "m o"
            fail "m"
            obtain ⟨u, hu⟩ : ∃ u, (l.map D.nat).getLast? = some u := by
              rw [List.getLast?_eq_getElem?]
              exact ⟨_, List.getElem?_eq_getElem (by rw [List.length_map]; (first | fail "m r" | (clear hk hz; omega)))⟩
            have hl : l.getLast? = some (.int (u : Nat)) := by
              rw [e1, nats, List.getLast?_map, hu]; rfl
            refine W2.last hl ?_
            fail "m"
            refine .inl ?_
            rw [isRow, hc, hu]
            congr 1
            rw [Bool.true_and, Bool.eq_iff_iff, decide_eq_true_iff, decide_eq_true_iff]
            constructor
            · intro q; fail "m"; exact .inr (by simp; (first | fail "m r" | (clear hk hz hd' len h0; omega)))
            · rintro (q | q)
              · (first | fail "m r" | (clear hk hz hd'; omega))
              · simp at q; (first | fail "m r" | (clear hk hz hd' len h0; omega))
    | _ => first | exact ft hc | exact tf hc
end
theorem cmpN_nonneg {a c : Nat} : (0 : Int) ≤ cmpN a c ↔ c ≤ a := by unfold cmpN; split <;> first | fail "m o" | (split <;> fail "m o")
theorem cmpN_neg {a c : Nat} : cmpN a c < 0 ↔ a < c := by unfold cmpN; split <;> first | fail "m o" | (split <;> fail "m o")
theorem cmpN_pos {a c : Nat} : (0 : Int) < cmpN a c ↔ c < a := by unfold cmpN; split <;> first | fail "m o" | (split <;> fail "m o")
theorem cmpN_npos {a c : Nat} : cmpN a c ≤ 0 ↔ a ≤ c := by unfold cmpN; split <;> first | fail "m o" | (split <;> fail "m o")
noncomputable def smallD (x : Nat) : D := if x < 32 then .int (x : Nat) else .none
noncomputable def primeB (v : Nat) : Bool := decide (2 ≤ v) && (List.range v).all fun d => decide (d < 2) || decide (v % d ≠ 0)
noncomputable abbrev Pr := Nat × Nat × List D
noncomputable def pairD (B : Nat) (p : Pr) : D := .tup (row B p.1 :: .int (p.2.1 : Nat) :: p.2.2)
noncomputable def prodL : List Pr → Nat
  | [] => 1
  | p :: r => p.1 ^ p.2.1 * prodL r
noncomputable def prodW (w : Nat) : Nat → List Pr → Nat
  | _, [] => 1
  | i, p :: r => p.1 ^ (p.2.1 - if i = w then 1 else 0) * prodW w (i + 1) r
theorem prodW_pos {w : Nat} : ∀ (i : Nat) (l : List Pr), (∀ p ∈ l, 1 ≤ p.1) → 1 ≤ prodW w i l
  | _, [], _ => Nat.le_refl _
  | i, p :: r, h => Nat.mul_pos (Nat.pow_pos (h p (List.mem_cons_self ..))) (prodW_pos (i + 1) r fun q hq => h q (List.mem_cons_of_mem _ hq))
theorem prodL_pos : ∀ (l : List Pr), (∀ p ∈ l, 1 ≤ p.1) → 1 ≤ prodL l
  | [], _ => Nat.le_refl _
  | p :: r, h => Nat.mul_pos (Nat.pow_pos (h p (List.mem_cons_self ..))) (prodL_pos r fun q hq => h q (List.mem_cons_of_mem _ hq))
theorem ups_mem {x : D} : ∀ {n a : Nat}, x ∈ ups a n → ∃ i : Nat, x = .int (i : Nat) ∧ a ≤ i ∧ i < a + n
  | 0, a, h => by simp [ups] at h
  | n + 1, a, h => by
    rcases List.mem_cons.mp h with rfl | h
    · exact ⟨a, rfl, by fail "m o", by fail "m o"⟩
    · obtain ⟨i, h1, h2, h3⟩ := ups_mem h
      exact ⟨i, h1, by fail "m o", by (first | fail "m r" | (clear h2; omega))⟩
theorem mem_ups : ∀ {n a i : Nat}, a ≤ i → i < a + n → D.int (i : Nat) ∈ ups a n
  | 0, a, i, h1, h2 => by fail "m o"
  | n + 1, a, i, h1, h2 => by
    rcases Nat.eq_or_lt_of_le h1 with rfl | h
    · exact List.mem_cons_self ..
    · exact List.mem_cons_of_mem _ (mem_ups h (by (first | fail "m r" | (clear h1 h; omega))))
theorem ups_len : ∀ (n a : Nat), (ups a n).length = n
  | 0, _ => rfl
  | n + 1, a => by rw [ups, List.length_cons, ups_len]
theorem none_ups {a n : Nat} (p : D → Bool) : decide ((((ups a n).filter p).length : Int) = 0) = true ↔ ∀ i, a ≤ i → i < a + n → p (.int (i : Nat)) = false := by
  rw [decide_eq_true_iff]
  constructor
  · intro h i h1 h2
    have h : ((ups a n).filter p).length = 0 := by fail "m o"
    have h := List.length_eq_zero_iff.mp h
    rw [List.filter_eq_nil_iff] at h
    simpa using h _ (mem_ups h1 h2)
  · intro h
    have : (ups a n).filter p = [] := by
      rw [List.filter_eq_nil_iff]
      intro x hx
      obtain ⟨i, rfl, h1, h2⟩ := ups_mem hx
      rw [h i h1 h2]; decide
    rw [this]; rfl
section
variable {prog : Program} {w : World} {b : Heap} {C : Cx} {Γ : Vars} {σ : Store} {Q : D → Store → Prop}
theorem iterUps {n : Nat} (h : n ≤ 2 ^ 30) : Items (.range 0 (n : Int) 1) (ups 0 n) := by
  have := items_ups 0 n (by fail "m o")
  rwa [Nat.zero_add] at this
variable {k : Nat} (B : Base (hd.heap_39 w.params) b) (hk : 1 ≤ k ∧ k ≤ 9)
include B
theorem c_is_between {Bs : Nat} (hB : 2 ≤ Bs) (x lo hi : Nat) (hx : x ≤ sizeLine) (hl : lo ≤ sizeLine) (hh : hi ≤ sizeLine) : Fn0 (model prog w) b 2 (.ref 135) [row Bs x, row Bs lo, row Bs hi] (.bool (decide (lo ≤ x) && decide (x < hi))) := by
  refine Fn0.intro B (names := ["a", "least", "most"]) ⟨by with_unfolding_all rfl, ?fnb, by with_unfolding_all rfl, by with_unfolding_all rfl, by decide, by with_unfolding_all rfl, by with_unfolding_all rfl, by with_unfolding_all rfl⟩ rfl (by fail "m o") (fun A L Kf hKf ok => ?_)
  case fnb => exact len3 (P := fun vs => bindArgs _ ⟨vs, []⟩ = pure (List.zip _ vs)) (fun x0 x1 x2 => by with_unfolding_all rfl)
  dsimp only [List.zip, List.zipWith]
  fail "m"
  refine WV.fn0 ok (c_compare B hB _ _ hx hl) (by fail "m n") ?_
  fail "m"
  refine ⟨fun hc => ?_, fun hc => ?_⟩
  · have hc := of_decide_eq_false hc
    rw [cmpN_nonneg] at hc
    fail "m"; exact .inl (by rw [decide_eq_false hc]; rfl)
  · have hc := of_decide_eq_true hc
    rw [cmpN_nonneg] at hc
    fail "m"
    refine WV.fn0 ok (c_compare B hB _ _ hx hh) (by fail "m n") ?_
    fail "m"
    refine .inl ?_
    rw [decide_eq_true hc, Bool.true_and]
    simp only [cmpN_neg]
include hk
theorem c_small_value (x : Nat) (hx : x ≤ 2 ^ 20) : Fn0 (model prog w) b 1 (.ref 142) [row (2 ^ k) x, .int (k : Nat)] (smallD x) := by
  have hB : 2 ≤ 2 ^ k := pow_ge hk.1
  have hz := sz
  have lx := Nat.le_trans (dg_len hB x) hx
  have cx := can_dg hB x
  have ex := val_dg hB x
  generalize hl : dg (2 ^ k) x = l at *
  refine Fn0.intro B (names := ["a", "w"]) ⟨by with_unfolding_all rfl, ?fnb, by with_unfolding_all rfl, by with_unfolding_all rfl, by decide, by with_unfolding_all rfl, by with_unfolding_all rfl, by with_unfolding_all rfl⟩ rfl (by fail "m o") (fun A L Kf hKf ok => ?_)
  case fnb => exact len2 (P := fun vs => bindArgs _ ⟨vs, []⟩ = pure (List.zip _ vs)) (fun x0 x1 => by with_unfolding_all rfl)
  dsimp only [List.zip, List.zipWith]
  rw [row, hl]
  fail "m"
  refine forI_ (fun xs Γ σ => ∃ i, σ = [] ∧ xs = downs i ∧ i ≤ l.length ∧ Has Γ "a" (.list (nats l)) ∧ Has Γ "w" (.int (k : Int)) ∧ Has Γ "value" (.int (val (2 ^ k) (l.drop i) : Nat)) ∧ (i < l.length → val (2 ^ k) (l.drop i) < 32)) ok ?_ ?_ ?_
  · fail "m"
    refine lenN_ (by fail "m o") ?_
    fail "m"
    refine downs_ ?_
    refine ⟨_, items_downs _ (by fail "m o"), _, rfl, rfl, Nat.le_refl _, rfl, rfl, ?_, fun h => absurd h (Nat.lt_irrefl _)⟩
    rw [List.drop_length]; rfl
  · refine fun e xs J hJ Γ => st1 (fun i => an6 fun he hi h1 h2 h3 h4 => ?_)
    cases i with
    | zero => cases he
    | succ i =>
      cases he
      obtain ⟨u, hu⟩ : ∃ u, l[i]? = some u := ⟨_, List.getElem?_eq_getElem (by (first | fail "m r" | (clear hk hx hB hz lx ex h4; omega)))⟩
      have hd : l.drop i = u :: l.drop (i + 1) := by
        rw [List.drop_eq_getElem_cons (show i < l.length by (first | fail "m r" | (clear hk hx hB hz lx ex h4; omega)))]
        rw [List.getElem?_eq_getElem (by (first | fail "m r" | (clear hk hx hB hz lx ex h4; omega)))] at hu
        rw [Option.some.inj hu]
      have hle : val (2 ^ k) (l.drop (i + 1)) ≤ x := by
        rw [val_drop (by fail "m o") cx.1, ex]; exact Nat.div_le_self _ _
      have hle2 : val (2 ^ k) (l.drop i) ≤ x := by
        rw [val_drop (by fail "m o") cx.1, ex]; exact Nat.div_le_self _ _
      have hv : val (2 ^ k) (l.drop (i + 1)) * 2 ^ k + u = val (2 ^ k) (l.drop i) := by
        rw [hd, val, Nat.mul_comm, Nat.add_comm]
      refine WA.name ok ?_
      fail "m"
      refine shlN_ (by (first | fail "m r" | (clear hk hB lx hi h4 hle2 hv hz; show _ ≤ 16777216; omega))) (by fail "m o") ?_
      fail "m"
      refine itemN_ (by (first | fail "m r" | (clear hk hx hB ex h4 hle hle2 hv hz; show _ ≤ 16777216; omega))) hu ?_
      fail "m"
      rw [← Int.natCast_add, hv]
      refine ⟨fun hc => ?_, fun hc => ?_⟩
      · have hc : 32 ≤ val (2 ^ k) (l.drop i) := by have := of_decide_eq_true hc; (first | fail "m r" | (clear hk hx hB hz lx ex hi h4 hle hle2; omega))
        fail "m"
        refine .inl ?_
        rw [smallD, if_neg (by (first | fail "m r" | (clear hk hB hz lx hi h4 hle; omega)))]
      · have hc : val (2 ^ k) (l.drop i) < 32 := by have := of_decide_eq_false hc; (first | fail "m r" | (clear hk hx hB hz lx ex hi h4 hle hle2; omega))
        fail "m"
        exact ⟨i, rfl, rfl, by fail "m o", h1, h2, rfl, fun _ => hc⟩
  · refine fun Γ => st1 (fun i => an6 fun he hi h1 h2 h3 h4 => ?_)
    cases i with
    | succ i => cases he
    | zero =>
      rw [List.drop_zero, ex] at h3 h4
      fail "m"
      refine .inl ?_
      rw [smallD, if_pos]
      rcases Nat.eq_zero_or_pos l.length with q | q
      · rw [List.length_eq_zero_iff.mp q] at ex
        rw [← ex]; show (0 : Nat) < 32; decide
      · exact h4 q
theorem c_is_small_prime (x : Nat) (hx : x ≤ 2 ^ 20) : Fn0 (model prog w) b 2 (.ref 147) [row (2 ^ k) x, .int (k : Nat)] (.bool (decide (x < 32) && primeB x)) := by
  refine Fn0.intro B (names := ["a", "w"]) ⟨by with_unfolding_all rfl, ?fnb, by with_unfolding_all rfl, by with_unfolding_all rfl, by decide, by with_unfolding_all rfl, by with_unfolding_all rfl, by with_unfolding_all rfl⟩ rfl (by fail "m o") (fun A L Kf hKf ok => ?_)
  case fnb => exact len2 (P := fun vs => bindArgs _ ⟨vs, []⟩ = pure (List.zip _ vs)) (fun x0 x1 => by with_unfolding_all rfl)
  dsimp only [List.zip, List.zipWith]
  fail "m"
  refine WV.fn0 ok (c_small_value B hk _ hx) (by fail "m n") ?_
  rw [smallD]
  by_cases h : x < 32
  · rw [if_pos h]
    fail "m"
    refine ⟨fun hc => (nomatch hc), fun _ => ?_⟩
    fail "m"
    refine ⟨fun hc => ?_, fun hc => ?_⟩
    · fail "m"
      refine .inl ?_
      have := of_decide_eq_true hc
      rw [primeB, decide_eq_false (show ¬ 2 ≤ x by (first | fail "m r" | (clear hk; omega)))]; simp
    · have hc : 2 ≤ x := by have := of_decide_eq_false hc; fail "m o"
      fail "m"
      refine comp_ (p := fun d => decide (((x : Int)).fmod (d.nat : Nat) = 0)) (f := id) [("value", L + 1)] [("value", .int (x : Nat))] ok ?_ (fun L' => ⟨⟨by with_unfolding_all rfl, .inl (by with_unfolding_all rfl), .inl (by with_unfolding_all rfl), _, by with_unfolding_all rfl, by with_unfolding_all rfl⟩, trivial⟩) (by with_unfolding_all rfl) ⟨by with_unfolding_all rfl, trivial⟩ (by dsimp only [List.map]; decide) (by decide) (by with_unfolding_all rfl) (by decide) (by intro _; with_unfolding_all rfl)
      fail "m"
      refine ⟨rfl, ups 2 (x - 2), ?_, by rw [ups_len]; have := sz; (first | fail "m r" | (clear hk; omega)), ?_, ?_⟩
      · have := items_ups 2 (x - 2) (by (first | fail "m r" | (clear hk; omega)))
        rwa [show 2 + (x - 2) = x by (first | fail "m r" | (clear hk; omega))] at this
      · intro L' ok' y hy
        obtain ⟨i, rfl, h1, h2⟩ := ups_mem hy
        refine turnIf (WAL.name ok' ?_ (by with_unfolding_all rfl))
        fail "m"
        refine W2.fmod (by (first | fail "m r" | (clear hk hx h hc h2; omega))) ?_
        fail "m"
        refine ⟨rfl, ?_, fun _ => ?_⟩
        · show _ = decide (Int.fmod _ ((i : Int).toNat : Nat) = 0)
          rw [Int.toNat_natCast]
        · fail "m"
          exact ⟨rfl, rfl⟩
      · fail "m"
        refine WV.lenL (by rw [List.length_map]; exact Nat.le_trans (List.length_filter_le ..) (by rw [ups_len]; have := sz; (first | fail "m r" | (clear hk; omega)))) ?_
        fail "m"
        refine .inl ?_
        rw [List.length_map, decide_eq_true h, Bool.true_and]
        congr 1
        rw [Bool.eq_iff_iff, none_ups, primeB, decide_eq_true hc, Bool.true_and, List.all_eq_true]
        constructor
        · intro q d hd
          have hd := List.mem_range.mp hd
          rcases Nat.lt_or_ge d 2 with z | z
          · rw [decide_eq_true z]; rfl
          · have := q d z (by (first | fail "m r" | (clear hk z; omega)))
            have := of_decide_eq_false this
            have e : (D.int (d : Nat)).nat = d := Int.toNat_natCast d
            rw [e, nat_fmod] at this
            rw [decide_eq_true (show x % d ≠ 0 by fail "m o"), Bool.or_true]
        · intro q i h1 h2
          have := q i (List.mem_range.mpr (by (first | fail "m r" | (clear hk h1; omega))))
          rw [decide_eq_false (by (first | fail "m r" | (clear hk hx h hc h2; omega))), Bool.false_or] at this
          have := of_decide_eq_true this
          have e : (D.int (i : Nat)).nat = i := Int.toNat_natCast i
          rw [e, nat_fmod]
          exact decide_eq_false (by (first | fail "m r" | (clear hk hx h hc h1 h2 e; omega)))
  · rw [if_neg h]
    fail "m"
    refine ⟨fun _ => ?_, fun hc => (nomatch hc)⟩
    fail "m"
    exact .inl (by rw [decide_eq_false h]; rfl)
omit hk in
theorem c_is_one {Bs : Nat} (hB : 2 ≤ Bs) (x : Nat) : Fn0 (model prog w) b 1 (.ref 168) [row Bs x] (.bool (decide (x = 1))) := by
  refine Fn0.intro B (names := ["a"]) ⟨by with_unfolding_all rfl, ?fnb, by with_unfolding_all rfl, by with_unfolding_all rfl, by decide, by with_unfolding_all rfl, by with_unfolding_all rfl, by with_unfolding_all rfl⟩ rfl (by fail "m o") (fun A L Kf hKf ok => ?_)
  case fnb => exact len1 (P := fun vs => bindArgs _ ⟨vs, []⟩ = pure (List.zip _ vs)) (fun x0 => by with_unfolding_all rfl)
  dsimp only [List.zip, List.zipWith]
  fail "m"
  rw [← row_one hB]
  refine eqRow_ hB ok ?_
  fail "m"
  exact Ends0.ret
theorem c_power_of (a m : Nat) (ha : 1 ≤ a) (hm : m ≤ 2 ^ 20) (h : a ^ m ≤ sizeLine) (ha2 : a ≤ sizeLine) : Fn0 (model prog w) b 3 (.ref 154) [row (2 ^ k) a, .int (m : Nat), .int (k : Nat), .raw (.ref 305)] (row (2 ^ k) (a ^ m)) := by
  have hB : 2 ≤ 2 ^ k := pow_ge hk.1
  have hz := sz
  refine Fn0.intro B (names := ["a", "many", "w", "mul"]) ⟨by with_unfolding_all rfl, ?fnb, by with_unfolding_all rfl, by with_unfolding_all rfl, by decide, by with_unfolding_all rfl, by with_unfolding_all rfl, by with_unfolding_all rfl⟩ rfl (by fail "m o") (fun A L Kf hKf ok => ?_)
  case fnb => exact len4 (P := fun vs => bindArgs _ ⟨vs, []⟩ = pure (List.zip _ vs)) (fun x0 x1 x2 x3 => by with_unfolding_all rfl)
  dsimp only [List.zip, List.zipWith]
  fail "m"
  rw [← row_one hB]
  refine forI_ (fun xs Γ σ => ∃ i j, σ = [] ∧ xs = ups i j ∧ i + j = m ∧ Has Γ "a" (row (2 ^ k) a) ∧ Has Γ "w" (.int (k : Int)) ∧ Has Γ "mul" (.raw (.ref 305)) ∧ Has Γ "found" (row (2 ^ k) (a ^ i))) ok ?_ ?_ ?_
  · fail "m"
    exact ⟨_, iterUps (by fail "m o"), 0, m, rfl, rfl, by fail "m o", rfl, rfl, rfl, rfl⟩
  · refine fun e xs J hJ Γ => st2 (fun i j => an6 fun he hij h1 h2 h3 h4 => ?_)
    cases j with
    | zero => cases he
    | succ j =>
      cases he
      have le : ∀ t, t ≤ m → a ^ t ≤ sizeLine := fun t ht => Nat.le_trans (Nat.pow_le_pow_right ha ht) h
      refine WA.name ok ?_
      fail "m"
      refine WV.fn0 ok (c_law_times B hk _ _ (le i (by (first | fail "m r" | (clear hk ha hm h ha2 hB hz; omega)))) ha2 (by rw [← Nat.pow_succ]; exact le _ (by (first | fail "m r" | (clear hk ha hm h ha2 hB hz; omega))))) (by fail "m n") ?_
      rw [← Nat.pow_succ]
      fail "m"
      exact ⟨i + 1, j, rfl, rfl, by fail "m o", h1, h2, h3, rfl⟩
  · refine fun Γ => st2 (fun i j => an6 fun he hij h1 h2 h3 h4 => ?_)
    cases j with
    | succ j => cases he
    | zero =>
      have : i = m := by (first | fail "m r" | (clear hk ha hm h ha2 hB hz; omega))
      subst this
      fail "m"
      exact Ends0.ret
theorem c_product_of (ps : List Pr) (wo : Nat) (dl : D) (hdl : dl = .list (ps.map (pairD (2 ^ k))) ∨ dl = .tup (ps.map (pairD (2 ^ k)))) (h1p : ∀ p ∈ ps, 1 ≤ p.1 ∧ p.1 ≤ sizeLine ∧ 1 ≤ p.2.1 ∧ p.2.1 ≤ 2 ^ 20) (hp : prodW wo 0 ps ≤ sizeLine) :
    Fn0 (model prog w) b 4 (.ref 161) [dl, .int (wo : Nat), .int (k : Nat), .raw (.ref 305)] (row (2 ^ k) (prodW wo 0 ps)) := by
  have hB : 2 ≤ 2 ^ k := pow_ge hk.1
  have hz := sz
  refine Fn0.intro B (names := ["pairs", "without", "w", "mul"]) ⟨by with_unfolding_all rfl, ?fnb, by with_unfolding_all rfl, by with_unfolding_all rfl, by decide, by with_unfolding_all rfl, by with_unfolding_all rfl, by with_unfolding_all rfl⟩ rfl (by fail "m o") (fun A L Kf hKf ok => ?_)
  case fnb => exact len4 (P := fun vs => bindArgs _ ⟨vs, []⟩ = pure (List.zip _ vs)) (fun x0 x1 x2 x3 => by with_unfolding_all rfl)
  dsimp only [List.zip, List.zipWith]
  fail "m"
  rw [← row_one hB]
  refine forEnum_ ok B ?_ (by with_unfolding_all rfl) (by with_unfolding_all rfl) (by intro _; with_unfolding_all rfl)
  fail "m"
  refine ⟨rfl, ?_⟩
  fail "m"
  refine ⟨ps.map (pairD (2 ^ k)), by rcases hdl with rfl | rfl <;> simp, ?_⟩
  refine loopI_ (fun xs Γ σ => ∃ i, σ = [] ∧ i ≤ ps.length ∧ xs = (enumD (ps.map (pairD (2 ^ k)))).drop i ∧ Has Γ "without" (.int (wo : Nat)) ∧ Has Γ "w" (.int (k : Int)) ∧ Has Γ "mul" (.raw (.ref 305)) ∧ ∃ d, Has Γ "found" (row (2 ^ k) d) ∧ d * prodW wo i (ps.drop i) = prodW wo 0 ps) ?_ ?_ _ _ _ ⟨0, rfl, Nat.zero_le _, rfl, rfl, rfl, rfl, 1, rfl, by simp⟩
  · refine fun e xs J hJ Γ => st1 (fun i => an6 fun hil he h1 h2 h3 hd => ?_)
    obtain ⟨d, h4, h5⟩ := hd
    have hlen : (enumD (ps.map (pairD (2 ^ k)))).length = ps.length := by simp [enumD]
    have hi : i < ps.length := by
      have := congrArg List.length he
      simp [hlen] at this; (first | fail "m r" | (clear hk hp hB hz h5; omega))
    obtain ⟨p, hp'⟩ : ∃ p, ps[i]? = some p := ⟨_, List.getElem?_eq_getElem hi⟩
    obtain ⟨q1, q2, q3, q4⟩ := h1p p (List.mem_of_getElem? hp')
    have hd : ps.drop i = p :: ps.drop (i + 1) := by
      rw [List.drop_eq_getElem_cons hi]
      rw [List.getElem?_eq_getElem hi] at hp'
      rw [Option.some.inj hp']
    have hen : (enumD (ps.map (pairD (2 ^ k))))[i]? = some (.tup [.int (i : Nat), pairD (2 ^ k) p]) := by
      simp only [enumD, List.getElem?_map, List.getElem?_zipIdx, hp']
      simp
    rw [List.drop_eq_getElem_cons (by rw [hlen]; exact hi)] at he
    rw [List.getElem?_eq_getElem (by rw [hlen]; exact hi)] at hen
    rw [Option.some.inj hen] at he
    cases he
    rw [hd, prodW, ← Nat.mul_assoc] at h5
    have hr := prodW_pos (w := wo) (i + 1) (ps.drop (i + 1)) fun p hp => (h1p p (List.mem_of_mem_drop hp)).1
    generalize hR : prodW wo (i + 1) (ps.drop (i + 1)) = R at *
    have hle : d * p.1 ^ (p.2.1 - if i = wo then 1 else 0) ≤ prodW wo 0 ps := by rw [← h5]; exact Nat.le_mul_of_pos_right _ hr
    have hpow : 1 ≤ p.1 ^ (p.2.1 - if i = wo then 1 else 0) := Nat.pow_pos q1
    have hdle : d ≤ prodW wo 0 ps := Nat.le_trans (Nat.le_mul_of_pos_right _ hpow) hle
    have d0 : 1 ≤ d := by
      rcases Nat.eq_zero_or_pos d with q | q
      · subst q
        rw [Nat.zero_mul, Nat.zero_mul] at h5
        have := prodW_pos (w := wo) 0 ps fun p hp => (h1p p hp).1
        (first | fail "m r" | (clear hk hp hB hz hil q1 q2 q3 q4 hR hr hpow hle hdle; omega))
      · exact q
    have hple : p.1 ^ (p.2.1 - if i = wo then 1 else 0) ≤ prodW wo 0 ps := Nat.le_trans (Nat.le_mul_of_pos_left _ d0) hle
    refine WA.tup ok rfl rfl (by with_unfolding_all rfl) ?_
    dsimp only [bindAll]
    fail "m"
    refine W2.itemT (d := row (2 ^ k) p.1) (by decide) (by decide) rfl ?_
    fail "m"
    refine W2.itemT (d := .int (p.2.1 : Nat)) (by decide) (by decide) rfl ?_
    fail "m i"
    refine WE.mono (Q := fun d σ' => d = .int ((if i = wo then 1 else 0 : Nat) : Int) ∧ σ' = []) ?_ ?_
    · fail "m"
      refine ⟨fun hc => ?_, fun hc => ?_⟩
      · have hc : i = wo := by have := of_decide_eq_true hc; (first | fail "m r" | (clear hk hp hB hz hil q1 q2 q3 q4 hR h5 hr hle hpow hdle d0 hple; omega))
        fail "m"
        rw [if_pos hc]
        exact ⟨rfl, rfl⟩
      · have hc : ¬ i = wo := by have := of_decide_eq_false hc; fail "m o"
        fail "m"
        rw [if_neg hc]
        exact ⟨rfl, rfl⟩
    rintro _ _ ⟨rfl, rfl⟩
    generalize hz : (if i = wo then 1 else 0 : Nat) = z at *
    have z1 : z ≤ 1 := by rw [← hz]; split <;> (first | fail "m r" | (clear hk hp hB hil q1 q2 q3 q4 hR hr hdle d0 hz h5 hle hpow hple; omega))
    fail "m"
    rw [← Int.natCast_sub (by (first | fail "m r" | (clear hk hp hB hil q1 q2 hR hr hdle d0 h5 hle hpow hple; omega)))]
    refine WV.fn0 ok (c_power_of B hk p.1 _ q1 (by (first | fail "m r" | (clear hk hp hB hil q1 q2 hR hr hdle d0 h5 hle hpow hple; omega))) (by (first | fail "m r" | (clear hk hB hil q1 q2 q3 q4 hR hr hz hle hpow z1; omega))) q2) (by fail "m n") ?_
    fail "m"
    refine WV.fn0 ok (c_law_times B hk _ _ (by (first | fail "m r" | (clear hk hB hil q1 q2 q3 q4 hR hr d0 hz hle hpow hple z1; omega))) (by (first | fail "m r" | (clear hk hB hil q1 q2 q3 q4 hR hr hz hle hpow z1; omega))) (by (first | fail "m r" | (clear hk hB hil q1 q2 q3 q4 hR hr hz hpow hple z1; omega)))) (by fail "m n") ?_
    fail "m"
    exact ⟨i + 1, rfl, hi, rfl, h1, h2, h3, _, rfl, by rw [hR]; exact h5⟩
  · refine fun Γ => st1 (fun i => an6 fun hil he h1 h2 h3 hd => ?_)
    obtain ⟨d, h4, h5⟩ := hd
    have hlen : (enumD (ps.map (pairD (2 ^ k)))).length = ps.length := by simp [enumD]
    have := congrArg List.length he
    simp [hlen] at this
    rw [List.drop_of_length_le (by (first | fail "m r" | (clear hk hp hB hz hil h5; omega))), prodW, Nat.mul_one] at h5
    subst h5
    fail "m"
    exact Ends0.ret
end
noncomputable def Wd (B : Nat) : Nat → D → Prop
  | 0, _ => False
  | f + 1, d => match d with
    | .none => True
    | .bool _ => True
    | .int _ => True
    | .str x => PyData.strOk x = true
    | .list l => l.length ≤ 64 ∧ (∀ x ∈ l, Wd B f x) ∧ (isRow B (.list l) = true → valD B (.list l) ≤ 1024)
    | .tup l => l.length ≤ 64 ∧ ∀ x ∈ l, Wd B f x
    | _ => False
theorem Wd.up {B : Nat} : ∀ {f : Nat} {d : D}, Wd B f d → Wd B (f + 1) d
  | 0, _, h => h.elim
  | f + 1, d, h => by
    cases d with
    | list l =>
      have h : l.length ≤ 64 ∧ (∀ x ∈ l, Wd B f x) ∧ (isRow B (.list l) = true → valD B (.list l) ≤ 1024) := h
      exact ⟨h.1, fun x hx => (h.2.1 x hx).up, h.2.2⟩
    | tup l =>
      have h : l.length ≤ 64 ∧ ∀ x ∈ l, Wd B f x := h
      exact ⟨h.1, fun x hx => (h.2 x hx).up⟩
    | none => trivial
    | bool _ => trivial
    | int _ => trivial
    | str _ => exact h
    | _ => exact h.elim
theorem Wd.mono {B f g : Nat} {d : D} (h : Wd B f d) (hg : f ≤ g) : Wd B g d := by
  induction g with
  | zero => have : f = 0 := by fail "m o"
            subst this; exact h
  | succ g ih =>
    rcases Nat.lt_or_ge g f with q | q
    · have : f = g + 1 := by (first | fail "m r" | (clear ih; omega))
      subst this; exact h
    · exact (ih q).up
theorem Wd.easy {B f : Nat} {d : D} (h : Wd B f d) : d.easy = true := by
  cases f with
  | zero => exact h.elim
  | succ f => cases d <;> first | rfl | exact h.elim
theorem Wd.okRow {B f : Nat} {d : D} (h : Wd B f d) : okRow d := by
  cases f with
  | zero => exact h.elim
  | succ f =>
    cases d with
    | list l =>
      have h : l.length ≤ 64 ∧ (∀ x ∈ l, Wd B f x) ∧ (isRow B (.list l) = true → valD B (.list l) ≤ 1024) := h
      exact ⟨by fail "m o", fun x hx => (h.2.1 x hx).easy⟩
    | _ => first | rfl | exact h.elim
theorem Wd.tup {B f : Nat} {l : List D} (h : Wd B (f + 1) (.tup l)) : l.length ≤ 64 ∧ ∀ x ∈ l, Wd B f x := h
theorem Wd.rowLe {B f : Nat} {d : D} (h : Wd B f d) (hr : isRow B d = true) : valD B d ≤ 1024 := by
  cases f with
  | zero => exact h.elim
  | succ f =>
    cases d with
    | list l =>
      have h : l.length ≤ 64 ∧ (∀ x ∈ l, Wd B f x) ∧ (isRow B (.list l) = true → valD B (.list l) ≤ 1024) := h
      exact h.2.2 hr
    | _ => cases hr
theorem Wd.pd {B : Nat} : ∀ {f : Nat} {d : D}, Wd B f d → ∃ p, d.pd = some p ∧ p.canLay0 = true ∧ p.depth ≤ f
  | 0, _, h => h.elim
  | f + 1, d, h => by
    have all : ∀ l : List D, (∀ x ∈ l, Wd B f x) → ∃ ps, pds l = some ps ∧ PyData.canLayAll0 ps = true ∧ PyData.depthAll ps ≤ f := by
      intro l
      induction l with
      | nil => intro _; exact ⟨[], rfl, by simp [PyData.canLayAll0], by simp [PyData.depthAll]⟩
      | cons x l ih =>
        intro h
        obtain ⟨p, h1, h2, h3⟩ := (h x (List.mem_cons_self ..)).pd
        obtain ⟨ps, h4, h5, h6⟩ := ih fun y hy => h y (List.mem_cons_of_mem _ hy)
        exact ⟨p :: ps, by simp only [pds, h1, h4], by simp [PyData.canLayAll0, h2, h5], by simp only [PyData.depthAll]; fail "m o"⟩
    cases d with
    | list l =>
      have h : l.length ≤ 64 ∧ (∀ x ∈ l, Wd B f x) ∧ (isRow B (.list l) = true → valD B (.list l) ≤ 1024) := h
      obtain ⟨ps, h1, h2, h3⟩ := all l h.2.1
      exact ⟨.list ps, congrArg (Option.map _) h1, by simpa [PyData.canLay0] using h2, by simp only [PyData.depth]; (first | fail "m r" | (clear h; omega))⟩
    | tup l =>
      obtain ⟨ps, h1, h2, h3⟩ := all l h.tup.2
      exact ⟨.tuple ps, congrArg (Option.map _) h1, by simpa [PyData.canLay0] using h2, by simp only [PyData.depth]; fail "m o"⟩
    | none => exact ⟨.none, rfl, by simp [PyData.canLay0], by simp [PyData.depth]⟩
    | bool x => exact ⟨.bool x, rfl, by simp [PyData.canLay0], by simp [PyData.depth]⟩
    | int x => exact ⟨.int x, rfl, by simp [PyData.canLay0], by simp [PyData.depth]⟩
    | str x =>
      have h : PyData.strOk x = true := h
      exact ⟨.str x, rfl, by simpa [PyData.canLay0] using h, by simp [PyData.depth]⟩
    | _ => exact h.elim
theorem Wd.pds {B f : Nat} {l : List D} (hf : f ≤ 60) (h : ∀ x ∈ l, Wd B f x) : ∃ ps, pds l = some ps ∧ SeqAt.shaped (.list ps) = true ∧ SeqAt.shaped (.tuple ps) = true ∧ ps.isEmpty = l.isEmpty := by
  have key : ∃ ps, Mine.pds l = some ps ∧ PyData.canLayAll0 ps = true ∧ PyData.depthAll ps ≤ f ∧ ps.isEmpty = l.isEmpty := by
    induction l with
    | nil => exact ⟨[], rfl, by simp [PyData.canLayAll0], by simp [PyData.depthAll], rfl⟩
    | cons x l ih =>
      obtain ⟨p, h1, h2, h3⟩ := (h x (List.mem_cons_self ..)).pd
      obtain ⟨ps, h4, h5, h6, _⟩ := ih fun y hy => h y (List.mem_cons_of_mem _ hy)
      exact ⟨p :: ps, by simp only [Mine.pds, h1, h4], by simp [PyData.canLayAll0, h2, h5], by simp only [PyData.depthAll]; (first | fail "m r" | (clear hf; omega)), rfl⟩
  obtain ⟨ps, h1, h2, h3, h4⟩ := key
  refine ⟨ps, h1, ?_, ?_, h4⟩
  · unfold SeqAt.shaped
    simp [PyData.canLay0, h2, PyData.depth]; fail "m o"
  · unfold SeqAt.shaped
    simp [PyData.canLay0, h2, PyData.depth]; fail "m o"
theorem shaped_nil : SeqAt.shaped (.list []) = true ∧ SeqAt.shaped (.tuple []) = true := by
  unfold SeqAt.shaped
  simp [PyData.canLay0, PyData.canLayAll0, PyData.depth, PyData.depthAll]
theorem eqv_nil (ps : List PyData) : PyData.eqvAll ps [] = ps.isEmpty := by cases ps <;> simp [PyData.eqvAll]
noncomputable def D.items : D → List D
  | .tup l => l
  | .list l => l
  | _ => []
noncomputable def isPairB (B : Nat) : D → Bool
  | .tup (a :: .int e :: _) => isRow B a && (decide (2 ≤ valD B a) && decide (1 ≤ e))
  | _ => false
noncomputable def toPr (B : Nat) : D → Pr
  | .tup (a :: .int e :: r) => (valD B a, e.toNat, r)
  | _ => (0, 0, [])
theorem isPairB_pair {B : Nat} (hB : 2 ≤ B) {d : D} (h : isPairB B d = true) : d = pairD B (toPr B d) ∧ 2 ≤ (toPr B d).1 ∧ 1 ≤ (toPr B d).2.1 := by
  unfold isPairB at h
  split at h
  · rename_i a e r
    simp only [Bool.and_eq_true, decide_eq_true_iff] at h
    refine ⟨?_, h.2.1, ?_⟩
    · show D.tup (a :: .int e :: r) = .tup (row B (valD B a) :: .int (e.toNat : Nat) :: r)
      rw [← isRow_row hB h.1, Int.toNat_of_nonneg (by (first | fail "m r" | (clear hB; omega)))]
    · show 1 ≤ e.toNat
      (first | fail "m r" | (clear hB; omega))
  · cases h
theorem isPairB_of {B : Nat} (hB : 2 ≤ B) (p : Pr) : isPairB B (pairD B p) = (decide (2 ≤ p.1) && decide (1 ≤ p.2.1)) ∧ toPr B (pairD B p) = p := by
  obtain ⟨x, e, r⟩ := p
  obtain ⟨h1, h2⟩ := isRow_ofRow hB x
  constructor
  · show (isRow B (row B x) && (decide (2 ≤ valD B (row B x)) && decide ((1 : Int) ≤ (e : Nat)))) = _
    rw [h1, h2, Bool.true_and]
    congr 1
    rw [Bool.eq_iff_iff, decide_eq_true_iff, decide_eq_true_iff]
    show (1 : Int) ≤ (e : Nat) ↔ 1 ≤ e
    (first | fail "m r" | (clear hB h2; omega))
  · show (valD B (row B x), (e : Int).toNat, r) = (x, e, r)
    rw [h2, Int.toNat_natCast]
noncomputable def adjB : List Nat → Bool
  | a :: b :: r => decide (a < b) && adjB (b :: r)
  | _ => true
noncomputable def lastLt (l : List Nat) (x : Nat) : Bool := match l.getLast? with
  | some a => decide (a < x)
  | none => true
theorem adjB_app (b : Nat) (r : List Nat) : ∀ l : List Nat, adjB (l ++ b :: r) = (adjB l && (lastLt l b && adjB (b :: r)))
  | [] => by simp [adjB, lastLt]
  | [a] => by simp [adjB, lastLt]
  | a :: c :: l => by
    have := adjB_app b r (c :: l)
    rw [List.cons_append] at this
    rw [List.cons_append, List.cons_append, adjB, this, adjB, Bool.and_assoc]
    have : lastLt (a :: c :: l) b = lastLt (c :: l) b := by unfold lastLt; rw [List.getLast?_cons_cons]
    rw [this]
theorem adjB_iff : ∀ l : List Nat, adjB l = true ↔ ∀ i, i < l.length - 1 → l.getD i 0 < l.getD (i + 1) 0
  | [] => by simp [adjB]
  | [a] => by simp [adjB]
  | a :: b :: r => by
    rw [adjB, Bool.and_eq_true, decide_eq_true_iff, adjB_iff (b :: r)]
    constructor
    · rintro ⟨h1, h2⟩ i hi
      cases i with
      | zero => simpa using h1
      | succ i =>
        have := h2 i (by simp at hi ⊢; fail "m o")
        simpa using this
    · intro h
      refine ⟨by simpa using h 0 (by simp), fun i hi => ?_⟩
      have := h (i + 1) (by simp at hi ⊢; fail "m o")
      simpa using this
noncomputable def goodB (B size : Nat) (x : D) : Bool := isPairB B x && decide (x.items.length = size)
noncomputable def areB (B size : Nat) : D → Bool
  | .tup l => l.all (goodB B size) && adjB (l.map fun x => (toPr B x).1)
  | _ => false
noncomputable def toldOk (B size : Nat) : D → Bool
  | .tup l => (l.all fun x => goodB B size x && decide ((toPr B x).2.1 < 100)) && adjB (l.map fun x => (toPr B x).1)
  | _ => false
section
variable {prog : Program} {w : World} {b : Heap} {C : Cx} {Γ : Vars} {σ : Store} {Q : D → Store → Prop}
theorem neNil_ {B f : Nat} {l : List D} (ok : C.Ok) (hf : f ≤ 60) (hl : ∀ x ∈ l, Wd B f x) (h : Q (.bool (!l.isEmpty)) σ) : W2 (model prog w) b C (compareOp .NotEq) (.list l) (.list []) Γ σ Q := by
  obtain ⟨ps, h1, h2, h3, h4⟩ := Wd.pds hf hl
  refine W2.ned ok (congrArg (Option.map _) h1) (by rfl) h2 shaped_nil.1 ?_
  rw [PyData.eqv, eqv_nil, h4]; exact h
theorem eqNil_ {B f : Nat} {l : List D} (ok : C.Ok) (hf : f ≤ 60) (hl : ∀ x ∈ l, Wd B f x) (h : Q (.bool l.isEmpty) σ) : W2 (model prog w) b C (compareOp .Eq) (.list l) (.list []) Γ σ Q := by
  obtain ⟨ps, h1, h2, h3, h4⟩ := Wd.pds hf hl
  refine W2.eqd ok (congrArg (Option.map _) h1) (by rfl) h2 shaped_nil.1 ?_
  rw [PyData.eqv, eqv_nil, h4]; exact h
theorem eqNilT_ {B f : Nat} {l : List D} (ok : C.Ok) (hf : f ≤ 60) (hl : ∀ x ∈ l, Wd B f x) (h : Q (.bool l.isEmpty) σ) : W2 (model prog w) b C (compareOp .Eq) (.tup l) (.tup []) Γ σ Q := by
  obtain ⟨ps, h1, h2, h3, h4⟩ := Wd.pds hf hl
  refine W2.eqd ok (congrArg (Option.map _) h1) (by rfl) h3 shaped_nil.2 ?_
  rw [PyData.eqv, eqv_nil, h4]; exact h
theorem items_up0 (n : Nat) (h : n ≤ 2 ^ 30) : Items (.range 0 ((n : Int) - 1) 1) (ups 0 (n - 1)) := by
  rcases Nat.eq_zero_or_pos n with q | q
  · subst q
    have e : Builtin.Range.rangeSize 0 (((0 : Nat) : Int) - 1) 1 = 0 := by decide
    have := Items.range 0 (((0 : Nat) : Int) - 1) 1 (small_of (by decide) (by decide) (by decide) (by decide) (.inl rfl) (by rw [e]; decide) (by rw [e]; decide))
    rw [e] at this
    exact this
  · have := iterUps (n := n - 1) (by fail "m o")
    rwa [show ((n - 1 : Nat) : Int) = (n : Int) - 1 by fail "m o"] at this
variable {k : Nat} (B : Base (hd.heap_39 w.params) b) (hk : 1 ≤ k ∧ k ≤ 9)
include B hk
theorem c_law_is_row (f : Nat) (d : D) (hd' : Wd (2 ^ k) f d) (hf : f ≤ 60) : Fn0 (model prog w) b 1 (.ref 298) [d, .int (k : Nat)] (.bool (isRow (2 ^ k) d)) := by
  have hz := sz
  refine Fn0.intro B (names := ["row", "w"]) ⟨by with_unfolding_all rfl, ?fnb, by with_unfolding_all rfl, by with_unfolding_all rfl, by decide, by with_unfolding_all rfl, by with_unfolding_all rfl, by with_unfolding_all rfl⟩ rfl (by fail "m o") (fun A L Kf hKf ok => ?_)
  case fnb => exact len2 (P := fun vs => bindArgs _ ⟨vs, []⟩ = pure (List.zip _ vs)) (fun x0 x1 => by with_unfolding_all rfl)
  dsimp only [List.zip, List.zipWith]
  fail "m"
  refine isi_ (T := .list) hd'.easy ?_
  have other : d.is .list = false → isRow (2 ^ k) d = false := by cases d <;> first | exact fun _ => rfl | exact fun q => (nomatch q)
  fail "m"
  refine ⟨fun hc => ?_, fun hc => ?_⟩
  · fail "m"
    refine .inl ?_
    rw [other (by simpa using hc)]
  cases d with
  | list l =>
    obtain ⟨f, rfl⟩ : ∃ g, f = g + 1 := by
      cases f with
      | zero => exact hd'.elim
      | succ f => exact ⟨f, rfl⟩
    have hd' : l.length ≤ 64 ∧ (∀ x ∈ l, Wd (2 ^ k) f x) ∧ (isRow (2 ^ k) (.list l) = true → valD (2 ^ k) (.list l) ≤ 1024) := hd'
    fail "m"
    refine comp_ (p := fun d => d.is .bool || !(d.is .int)) (f := id) [] [] ok ?_ (fun L' => trivial) (by with_unfolding_all rfl) trivial (by decide) (by decide) (by with_unfolding_all rfl) (by decide) (by intro _; with_unfolding_all rfl)
    fail "m"
    refine ⟨rfl, l, .list _, by fail "m o", ?_, ?_⟩
    · intro L' ok' x hx
      have ex := (hd'.2.1 x hx).easy
      refine turnIf (WAL.name ok' ?_ (by with_unfolding_all rfl))
      fail "m"
      refine isi_ (T := .bool) ex ?_
      fail "m"
      refine ⟨fun hc => ⟨rfl, by rw [hc]; rfl, fun _ => ?_⟩, fun hc => ?_⟩
      · fail "m"
        exact ⟨rfl, rfl⟩
      · fail "m"
        refine isi_ (T := .int) ex ?_
        fail "m"
        refine ⟨fun hc2 => ⟨rfl, by rw [hc, hc2]; rfl, fun _ => ?_⟩, fun hc2 => ?_⟩
        · fail "m"
          exact ⟨rfl, rfl⟩
        · fail "m"
          exact ⟨rfl, by rw [hc, hc2]; rfl, fun q => by rw [hc, hc2] at q; cases q⟩
    fail "m"
    rw [List.map_id]
    refine neNil_ (f := f) ok (by fail "m o") (fun x hx => hd'.2.1 x (List.mem_filter.mp hx).1) ?_
    fail "m"
    have allI : (∀ x ∈ l, (x.is .bool || !(x.is .int)) = false) → ∀ x ∈ l, ∃ i, x = .int i := fun h x hx => by
      have := h x hx
      cases x <;> first | exact ⟨_, rfl⟩ | first | exact ft this | exact tf this
    refine ⟨fun hc => ?_, fun hc => ?_⟩
    · fail "m"
      refine .inl ?_
      have : isRow (2 ^ k) (.list l) = false := by
        rw [isRow, Bool.and_eq_false_iff]
        fail "m"; refine .inl ?_
        rw [← Bool.not_eq_true, List.all_eq_true]
        intro q
        rw [Bool.not_eq_true', List.isEmpty_eq_false_iff] at hc
        apply hc
        rw [List.filter_eq_nil_iff]
        intro x hx
        have := (limb_nat (q x hx)).1
        rw [this]; show ¬ (false || !true) = true; decide
      rw [this]
    · rw [Bool.not_eq_false', List.isEmpty_iff, List.filter_eq_nil_iff] at hc
      have hI := allI fun x hx => by simpa using hc x hx
      fail "m"
      refine comp_ (p := fun d => !D.limb (2 ^ k) d) (f := id) [("w", L + 1)] [("w", .int (k : Nat))] ok ?_ (fun L' => ⟨⟨by with_unfolding_all rfl, .inl (by with_unfolding_all rfl), .inl (by with_unfolding_all rfl), _, by with_unfolding_all rfl, by with_unfolding_all rfl⟩, trivial⟩) (by with_unfolding_all rfl) ⟨by with_unfolding_all rfl, trivial⟩ (by dsimp only [List.map]; decide) (by decide) (by with_unfolding_all rfl) (by decide) (by intro _; with_unfolding_all rfl)
      fail "m"
      refine ⟨rfl, l, .list _, by fail "m o", ?_, ?_⟩
      · intro L' ok' x hx
        obtain ⟨i, rfl⟩ := hI x hx
        refine turnIf (WAL.name ok' ?_ (by with_unfolding_all rfl))
        fail "m"
        refine ⟨fun hc => ?_, fun hc => ?_⟩
        · refine ⟨rfl, by rw [D.limb, hc]; rfl, fun _ => ?_⟩
          fail "m"
          exact ⟨rfl, rfl⟩
        · fail "m"
          refine pow2_ (k := k) (by fail "m o") ?_
          fail "m"
          refine ⟨rfl, by rw [D.limb, hc]; rfl, fun _ => ?_⟩
          fail "m"
          exact ⟨rfl, rfl⟩
      fail "m"
      rw [List.map_id]
      refine eqNil_ (f := f) ok (by fail "m o") (fun x hx => hd'.2.1 x (List.mem_filter.mp hx).1) ?_
      fail "m"
      refine ⟨fun hc => ?_, fun hc => ?_⟩
      · fail "m"; refine .inl ?_
        rw [List.isEmpty_eq_false_iff] at hc
        have : l.all (D.limb (2 ^ k)) = false := by
          rw [← Bool.not_eq_true, List.all_eq_true]
          intro q
          apply hc
          rw [List.filter_eq_nil_iff]
          intro x hx
          rw [q x hx]; decide
        rw [isRow, this]; rfl
      · rw [List.isEmpty_iff, List.filter_eq_nil_iff] at hc
        have hc : l.all (D.limb (2 ^ k)) = true := List.all_eq_true.mpr fun x hx => by simpa using hc x hx
        obtain ⟨e1, e2⟩ := limbs_nats hc
        have len : (nats (l.map D.nat)).length = l.length := by rw [← e1]
        fail "m"
        refine eqNil_ (f := f) ok (by fail "m o") hd'.2.1 ?_
        fail "m"
        refine ⟨fun h0 => ?_, fun h0 => ?_⟩
        · rw [List.isEmpty_iff] at h0
          subst h0
          fail "m"; refine .inl ?_
          rw [isRow, hc, decide_eq_true (.inl (by rw [len]; rfl))]; rfl
        · rw [List.isEmpty_eq_false_iff] at h0
          have h0 : l.length ≠ 0 := fun q => h0 (List.length_eq_zero_iff.mp q)
          fail "m"
          obtain ⟨u, hu⟩ : ∃ u, (l.map D.nat).getLast? = some u := by
            rw [List.getLast?_eq_getElem?]
            exact ⟨_, List.getElem?_eq_getElem (by rw [List.length_map]; (first | fail "m r" | (clear hk hz hf; omega)))⟩
          have hl : l.getLast? = some (.int (u : Nat)) := by
            rw [e1, nats, List.getLast?_map, hu]; rfl
          refine W2.last hl ?_
          fail "m"
          refine .inl ?_
          rw [isRow, hc, hu]
          congr 1
          rw [Bool.true_and, Bool.eq_iff_iff, decide_eq_true_iff, decide_eq_true_iff]
          constructor
          · intro q; fail "m"; exact .inr (by simp; (first | fail "m r" | (clear hk hz hf hd' len h0; omega)))
          · rintro (q | q)
            · (first | fail "m r" | (clear hk hz hf hd'; omega))
            · simp at q; (first | fail "m r" | (clear hk hz hf hd' len h0; omega))
  | _ => first | exact ft hc | exact tf hc

theorem c_is_pair (f : Nat) (d : D) (hd' : Wd (2 ^ k) f d) : Fn0 (model prog w) b 3 (.ref 175) [d, .int (k : Nat)] (.bool (isPairB (2 ^ k) d)) := by
  have hz := sz
  have hB : 2 ≤ 2 ^ k := pow_ge hk.1
  refine Fn0.intro B (names := ["value", "w"]) ⟨by with_unfolding_all rfl, ?fnb, by with_unfolding_all rfl, by with_unfolding_all rfl, by decide, by with_unfolding_all rfl, by with_unfolding_all rfl, by with_unfolding_all rfl⟩ rfl (by fail "m o") (fun A L Kf hKf ok => ?_)
  case fnb => exact len2 (P := fun vs => bindArgs _ ⟨vs, []⟩ = pure (List.zip _ vs)) (fun x0 x1 => by with_unfolding_all rfl)
  dsimp only [List.zip, List.zipWith]
  fail "m"
  refine isi_ (T := .tuple) hd'.easy ?_
  fail "m"
  refine ⟨fun hc => ?_, fun hc => ?_⟩
  · fail "m"
    refine .inl ?_
    cases d <;> first | rfl | first | exact ft hc | exact tf hc
  cases d with
  | tup l =>
    obtain ⟨f, rfl⟩ : ∃ g, f = g + 1 := by
      cases f with
      | zero => exact hd'.elim
      | succ f => exact ⟨f, rfl⟩
    have hd' := hd'.tup
    fail "m"
    refine WV.lenT (by fail "m o") ?_
    fail "m"
    refine ⟨fun hl => ?_, fun hl => ?_⟩
    · have hl : l.length < 2 := by have := of_decide_eq_true hl; fail "m o"
      fail "m"
      refine .inl ?_
      match l, hl with
      | [], _ => rfl
      | [_], _ => rfl
    · have hl : ¬ l.length < 2 := by have := of_decide_eq_false hl; fail "m o"
      match l, hl with
      | [], hl => simp at hl
      | [_], hl => simp at hl
      | a :: e :: r, _ =>
        have ha := hd'.2 a (by simp)
        have he := hd'.2 e (by simp)
        fail "m"
        refine W2.itemT (d := a) (by decide) (by decide) rfl ?_
        fail "m"
        refine WV.fn0 ok (c_is_nat B hk a ha.okRow) (by fail "m n") ?_
        fail "m"
        refine ⟨fun hr => ?_, fun hr => ?_⟩
        · fail "m"
          refine .inl ?_
          rw [Bool.not_eq_true'] at hr
          cases e with
          | int e => rw [isPairB, hr]; rfl
          | _ => rfl
        · rw [Bool.not_eq_false'] at hr
          have hle := ha.rowLe hr
          obtain ⟨v, hv⟩ : ∃ v, a = row (2 ^ k) v := ⟨_, isRow_row hB hr⟩
          subst hv
          rw [(isRow_ofRow hB v).2] at hle
          fail "m"
          refine W2.itemT (d := row (2 ^ k) v) (by decide) (by decide) rfl ?_
          fail "m"
          rw [← row_one hB]
          refine WV.fn0 ok (c_compare B hB v 1 (by fail "m o") (by (first | fail "m r" | (clear hk hB hd' hle hz; show _ ≤ 16777216; omega)))) (by fail "m n") ?_
          fail "m"
          refine ⟨fun hc1 => ?_, fun hc1 => ?_⟩
          · have hc1 := cmpN_npos.mp (of_decide_eq_true hc1)
            fail "m"
            refine .inl ?_
            cases e with
            | int e => rw [isPairB, (isRow_ofRow hB v).2, decide_eq_false (show ¬ 2 ≤ v by (first | fail "m r" | (clear hk hz hB hd'; omega)))]; simp
            | _ => rfl
          · have hc1 : ¬ v ≤ 1 := fun z => of_decide_eq_false hc1 (cmpN_npos.mpr z)
            fail "m"
            refine W2.itemT (d := e) (by decide) (by decide) rfl ?_
            fail "m"
            refine isi_ (T := .int) he.easy ?_
            fail "m"
            refine ⟨fun h1 => ?_, fun h1 => ?_⟩
            · fail "m"; refine .inl ?_
              cases e with
              | int e => first | exact ft h1 | exact tf h1
              | _ => rfl
            · fail "m"
              refine W2.itemT (d := e) (by decide) (by decide) rfl ?_
              fail "m"
              refine isi_ (T := .bool) he.easy ?_
              fail "m"
              refine ⟨fun h2 => ?_, fun h2 => ?_⟩
              · fail "m"; refine .inl ?_
                cases e with
                | int e => first | exact ft h2 | exact tf h2
                | _ => rfl
              · cases e with
                | int e =>
                  fail "m"
                  refine W2.itemT (d := .int e) (by decide) (by decide) rfl ?_
                  fail "m"
                  refine .inl ?_
                  rw [isPairB, (isRow_ofRow hB v).2, (isRow_ofRow hB v).1, decide_eq_true (show 2 ≤ v by (first | fail "m r" | (clear hk hz hB hd'; omega)))]; rfl
                | bool x => first | exact ft h2 | exact tf h2
                | _ => first | exact ft h1 | exact tf h1
  | _ => first | exact ft hc | exact tf hc
end
noncomputable def divOut (p : Nat) : Nat → Nat → Nat → Nat × Nat
  | 0, v, m => (v, m)
  | f + 1, v, m => if v % p = 0 then divOut p f (v / p) (m + 1) else (v, m)
noncomputable def pairsF : Nat → Nat → Nat → List (Nat × Nat)
  | 0, _, v => if 1 < v then [(v, 1)] else []
  | f + 1, p, v => if p * p ≤ v then (if 0 < (divOut p v v 0).2 then [(p, (divOut p v v 0).2)] else []) ++ pairsF f (p + 1) (divOut p v v 0).1 else if 1 < v then [(v, 1)] else []
noncomputable def lawPairs (v : Nat) : List (Nat × Nat) := pairsF v 2 v
noncomputable def lawPrime (v : Nat) : Bool := decide (1 < v) && decide (lawPairs v = [(v, 1)])
noncomputable def pairND (p : Nat × Nat) : D := .tup [.int (p.1 : Nat), .int (p.2 : Nat)]
noncomputable def pairsD (l : List (Nat × Nat)) : D := .list (l.map pairND)
theorem divOut_le {p : Nat} : ∀ f v m, (divOut p f v m).1 ≤ v
  | 0, v, m => Nat.le_refl _
  | f + 1, v, m => by
    unfold divOut
    split
    · exact Nat.le_trans (divOut_le f _ _) (Nat.div_le_self _ _)
    · exact Nat.le_refl _
theorem pairsF_le : ∀ (f p v : Nat), ∀ q ∈ pairsF f p v, q.1 ≤ v
  | 0, p, v, q, h => by
    unfold pairsF at h
    split at h
    · rw [List.mem_singleton.mp h]; exact Nat.le_refl _
    · simp at h
  | f + 1, p, v, q, h => by
    unfold pairsF at h
    split at h
    · rename_i hp
      have h1 : p ≤ v := Nat.le_trans (by rcases Nat.eq_zero_or_pos p with z | z
                                          · subst z; exact Nat.zero_le _
                                          · exact Nat.le_mul_of_pos_left _ z) hp
      rcases List.mem_append.mp h with h | h
      · split at h
        · rw [List.mem_singleton.mp h]; exact h1
        · simp at h
      · exact Nat.le_trans (pairsF_le f _ _ q h) (divOut_le _ _ _)
    · split at h
      · rw [List.mem_singleton.mp h]; exact Nat.le_refl _
      · simp at h
theorem pairsF_len : ∀ (f p v : Nat), (pairsF f p v).length ≤ f + 1
  | 0, p, v => by unfold pairsF; split <;> simp
  | f + 1, p, v => by
    unfold pairsF
    split
    · rw [List.length_append]
      have := pairsF_len f (p + 1) (divOut p v v 0).1
      have : (if 0 < (divOut p v v 0).2 then [(p, (divOut p v v 0).2)] else []).length ≤ 1 := by split <;> simp
      fail "m o"
    · split <;> simp
noncomputable def pairPD (p : Nat × Nat) : PyData := .tuple [.int (p.1 : Nat), .int (p.2 : Nat)]
theorem pds_pairs : ∀ l : List (Nat × Nat), pds (l.map pairND) = some (l.map pairPD)
  | [] => rfl
  | x :: l => by
    have := pds_pairs l
    simp only [List.map_cons, pds, this]
    rfl
theorem eqv_pairs : ∀ l m : List (Nat × Nat), PyData.eqvAll (l.map pairPD) (m.map pairPD) = decide (l = m)
  | [], [] => rfl
  | [], _ :: _ => rfl
  | _ :: _, [] => rfl
  | x :: l, y :: m => by
    simp only [List.map_cons, PyData.eqvAll, PyData.eqv, eqv_pairs l m, pairPD]
    rw [Bool.eq_iff_iff]
    simp only [Bool.and_eq_true, decide_eq_true_iff, beq_iff_eq, List.cons.injEq, Int.natCast_inj, and_true]
    rw [Prod.ext_iff]
theorem shaped_pairs (l : List (Nat × Nat)) : SeqAt.shaped (.list (l.map pairPD)) = true := by
  have h1 : ∀ l : List (Nat × Nat), PyData.canLayAll0 (l.map pairPD) = true := by
    intro l
    induction l with
    | nil => simp [PyData.canLayAll0]
    | cons x l ih => simp [PyData.canLayAll0, PyData.canLay0, ih, pairPD]
  have h2 : ∀ l : List (Nat × Nat), PyData.depthAll (l.map pairPD) ≤ 1 := by
    intro l
    induction l with
    | nil => simp [PyData.depthAll]
    | cons x l ih => simp [PyData.depthAll, PyData.depth, pairPD]; fail "m o"
  unfold SeqAt.shaped
  have := h2 l
  simp [PyData.canLay0, h1, PyData.depth]
  fail "m o"
theorem pd_pairs (l : List (Nat × Nat)) : (pairsD l).pd = some (.list (l.map pairPD)) := by
  exact congrArg (Option.map PyData.list) (pds_pairs l)
theorem bits_pow {x e : Nat} (h : x < 2 ^ e) : Builtin.Int.intBits (x : Int) ≤ e := by
  unfold Builtin.Int.intBits
  split
  · (first | fail "m r" | (clear h; omega))
  · rename_i hm
    have hm : x ≠ 0 := by intro q; subst q; exact hm rfl
    rw [Int.natAbs_natCast]
    have := (Nat.log2_lt hm).mpr h
    (first | fail "m r" | (clear h hm; omega))
noncomputable def prodN : List (Nat × Nat) → Nat
  | [] => 1
  | p :: r => p.1 ^ p.2 * prodN r
noncomputable def totalN : List Int → Nat → Nat
  | [], g => g
  | x :: l, g => totalN l (g * 65536 + x.natAbs % 65536)
noncomputable def tzN : Nat → Nat → Nat
  | 0, _ => 0
  | f + 1, v => if v % 2 = 0 then tzN f (v / 2) + 1 else 0
theorem tzN_ok : ∀ f v, 0 < v → v ≤ f → 2 ^ tzN f v * (v / 2 ^ tzN f v) = v ∧ v / 2 ^ tzN f v % 2 = 1
  | 0, v, h1, h2 => by fail "m o"
  | f + 1, v, h1, h2 => by
    unfold tzN
    split
    · rename_i h
      obtain ⟨h3, h4⟩ := tzN_ok f (v / 2) (by (first | fail "m r" | (clear h2; omega))) (by fail "m o")
      rw [Nat.pow_succ, Nat.mul_comm _ 2, ← Nat.div_div_eq_div_mul]
      refine ⟨?_, h4⟩
      rw [Nat.mul_assoc, h3]; (first | fail "m r" | (clear h1 h2 h3 h4; omega))
    · rw [Nat.pow_zero, Nat.div_one]
      (first | fail "m r" | (clear h1 h2; omega))
noncomputable def strongB (n a : Nat) : Bool := decide (a ^ ((n - 1) / 2 ^ tzN n (n - 1)) % n ≠ 1) && (List.range (tzN n (n - 1))).all fun i => decide (a ^ ((n - 1) / 2 ^ tzN n (n - 1) * 2 ^ i) % n ≠ n - 1)
noncomputable def shownB (n : Nat) (s : Str) (a : Nat) : Bool :=
  if 2 ≤ a ∧ a < n then
    if s = Str.ofString "factor" then decide (n % a = 0)
    else if s = Str.ofString "fermat" then decide (a ^ (n - 1) % n ≠ 1)
    else if s = Str.ofString "root" then decide (a * a % n = 1) && decide (a ≠ n - 1)
    else if s = Str.ofString "strong" then decide (n % 2 ≠ 0) && strongB n a
    else false
  else false
section
variable {prog : Program} {w : World} {b : Heap} {C : Cx} {Γ : Vars} {σ : Store} {Q : D → Store → Prop}
theorem eqPairs_ {l m : List (Nat × Nat)} (ok : C.Ok) (h : Q (.bool (decide (l = m))) σ) : W2 (model prog w) b C (compareOp .Eq) (pairsD l) (pairsD m) Γ σ Q := by
  refine W2.eqd ok (pd_pairs l) (pd_pairs m) (shaped_pairs l) (shaped_pairs m) ?_
  rw [PyData.eqv, eqv_pairs]; exact h
variable {k : Nat} (B : Base (hd.heap_39 w.params) b) (hk : 1 ≤ k ∧ k ≤ 9)
include B
theorem c_take (bx : Addr) (t c m : Nat) (hm : 0 < m) (hm2 : m < 2 ^ 29) : Fn (model prog w) b 1 (.ref 272) [.raw (.ref bx), .int (m : Nat)] [(bx, [.int (t : Nat), .int (c : Nat)])] fun d σ' => ∃ l', σ' = [(bx, l')] ∧ ∃ r t' : Nat, r < m ∧ d = .int (r : Nat) ∧ l' = [.int (t' : Nat), .int ((c + 1 : Nat) : Int)] ∧ t' ≤ t := by
  refine Fn.introB B (names := ["box", "many"]) ⟨by with_unfolding_all rfl, ?fnb, by with_unfolding_all rfl, by with_unfolding_all rfl, by decide, by with_unfolding_all rfl, by with_unfolding_all rfl, by with_unfolding_all rfl⟩ rfl (by fail "m o") (fun A L Kf hKf ok => ?_)
  case fnb => exact len2 (P := fun vs => bindArgs _ ⟨vs, []⟩ = pure (List.zip _ vs)) (fun x0 x1 => by with_unfolding_all rfl)
  dsimp only [List.zip, List.zipWith]
  refine WS.cons (WX.setP ?_ (by with_unfolding_all rfl))
  fail "m"
  refine W2.itemP (by decide) (by decide) rfl ?_
  fail "m"
  refine ⟨_, _, rfl, rfl, rfl, by decide, by decide, by simp, ?_⟩
  fail "m"
  refine W2.itemP (by decide) (by decide) rfl ?_
  fail "m"
  refine ⟨fun hc => ?_, fun hc => ?_⟩
  · have hc : 0 < t := by have := of_decide_eq_true hc; fail "m o"
    fail "m"
    refine W2.itemP (by decide) (by decide) rfl ?_
    fail "m"
    refine modN_ hm ?_
    fail "m"
    refine WX.setP ?_ (by with_unfolding_all rfl)
    fail "m"
    refine W2.itemP (by decide) (by decide) rfl ?_
    fail "m"
    refine divN_ hm (by (first | fail "m r" | (clear hc; omega))) ?_
    fail "m"
    refine ⟨_, _, rfl, rfl, rfl, by decide, by decide, by simp, ?_⟩
    fail "m"
    exact ⟨_, rfl, t % m, t / m, Nat.mod_lt _ hm, rfl, by simp, Nat.div_le_self _ _⟩
  · fail "m"
    refine W2.itemP (by decide) (by decide) rfl ?_
    fail "m"
    refine W2.mul (.of_right (by decide)) ?_
    fail "m"
    refine W2.itemP (by decide) (by decide) rfl ?_
    fail "m"
    rw [show ((c : Int) + 1) = ((c + 1 : Nat) : Int) by fail "m o"]
    refine divN_ (y := 5) (by decide) (by decide) ?_
    fail "m"
    rw [show ((c + 1 : Nat) : Int) * 7 + (((c + 1) / 5 : Nat) : Int) = (((c + 1) * 7 + (c + 1) / 5 : Nat) : Int) by (first | fail "m r" | (clear hm hm2; omega))]
    refine modN_ hm ?_
    fail "m"
    exact ⟨_, rfl, _, t, Nat.mod_lt _ hm, rfl, by simp, Nat.le_refl _⟩
theorem c_total (l : List Int) (hl : l.length ≤ 2 ^ 20) : Fn0 (model prog w) b 1 (.ref 279) [.list (l.map .int)] (.int (totalN (l.take 24).reverse 0 : Nat)) := by
  have hz := sz
  refine Fn0.intro B (names := ["script"]) ⟨by with_unfolding_all rfl, ?fnb, by with_unfolding_all rfl, by with_unfolding_all rfl, by decide, by with_unfolding_all rfl, by with_unfolding_all rfl, by with_unfolding_all rfl⟩ rfl (by fail "m o") (fun A L Kf hKf ok => ?_)
  case fnb => exact len1 (P := fun vs => bindArgs _ ⟨vs, []⟩ = pure (List.zip _ vs)) (fun x0 => by with_unfolding_all rfl)
  dsimp only [List.zip, List.zipWith]
  fail "m"
  refine forI_ (fun xs Γ σ => ∃ todo g, σ = [] ∧ xs = todo.map .int ∧ Has Γ "great" (.int (g : Nat)) ∧ totalN todo g = totalN (l.take 24).reverse 0) ok ?_ ?_ ?_
  · fail "m"
    refine W2.sliceL (by decide) (by rw [List.length_map]; fail "m o") ?_
    rw [show (some (24 : Int)) = some ((24 : Nat) : Int) from rfl, pick_over]
    fail "m"
    refine W2.sliceL (by decide) (by rw [List.length_take]; (first | fail "m r" | (clear hl hz; show _ ≤ 16777216; omega))) ?_
    rw [pick_rev, ← List.map_take, ← List.map_reverse]
    exact ⟨_, .list _, _, 0, rfl, rfl, rfl, rfl⟩
  · refine fun e xs J hJ Γ => st2 (fun todo g => an3 fun he h1 h2 => ?_)
    cases todo with
    | nil => cases he
    | cons x todo =>
      cases he
      refine WA.name ok ?_
      fail "m"
      refine W2.mul (.of_right (by decide)) ?_
      fail "m"
      refine modN_ (y := 65536) (by decide) ?_
      fail "m"
      refine ⟨todo, g * 65536 + x.natAbs % 65536, rfl, rfl, ?_, h2⟩
      show _ = _
      rw [Int.natCast_add, Int.natCast_mul]; rfl
  · refine fun Γ => st2 (fun todo g => an3 fun he h1 h2 => ?_)
    have : todo = [] := by simpa using he.symm
    subst this
    fail "m"
    rw [← h2]
    fail "m"; exact Ends0.ret
theorem c_law_pairs (v : Nat) (hv : v ≤ 2 ^ 20) : Fn0 (model prog w) b 1 (.ref 340) [.int (v : Nat)] (pairsD (lawPairs v)) := by
  have hz := sz
  refine Fn0.intro B (names := ["value"]) ⟨by with_unfolding_all rfl, ?fnb, by with_unfolding_all rfl, by with_unfolding_all rfl, by decide, by with_unfolding_all rfl, by with_unfolding_all rfl, by with_unfolding_all rfl⟩ rfl (by fail "m o") (fun A L Kf hKf ok => ?_)
  case fnb => exact len1 (P := fun vs => bindArgs _ ⟨vs, []⟩ = pure (List.zip _ vs)) (fun x0 => by with_unfolding_all rfl)
  dsimp only [List.zip, List.zipWith]
  fail "m"
  fail "m t"
  fail "m"
  refine ⟨_, rfl, rfl, ?_⟩
  fail "m"
  refine whileI_ (fun f Γ σ => ∃ p v' done, σ = [] ∧ Has Γ "found" (pairsD done) ∧ Has Γ "prime" (.int (p : Nat)) ∧ Has Γ "value" (.int (v' : Nat)) ∧ 2 ≤ p ∧ p + f ≤ v + 2 ∧ v' < (p + f) * (p + f) ∧ v' ≤ v ∧ done.length ≤ p ∧ done ++ pairsF f p v' = lawPairs v) ⟨v, 2, v, [], rfl, rfl, rfl, rfl, by (first | fail "m r" | (clear hv hz; omega)), by (first | fail "m r" | (clear hv hz; omega)), ?_, Nat.le_refl _, by simp, rfl⟩ ?_
  · rw [Nat.mul_add]; have := Nat.le_mul_of_pos_left v (show 0 < 2 + v by (first | fail "m r" | (clear hz; omega))); (first | fail "m r" | (clear hz this; omega))
  refine fun f J hJ Γ => st3 (fun p v' done => an9 fun h1 h2 h3 h4 hpf h5 h6 h7 h8 => ?_)
  fail "m"
  have fin : ∀ (h : pairsF f p v' = if 1 < v' then [(v', 1)] else []), lawPairs v = done ++ if 1 < v' then [(v', 1)] else [] := fun h => by rw [← h8, h]
  have hpz : p ≤ 2 ^ 30 := by (first | fail "m r" | (clear hz h4 h5 h6 h7; omega))
  refine W2.mul (.of_left (bits_le (e := 30) hpz)) ?_
  fail "m"
  refine ⟨fun hc => ?_, fun hc => ?_⟩
  · have hc : p * p ≤ v' := by have := of_decide_eq_true hc; rw [← Int.natCast_mul] at this; (first | fail "m r" | (clear hv hz h4 hpf h5 h6 h7 hpz; omega))
    have hp2 : p ≤ v' := Nat.le_trans (Nat.le_mul_of_pos_left _ (by (first | fail "m r" | (clear hv hz hpf h5 h6 h7 hc; omega)))) hc
    obtain ⟨g, rfl⟩ : ∃ g, f = g + 1 := by
      cases f with
      | zero => rw [Nat.add_zero] at h5; (first | fail "m r" | (clear hv hz h4 h6 h7 hpz hp2 hpf; omega))
      | succ g => exact ⟨g, rfl⟩
    rw [pairsF, if_pos hc] at h8
    clear fin
    generalize hVM : divOut p v' v' 0 = VM at *
    fail "m"
    refine whileI_ (fun u Γ σ => ∃ g' m, σ = [] ∧ Has Γ "found" (pairsD done) ∧ Has Γ "prime" (.int (p : Nat)) ∧ Has Γ "value" (.int (u : Nat)) ∧ Has Γ "many" (.int (m : Nat)) ∧ 0 < u ∧ u ≤ g' ∧ u ≤ v' ∧ divOut p g' u m = VM) ⟨v', v', 0, rfl, h1, h2, h3, rfl, by (first | fail "m r" | (clear hv hz h6 h7 hc hpf h5; omega)), Nat.le_refl _, Nat.le_refl _, hVM⟩ ?_
    refine fun u J hJ Γ => st2 (fun g' m => an8 fun i1 i2 i3 i4 i5 i6 i7 i8 => ?_)
    obtain ⟨g', rfl⟩ : ∃ j, g' = j + 1 := ⟨g' - 1, by (first | fail "m r" | (clear hv hz h4 h6 h7 hpz hc hp2 hpf h5 i7; omega))⟩
    rw [divOut] at i8
    fail "m"
    refine modN_ (by (first | fail "m r" | (clear hv hz h6 h7 hc hp2 hpf h5 i5 i7 i6; omega))) ?_
    fail "m"
    refine ⟨fun hd => ?_, fun hd => ?_⟩
    · have hd : u % p = 0 := by have := of_decide_eq_true hd; fail "m o"
      rw [if_pos hd] at i8
      refine WS.cons ?_
      fail "m t"
      fail "m"
      refine divN_ (by (first | fail "m r" | (clear hv hz h6 h7 hc hp2 hpf h5 i5 i7 i6 hd; omega))) (by (first | fail "m r" | (clear hz h7 hc hpf h5 i5 i7 i6 hd; omega))) ?_
      fail "m"
      refine ⟨_, rfl, rfl, ?_⟩
      fail "m"
      have hlt : u / p < u := Nat.div_lt_self i5 (by (first | fail "m r" | (clear hv hz h6 h7 hc hp2 hpf h5 i5 i7 i6 hd; omega)))
      have hpos : 0 < u / p := Nat.div_pos (Nat.le_of_dvd i5 (Nat.dvd_of_mod_eq_zero hd)) (by (first | fail "m r" | (clear hv hz h6 h7 hc hp2 hpf h5 i5 i7 i6 hd hlt; omega)))
      exact ⟨u / p, hlt, g', m + 1, rfl, i1, i2, rfl, rfl, hpos, by (first | fail "m r" | (clear hv hz h4 h6 h7 hpz hc hp2 hpf h5 i5 i7 hd hpos; omega)), by (first | fail "m r" | (clear hv hz h4 h6 h7 hpz hc hp2 hpf h5 i5 i6 hd hpos; omega)), i8⟩
    · have hd : ¬ u % p = 0 := by have := of_decide_eq_false hd; fail "m o"
      rw [if_neg hd] at i8
      subst i8
      fail "m i"
      have dl : (done.map pairND).length ≤ p := by rw [List.length_map]; exact h7
      have pz : p ≤ 2 ^ 20 := by (first | fail "m r" | (clear hz h7 hc hpf h5 i5 i7 i6 hd dl; omega))
      refine WE.mono (Q := fun d σ' => d = pairsD (if 0 < m then [(p, m)] else []) ∧ σ' = []) ?_ ?_
      · fail "m"
        refine ⟨fun hc => ?_, fun hc => ?_⟩
        · have hc : 0 < m := by have := of_decide_eq_true hc; fail "m o"
          fail "m"
          rw [if_pos hc]
          exact ⟨rfl, rfl⟩
        · have hc : ¬ 0 < m := by have := of_decide_eq_false hc; (first | fail "m r" | (clear hv hz h4 h6 h7 hpz hp2 hpf h5 i5 i7 i6 hd dl pz; omega))
          fail "m"
          rw [if_neg hc]
          exact ⟨rfl, rfl⟩
      rintro _ _ ⟨rfl, rfl⟩
      have l1 : (if 0 < m then [(p, m)] else []).length ≤ 1 := by split <;> simp
      refine W2.addList (by rw [List.length_map, List.length_map]; (first | fail "m r" | (clear h4 hpz hc hpf h5 i5 i7 i6 hd dl pz hz; show _ ≤ 16777216; omega))) ?_
      rw [← List.map_append]
      fail "m"
      refine ⟨g, by fail "m o", p + 1, u, _, rfl, rfl, rfl, i3, by (first | fail "m r" | (clear hv hz h6 h7 hc hp2 hpf h5 i5 i7 i6 hd dl l1; omega)), by (first | fail "m r" | (clear hv hz h4 h6 h7 hpz hc hp2 h5 i5 i7 i6 hd dl pz l1; omega)), ?_, by (first | fail "m r" | (clear hv hz h4 h7 hpz hc hp2 hpf h5 i5 i6 hd dl pz l1; omega)), ?_, ?_⟩
      · rw [show p + 1 + g = p + (g + 1) by (first | fail "m r" | (clear hv hz h4 h6 h7 hpz hc hp2 hpf h5 i5 i7 i6 hd dl pz l1; omega))]; (first | fail "m r" | (clear hv hz h4 h6 h7 hpz hc hp2 hpf i5 i6 hd dl pz l1; omega))
      · rw [List.length_append]; (first | fail "m r" | (clear hv hz h4 h6 hpz hc hp2 hpf h5 i5 i7 i6 hd dl pz; omega))
      · rw [List.append_assoc]; exact h8
  · have hc : ¬ p * p ≤ v' := by have := of_decide_eq_false hc; rw [← Int.natCast_mul] at this; (first | fail "m r" | (clear hv hz h4 hpf h5 h6 h7 hpz; omega))
    have fin := fin (by
      cases f with
      | zero => rfl
      | succ f => rw [pairsF, if_neg hc])
    have dl : done.length ≤ 2 ^ 21 := by
      have := congrArg List.length fin
      rw [List.length_append] at this
      have := pairsF_len v 2 v
      unfold lawPairs at *
      (first | fail "m r" | (clear hz h4 hpf h5 h6 h7 hpz hc; omega))
    fail "m i"
    refine WE.mono (Q := fun d σ' => d = pairsD (if 1 < v' then [(v', 1)] else []) ∧ σ' = []) ?_ ?_
    · fail "m"
      refine ⟨fun hc => ?_, fun hc => ?_⟩
      · have hc : 1 < v' := by have := of_decide_eq_true hc; fail "m o"
        fail "m"
        rw [if_pos hc]
        exact ⟨rfl, rfl⟩
      · have hc : ¬ 1 < v' := by have := of_decide_eq_false hc; (first | fail "m r" | (clear hv hz h4 hpf h5 h6 h7 hpz dl; omega))
        fail "m"
        rw [if_neg hc]
        exact ⟨rfl, rfl⟩
    rintro _ _ ⟨rfl, rfl⟩
    have l1 : (if 1 < v' then [(v', 1)] else []).length ≤ 1 := by split <;> simp
    refine W2.addList (by rw [List.length_map, List.length_map]; (first | fail "m r" | (clear h4 h5 h6 hpz hc hz; show _ ≤ 16777216; omega))) ?_
    rw [← List.map_append, ← fin]
    fail "m"
    exact Ends0.ret
theorem c_law_is_prime (v : Nat) (hv : v ≤ 2 ^ 20) : Fn0 (model prog w) b 2 (.ref 347) [.int (v : Nat)] (.bool (lawPrime v)) := by
  refine Fn0.intro B (names := ["value"]) ⟨by with_unfolding_all rfl, ?fnb, by with_unfolding_all rfl, by with_unfolding_all rfl, by decide, by with_unfolding_all rfl, by with_unfolding_all rfl, by with_unfolding_all rfl⟩ rfl (by fail "m o") (fun A L Kf hKf ok => ?_)
  case fnb => exact len1 (P := fun vs => bindArgs _ ⟨vs, []⟩ = pure (List.zip _ vs)) (fun x0 => by with_unfolding_all rfl)
  dsimp only [List.zip, List.zipWith]
  fail "m"
  refine ⟨fun hc => ?_, fun hc => ?_⟩
  · fail "m"; refine .inl ?_
    rw [lawPrime, decide_eq_false (show ¬ 1 < v by have := of_decide_eq_false hc; fail "m o")]; rfl
  · fail "m"
    refine WV.fn0 ok (c_law_pairs B v hv) (by fail "m n") ?_
    fail "m"
    refine eqPairs_ (m := [(v, 1)]) ok ?_
    fail "m"; refine .inl ?_
    rw [lawPrime, decide_eq_true (show 1 < v by have := of_decide_eq_true hc; fail "m o")]; rfl
theorem c_law_steps (ps : List (Nat × Nat)) (hl : ps.length ≤ 1000) (hps : ∀ p ∈ ps, p.1 ≤ 1024 ∧ p.2 < 100) : Fn0 (model prog w) b 1 (.ref 359) [pairsD ps] (.int (prodN ps : Nat)) := by
  have hz := sz
  refine Fn0.intro B (names := ["pairs"]) ⟨by with_unfolding_all rfl, ?fnb, by with_unfolding_all rfl, by with_unfolding_all rfl, by decide, by with_unfolding_all rfl, by with_unfolding_all rfl, by with_unfolding_all rfl⟩ rfl (by fail "m o") (fun A L Kf hKf ok => ?_)
  case fnb => exact len1 (P := fun vs => bindArgs _ ⟨vs, []⟩ = pure (List.zip _ vs)) (fun x0 => by with_unfolding_all rfl)
  dsimp only [List.zip, List.zipWith]
  fail "m"
  refine forI_ (fun xs Γ σ => ∃ todo f, σ = [] ∧ xs = todo.map pairND ∧ (∀ p ∈ todo, p.1 ≤ 1024 ∧ p.2 < 100) ∧ todo.length ≤ 1000 ∧ Has Γ "found" (.int (f : Nat)) ∧ f * prodN todo = prodN ps ∧ f ≤ 2 ^ (1000 * (1000 - todo.length))) ok ?_ ?_ ?_
  · fail "m"
    exact ⟨_, .list _, ps, 1, rfl, rfl, hps, hl, rfl, by simp, Nat.pow_pos (by decide)⟩
  · refine fun e xs J hJ Γ => st2 (fun todo f => an6 fun he h1 h2 h3 h4 h5 => ?_)
    cases todo with
    | nil => cases he
    | cons p todo =>
      cases he
      obtain ⟨q1, q2⟩ := h1 p (List.mem_cons_self ..)
      have e1 : p.1 ^ p.2 ≤ 2 ^ 990 := by
        refine Nat.le_trans (Nat.pow_le_pow_left q1 _) ?_
        rw [show (1024 : Nat) = 2 ^ 10 by decide, ← Nat.pow_mul]
        exact Nat.pow_le_pow_right (by decide) (by (first | fail "m r" | (clear hl hz h2 h4 h5 q1; omega)))
      refine WA.tup ok rfl rfl (by with_unfolding_all rfl) ?_
      dsimp only [bindAll]
      fail "m"
      refine W2.pow (by fail "m o") ?_ ?_
      · have := bits_le (e := 10) q1
        have h : (Builtin.Int.intBits (p.1 : Int) : Int) * (p.2 : Int) ≤ 64 * 100 := Int.mul_le_mul (by (first | fail "m r" | (clear hl hz h2 h4 h5 q1 q2 e1; omega))) (by (first | fail "m r" | (clear hl hz h2 h4 h5 q1 e1 this; omega))) (by fail "m o") (by (first | fail "m r" | (clear hl hz h2 h4 h5 q1 q2 e1 this; omega)))
        (first | fail "m r" | (clear hl hz h2 h4 h5 q1 q2 e1 this; omega))
      have e2 : ((p.1 : Int) ^ ((p.2 : Int)).toNat) = ((p.1 ^ p.2 : Nat) : Int) := by simp
      rw [e2]
      rw [List.length_cons] at h2 h5
      refine W2.mul ?_ ?_
      · have b1 : Builtin.Int.intBits (f : Int) ≤ 1000 * 1000 + 1 := bits_pow (Nat.lt_of_le_of_lt h5 (Nat.pow_lt_pow_right (by decide) (by (first | fail "m r" | (clear hl hz h4 h5 q1 q2 e1 e2; omega)))))
        have b2 : Builtin.Int.intBits ((p.1 ^ p.2 : Nat) : Int) ≤ 991 := bits_pow (Nat.lt_of_le_of_lt e1 (Nat.pow_lt_pow_right (by decide) (by fail "m o")))
        unfold IntMulOk
        have : Builtin.Int.intTooBig (Builtin.Int.intBits (f : Int) + Builtin.Int.intBits ((p.1 ^ p.2 : Nat) : Int)) = false := by
          unfold Builtin.Int.intTooBig
          have : bitsLine = 134217728 := by decide
          rw [this]
          exact decide_eq_false (by (first | fail "m r" | (clear hl hz h2 h4 h5 q1 q2 e1 e2 this; omega)))
        rw [this]; simp
      fail "m"
      refine ⟨todo, f * p.1 ^ p.2, rfl, rfl, fun q hq => h1 q (List.mem_cons_of_mem _ hq), by fail "m o", ?_, ?_, ?_⟩
      · show _ = _
        rw [Int.natCast_mul]; rfl
      · rw [← h4, prodN, Nat.mul_assoc]
      · refine Nat.le_trans (Nat.mul_le_mul h5 e1) ?_
        rw [← Nat.pow_add]
        exact Nat.pow_le_pow_right (by decide) (by (first | fail "m r" | (clear hl hz h4 h5 q1 q2 e1 e2; omega)))
  · refine fun Γ => st2 (fun todo f => an6 fun he h1 h2 h3 h4 h5 => ?_)
    have : todo = [] := by simpa using he.symm
    subst this
    rw [prodN, Nat.mul_one] at h4
    subst h4
    fail "m"
    exact Ends0.ret
end
noncomputable def toolsD : D := .inst 112 [(Str.ofString "mul", .ref 305), (Str.ofString "divrem", .ref 312), (Str.ofString "power", .ref 319), (Str.ofString "gcd", .ref 333), (Str.ofString "factor", .ref 352)]
noncomputable def factorPs (v : Nat) : List Pr := (lawPairs v).map fun p => (p.1, p.2, [])
noncomputable def orderB (n a : Nat) (ps : List Pr) : Bool := decide (a ^ (n - 1) % n = 1) && (List.range ps.length).all fun i => decide (a ^ prodW i 0 ps % n ≠ 1)
noncomputable def boundD (B n : Nat) (ps : List Pr) : D := if prodL ps ≤ n then row B (prodL ps) else .none
noncomputable def partB (n a p : Nat) : Bool := decide (a ^ (n - 1) % n = 1) && (decide (a ^ ((n - 1) / p) % n ≠ 0) && decide (Nat.gcd (a ^ ((n - 1) / p) % n - 1) n = 1))
noncomputable def restsL (B n a t q : Nat) : List D := (List.range t).map fun i => row B (a ^ (q * 2 ^ i) % n)
theorem sq_mod {n a q i : Nat} : a ^ (q * 2 ^ i) % n * (a ^ (q * 2 ^ i) % n) % n = a ^ (q * 2 ^ (i + 1)) % n := by
  rw [← Nat.mul_mod, ← Nat.pow_add]
  congr 2
  rw [Nat.pow_succ, ← Nat.mul_assoc]; fail "m o"
theorem rests_succ {B n a t q : Nat} : restsL B n a (t + 1) q = restsL B n a t q ++ [row B (a ^ (q * 2 ^ t) % n)] := by
  unfold restsL
  rw [List.range_succ, List.map_append]; rfl
section
variable {prog : Program} {w : World} {b : Heap} {C : Cx} {Γ : Vars} {σ : Store} {Q : D → Store → Prop}
theorem lenSeq_ {dl : D} {l : List D} (hd : dl = .list l ∨ dl = .tup l) (hz : l.length ≤ sizeLine) (q : Q (.int l.length) σ) : WV (model prog w) b C (fun vs => call (.builtin "len") vs []) [dl] Γ σ Q := by
  rcases hd with rfl | rfl
  · exact WV.lenL hz q
  · exact WV.lenT hz q
variable {k : Nat} (B : Base (hd.heap_39 w.params) b) (hk : 1 ≤ k ∧ k ≤ 9)
include B hk
theorem c_law_factor (v : Nat) (hv : v ≤ 2 ^ 20) : Fn0 (model prog w) b 2 (.ref 352) [row (2 ^ k) v, .int (k : Nat)] (.list ((factorPs v).map (pairD (2 ^ k)))) := by
  have hB : 2 ≤ 2 ^ k := pow_ge hk.1
  have hz := sz
  have lv := Nat.le_trans (dg_len hB v) hv
  have pl := pairsF_len v 2 v
  have ple : ∀ p ∈ lawPairs v, p.1 ≤ v := pairsF_le v 2 v
  refine Fn0.intro B (names := ["row", "w"]) ⟨by with_unfolding_all rfl, ?fnb, by with_unfolding_all rfl, by with_unfolding_all rfl, by decide, by with_unfolding_all rfl, by with_unfolding_all rfl, by with_unfolding_all rfl⟩ rfl (by fail "m o") (fun A L Kf hKf ok => ?_)
  case fnb => exact len2 (P := fun vs => bindArgs _ ⟨vs, []⟩ = pure (List.zip _ vs)) (fun x0 x1 => by with_unfolding_all rfl)
  dsimp only [List.zip, List.zipWith]
  fail "m"
  refine comp_ (p := fun _ => true) (f := fun d => match d with | .tup [.int p, .int e] => .tup [row (2 ^ k) p.toNat, .int e] | d => d) [("w", L + 1)] [("w", .int (k : Nat))] ok ?_ (fun L' => ⟨⟨by with_unfolding_all rfl, .inl (by with_unfolding_all rfl), .inl (by with_unfolding_all rfl), _, by with_unfolding_all rfl, by with_unfolding_all rfl⟩, trivial⟩) (by with_unfolding_all rfl) ⟨by with_unfolding_all rfl, trivial⟩ (by dsimp only [List.map]; decide) (by decide) (by with_unfolding_all rfl) (by decide) (by intro _; with_unfolding_all rfl)
  fail "m"
  refine WV.fn0 ok (c_law_whole B hk.2 _ (by fail "m o")) (by fail "m n") ?_
  rw [val_dg hB]
  fail "m"
  refine WV.fn0 ok (c_law_pairs B v hv) (by fail "m n") ?_
  refine ⟨rfl, _, .list _, ?_, ?_, ?_⟩
  · rw [List.length_map]; unfold lawPairs; (first | fail "m r" | (clear hk hB lv hz; show _ ≤ 16777216; omega))
  · intro L' ok' x hx
    obtain ⟨p, hp, rfl⟩ := List.mem_map.mp hx
    refine turn0 (WAL.tup ok' rfl rfl (by with_unfolding_all rfl) ?_)
    dsimp only [bindAll]
    refine ⟨rfl, fun _ => ?_⟩
    fail "m"
    refine WV.fn0 ok' (c_law_row B hk _ (by have := ple p hp; (first | fail "m r" | (clear hk hB lv pl; omega)))) (by fail "m n") ?_
    fail "m"
    refine ⟨rfl, ?_⟩
    show _ = D.tup [row (2 ^ k) ((p.1 : Int).toNat), _]
    rw [Int.toNat_natCast]
  · fail "m"
    refine .inl ?_
    rw [factorPs, List.map_map, List.filter_eq_self.mpr (fun _ _ => rfl), List.map_map]
    congr 1
theorem c_has_whole_order (a n : Nat) (ps : List Pr) (dl : D) (hdl : dl = .list (ps.map (pairD (2 ^ k))) ∨ dl = .tup (ps.map (pairD (2 ^ k)))) (ha : a ≤ 2 ^ 20) (hn : 1 < n) (hn2 : n ≤ 2 ^ 20) (hlen : ps.length ≤ 2 ^ 20) (h1p : ∀ p ∈ ps, 1 ≤ p.1 ∧ p.1 ≤ sizeLine ∧ 1 ≤ p.2.1 ∧ p.2.1 ≤ 2 ^ 20) (hp : ∀ i, prodW i 0 ps ≤ sizeLine) :
    Fn0 (model prog w) b 5 (.ref 187) [row (2 ^ k) a, row (2 ^ k) n, dl, .int (k : Nat), toolsD] (.bool (orderB n a ps)) := by
  have hB : 2 ≤ 2 ^ k := pow_ge hk.1
  have hz := sz
  refine Fn0.intro B (names := ["a", "n", "pairs", "w", "tools"]) ⟨by with_unfolding_all rfl, ?fnb, by with_unfolding_all rfl, by with_unfolding_all rfl, by decide, by with_unfolding_all rfl, by with_unfolding_all rfl, by with_unfolding_all rfl⟩ rfl (by fail "m o") (fun A L Kf hKf ok => ?_)
  case fnb => exact len5 (P := fun vs => bindArgs _ ⟨vs, []⟩ = pure (List.zip _ vs)) (fun x0 x1 x2 x3 x4 => by with_unfolding_all rfl)
  dsimp only [List.zip, List.zipWith]
  refine WS.cons ?_
  fail "m t"
  unfold toolsD
  fail "m"
  refine ⟨_, rfl, rfl, ?_⟩
  fail "m"
  refine WV.fn0 ok (c_sub1 B hk n hn2 (by fail "m o")) (by fail "m n") ?_
  fail "m"
  refine WV.fn0 ok (c_law_power B hk a (n - 1) n (by fail "m o") (by (first | fail "m r" | (clear hk ha hlen hB hz; show _ ≤ 16777216; omega))) hn (by fail "m o")) (by fail "m n") ?_
  fail "m"
  refine WV.fn0 ok (c_is_one B hB _) (by fail "m n") ?_
  fail "m"
  refine ⟨fun hc => ?_, fun hc => ?_⟩
  · fail "m"
    rw [Bool.not_eq_true'] at hc
    fail "m"; exact .inl (by rw [orderB, hc]; rfl)
  rw [Bool.not_eq_false'] at hc
  fail "m"
  refine forI_ (fun xs Γ σ => ∃ i j, σ = [] ∧ xs = ups i j ∧ i + j = ps.length ∧ Has Γ "a" (row (2 ^ k) a) ∧ Has Γ "n" (row (2 ^ k) n) ∧ Has Γ "pairs" dl ∧ Has Γ "w" (.int (k : Int)) ∧ Has Γ "mul" (.raw (.ref 305)) ∧ Has Γ "power" (.raw (.ref 319)) ∧ ∀ i' < i, a ^ prodW i' 0 ps % n ≠ 1) ok ?_ ?_ ?_
  · fail "m"
    refine lenSeq_ hdl (by rw [List.length_map]; fail "m o") ?_
    fail "m"
    rw [List.length_map]
    exact ⟨_, iterUps (by fail "m o"), 0, ps.length, rfl, rfl, by fail "m o", rfl, rfl, rfl, rfl, rfl, rfl, fun i' h => absurd h (Nat.not_lt_zero _)⟩
  · refine fun e xs J hJ Γ => st2 (fun i j => an9 fun he hij h1 h2 h3 h4 h5 h6 h7 => ?_)
    cases j with
    | zero => cases he
    | succ j =>
      cases he
      refine WA.name ok ?_
      fail "m"
      refine WV.fn0 ok (c_product_of B hk ps i dl hdl h1p (hp i)) (by fail "m n") ?_
      fail "m"
      refine WV.fn0 ok (c_law_power B hk a _ n (by fail "m o") (hp i) hn (by fail "m o")) (by fail "m n") ?_
      fail "m"
      refine WV.fn0 ok (c_is_one B hB _) (by fail "m n") ?_
      fail "m"
      refine ⟨fun hq => ?_, fun hq => ?_⟩
      · have hq := of_decide_eq_true hq
        fail "m"
        refine .inl ?_
        rw [orderB, hc, Bool.true_and]
        congr 1
        symm
        rw [← Bool.not_eq_true, List.all_eq_true]
        intro q
        have := of_decide_eq_true (q i (List.mem_range.mpr (by fail "m o")))
        exact this hq
      · have hq := of_decide_eq_false hq
        fail "m"
        refine ⟨i + 1, j, rfl, rfl, by fail "m o", h1, h2, h3, h4, h5, h6, fun i' h => ?_⟩
        rcases Nat.lt_or_ge i' i with z | z
        · exact h7 i' z
        · have : i' = i := by (first | fail "m r" | (clear hk ha hn hn2 hlen hB hz hij hq; omega))
          subst this; exact hq
  · refine fun Γ => st2 (fun i j => an9 fun he hij h1 h2 h3 h4 h5 h6 h7 => ?_)
    cases j with
    | succ j => cases he
    | zero =>
      fail "m"
      refine .inl ?_
      rw [orderB, hc, Bool.true_and]
      congr 1
      symm
      rw [List.all_eq_true]
      intro i' hi
      exact decide_eq_true (h7 i' (by have := List.mem_range.mp hi; (first | fail "m r" | (clear hk ha hn hn2 hlen hB hz; omega))))
theorem c_product_bound (n : Nat) (ps : List Pr) (hn : 1 ≤ n) (hn2 : n ≤ 1024) (hlen : ps.length ≤ 2 ^ 20) (h1p : ∀ p ∈ ps, 1 ≤ p.1 ∧ p.1 ≤ 1024) :
    Fn0 (model prog w) b 3 (.ref 204) [.tup (ps.map (pairD (2 ^ k))), row (2 ^ k) n, .int (k : Nat), .raw (.ref 305)] (boundD (2 ^ k) n ps) := by
  have hB : 2 ≤ 2 ^ k := pow_ge hk.1
  have hz := sz
  refine Fn0.intro B (names := ["pairs", "n", "w", "mul"]) ⟨by with_unfolding_all rfl, ?fnb, by with_unfolding_all rfl, by with_unfolding_all rfl, by decide, by with_unfolding_all rfl, by with_unfolding_all rfl, by with_unfolding_all rfl⟩ rfl (by fail "m o") (fun A L Kf hKf ok => ?_)
  case fnb => exact len4 (P := fun vs => bindArgs _ ⟨vs, []⟩ = pure (List.zip _ vs)) (fun x0 x1 x2 x3 => by with_unfolding_all rfl)
  dsimp only [List.zip, List.zipWith]
  fail "m"
  rw [← row_one hB]
  refine forI_ (fun xs Γ σ => ∃ todo f, σ = [] ∧ xs = todo.map (pairD (2 ^ k)) ∧ (∀ p ∈ todo, 1 ≤ p.1 ∧ p.1 ≤ 1024) ∧ Has Γ "n" (row (2 ^ k) n) ∧ Has Γ "w" (.int (k : Int)) ∧ Has Γ "mul" (.raw (.ref 305)) ∧ Has Γ "found" (row (2 ^ k) f) ∧ f ≤ n ∧ f * prodL todo = prodL ps) ok ?_ ?_ ?_
  · fail "m"
    exact ⟨_, .tup _, ps, 1, rfl, rfl, h1p, rfl, rfl, rfl, rfl, hn, by simp⟩
  · refine fun e xs J hJ Γ => st2 (fun todo f => an8 fun he h1 h2 h3 h4 h5 h6 h7 => ?_)
    cases todo with
    | nil => cases he
    | cons p todo =>
      cases he
      obtain ⟨q1, q2⟩ := h1 p (List.mem_cons_self ..)
      have hr := prodL_pos todo fun q hq => (h1 q (List.mem_cons_of_mem _ hq)).1
      rw [prodL, ← Nat.mul_assoc] at h7
      refine WA.name ok ?_
      fail "m"
      refine whileI_ (fun m Γ σ => ∃ t, σ = [] ∧ t + m = p.2.1 ∧ Has Γ "pair" (pairD (2 ^ k) p) ∧ Has Γ "n" (row (2 ^ k) n) ∧ Has Γ "w" (.int (k : Int)) ∧ Has Γ "mul" (.raw (.ref 305)) ∧ Has Γ "turn" (.int (t : Nat)) ∧ Has Γ "found" (row (2 ^ k) (f * p.1 ^ t)) ∧ f * p.1 ^ t ≤ n) ⟨p.2.1, 0, rfl, by fail "m o", rfl, h2, h3, h4, rfl, by rw [Nat.pow_zero, Nat.mul_one]; exact h5, by rw [Nat.pow_zero, Nat.mul_one]; exact h6⟩ ?_
      refine fun m J hJ Γ => st1 (fun t => an8 fun htm i1 i2 i3 i4 i5 i6 i7 => ?_)
      fail "m"
      refine W2.itemT (d := .int (p.2.1 : Nat)) (by decide) (by decide) rfl ?_
      fail "m"
      refine ⟨fun hc => ?_, fun hc => ?_⟩
      · have hc : t < p.2.1 := by have := of_decide_eq_true hc; fail "m o"
        fail "m"
        refine W2.itemT (d := row (2 ^ k) p.1) (by decide) (by decide) rfl ?_
        fail "m"
        have hm : f * p.1 ^ t * p.1 ≤ sizeLine := by
          have := Nat.mul_le_mul (Nat.le_trans i7 hn2) q2
          fail "m o"
        refine WV.fn0 ok (c_law_times B hk _ _ (by (first | fail "m r" | (clear hk hlen hB h6 h7 q1 q2 hr htm hc hm hz; show _ ≤ 16777216; omega))) (by fail "m o") hm) (by fail "m n") ?_
        have e : f * p.1 ^ t * p.1 = f * p.1 ^ (t + 1) := by rw [Nat.pow_succ, Nat.mul_assoc]
        rw [e] at hm ⊢
        fail "m"
        refine WV.fn0 ok (c_compare B hB _ _ hm (by fail "m o")) (by fail "m n") ?_
        fail "m"
        refine ⟨fun hq => ?_, fun hq => ?_⟩
        · have hq := cmpN_pos.mp (of_decide_eq_true hq)
          fail "m"
          refine .inl ?_
          rw [boundD, if_neg]
          have h8 : p.1 ^ (t + 1) ≤ p.1 ^ p.2.1 := Nat.pow_le_pow_right q1 (by (first | fail "m r" | (clear hk hn hn2 hlen hB hz h6 h7 q1 q2 hr i7 hm e hq; omega)))
          have h9 : f * p.1 ^ (t + 1) ≤ f * p.1 ^ p.2.1 := Nat.mul_le_mul_left _ h8
          have h10 : f * p.1 ^ p.2.1 ≤ prodL ps := by rw [← h7]; exact Nat.le_mul_of_pos_right _ hr
          (first | fail "m r" | (clear hk hn hn2 hlen hB hz h6 h7 q1 q2 hr htm i7 hc hm h8; omega))
        · have hq : ¬ n < f * p.1 ^ (t + 1) := fun z => of_decide_eq_false hq (cmpN_pos.mpr z)
          fail "m"
          exact ⟨m - 1, by (first | fail "m r" | (clear hk hn hn2 hlen hB hz h6 h7 q1 q2 hr i7 hm e hq; omega)), t + 1, rfl, by (first | fail "m r" | (clear hk hn hn2 hlen hB hz h6 h7 q1 q2 hr i7 hm e hq; omega)), i1, i2, i3, i4, rfl, rfl, by (first | fail "m r" | (clear hk hn hn2 hlen hB hz h6 h7 q1 q2 hr htm i7 hc hm; omega))⟩
      · have hc : t = p.2.1 := by have := of_decide_eq_false hc; (first | fail "m r" | (clear hk hn hn2 hlen hB hz h6 h7 q1 q2 hr i7; omega))
        subst hc
        fail "m"
        exact ⟨todo, _, rfl, rfl, fun q hq => h1 q (List.mem_cons_of_mem _ hq), i2, i3, i4, i6, i7, h7⟩
  · refine fun Γ => st2 (fun todo f => an8 fun he h1 h2 h3 h4 h5 h6 h7 => ?_)
    have : todo = [] := by simpa using he.symm
    subst this
    rw [prodL, Nat.mul_one] at h7
    subst h7
    fail "m"
    refine .inl ?_
    rw [boundD, if_pos h6]
theorem c_steps_without (n p : Nat) (hn : 1 ≤ n) (hn2 : n ≤ 2 ^ 20) (hp : 0 < p) (hp2 : p ≤ sizeLine) : Fn0 (model prog w) b 3 (.ref 218) [row (2 ^ k) n, row (2 ^ k) p, .int (k : Nat), .raw (.ref 312)] (row (2 ^ k) ((n - 1) / p)) := by
  have hz := sz
  refine Fn0.intro B (names := ["n", "prime", "w", "divrem"]) ⟨by with_unfolding_all rfl, ?fnb, by with_unfolding_all rfl, by with_unfolding_all rfl, by decide, by with_unfolding_all rfl, by with_unfolding_all rfl, by with_unfolding_all rfl⟩ rfl (by fail "m o") (fun A L Kf hKf ok => ?_)
  case fnb => exact len4 (P := fun vs => bindArgs _ ⟨vs, []⟩ = pure (List.zip _ vs)) (fun x0 x1 x2 x3 => by with_unfolding_all rfl)
  dsimp only [List.zip, List.zipWith]
  refine WS.cons ?_
  fail "m t"
  fail "m"
  refine WV.fn0 ok (c_sub1 B hk n hn2 (by fail "m o")) (by fail "m n") ?_
  fail "m"
  refine WV.fn0 ok (c_law_parts B hk (n - 1) p (by (first | fail "m r" | (clear hk hp hp2 hz; show _ ≤ 16777216; omega))) hp hp2) (by fail "m n") ?_
  fail "m"
  refine ⟨_, rfl, rfl, ?_⟩
  fail "m"
  exact Ends0.ret
theorem c_is_partner (a n p : Nat) (ha : a ≤ 2 ^ 20) (hn : 1 < n) (hn2 : n ≤ 2 ^ 20) (hp : 0 < p) (hp2 : p ≤ sizeLine) : Fn0 (model prog w) b 4 (.ref 225) [row (2 ^ k) a, row (2 ^ k) n, row (2 ^ k) p, .int (k : Nat), toolsD] (.bool (partB n a p)) := by
  have hB : 2 ≤ 2 ^ k := pow_ge hk.1
  have hz := sz
  have hle : (n - 1) / p ≤ n := Nat.le_trans (Nat.div_le_self _ _) (by (first | fail "m r" | (clear hk ha hp hp2 hB hz; omega)))
  refine Fn0.intro B (names := ["a", "n", "prime", "w", "tools"]) ⟨by with_unfolding_all rfl, ?fnb, by with_unfolding_all rfl, by with_unfolding_all rfl, by decide, by with_unfolding_all rfl, by with_unfolding_all rfl, by with_unfolding_all rfl⟩ rfl (by fail "m o") (fun A L Kf hKf ok => ?_)
  case fnb => exact len5 (P := fun vs => bindArgs _ ⟨vs, []⟩ = pure (List.zip _ vs)) (fun x0 x1 x2 x3 x4 => by with_unfolding_all rfl)
  dsimp only [List.zip, List.zipWith]
  refine WS.cons ?_
  fail "m t"
  unfold toolsD
  fail "m"
  refine ⟨_, rfl, rfl, ?_⟩
  fail "m"
  refine WV.fn0 ok (c_sub1 B hk n hn2 (by fail "m o")) (by fail "m n") ?_
  fail "m"
  refine WV.fn0 ok (c_law_power B hk a (n - 1) n (by fail "m o") (by (first | fail "m r" | (clear hk ha hp hp2 hB hle hz; show _ ≤ 16777216; omega))) hn (by fail "m o")) (by fail "m n") ?_
  fail "m"
  refine WV.fn0 ok (c_is_one B hB _) (by fail "m n") ?_
  fail "m"
  refine ⟨fun hc => ?_, fun hc => ?_⟩
  · fail "m"
    rw [Bool.not_eq_true'] at hc
    fail "m"; exact .inl (by rw [partB, hc]; rfl)
  rw [Bool.not_eq_false'] at hc
  fail "m"
  refine WV.fn0 ok (c_steps_without B hk n p (by fail "m o") hn2 hp hp2) (by fail "m n") ?_
  fail "m"
  refine WV.fn0 ok (c_law_power B hk a _ n (by fail "m o") (by (first | fail "m r" | (clear hk ha hp hp2 hB hz; show _ ≤ 16777216; omega))) hn (by fail "m o")) (by fail "m n") ?_
  have hlt : a ^ ((n - 1) / p) % n < n := Nat.mod_lt _ (by fail "m o")
  unfold partB at hKf
  rw [hc, Bool.true_and] at hKf
  generalize a ^ ((n - 1) / p) % n = told at *
  have lt := dg_len hB told
  fail "m"
  refine lenN_ (by (first | fail "m r" | (clear hk ha hp hp2 hB hle hz; show _ ≤ 16777216; omega))) ?_
  fail "m"
  refine ⟨fun h0 => ?_, fun h0 => ?_⟩
  · have h0 : (dg (2 ^ k) told).length = 0 := by have := of_decide_eq_true h0; fail "m o"
    have : told = 0 := (dg_nil hB).mp (List.length_eq_zero_iff.mp h0)
    subst this
    fail "m"
    exact .inl rfl
  · have h0 : told ≠ 0 := by
      rintro rfl
      exact of_decide_eq_false h0 rfl
    fail "m"
    refine WV.fn0 ok (c_sub1 B hk told (by (first | fail "m r" | (clear hk ha hp hp2 hB hz hle lt h0; omega))) (by (first | fail "m r" | (clear hk ha hn hn2 hp hp2 hB hz hle hlt lt; omega)))) (by fail "m n") ?_
    fail "m"
    refine WV.fn0 ok (c_law_gcd B hk (told - 1) n (by (first | fail "m r" | (clear hk ha hp hp2 hB hle lt h0 hz; show _ ≤ 16777216; omega))) (by fail "m o") (Nat.le_trans (Nat.le_of_dvd (by fail "m o") (Nat.gcd_dvd_right _ _)) (by fail "m o"))) (by fail "m n") ?_
    fail "m"
    refine WV.fn0 ok (c_is_one B hB _) (by fail "m n") ?_
    fail "m"
    refine .inl ?_
    rw [decide_eq_true h0, Bool.true_and]
theorem c_strong_rests (a n t q : Nat) (ha : a ≤ 2 ^ 20) (hn : 1 < n) (hn2 : n ≤ 4096) (ht : 2 ^ t * q = n - 1) (hq : q % 2 = 1) : Fn0 (model prog w) b 3 (.ref 253) [row (2 ^ k) a, row (2 ^ k) n, .int (k : Nat), toolsD] (.list (restsL (2 ^ k) n a (t + 1) q)) := by
  have hB : 2 ≤ 2 ^ k := pow_ge hk.1
  have hz := sz
  have h2t : 0 < 2 ^ t := Nat.pow_pos (by decide)
  have hte : (n - 1) % 2 ^ (t + 1) = 2 ^ t := by
    rw [← ht, Nat.pow_succ, Nat.mul_mod_mul_left, hq, Nat.mul_one]
  have htq : (n - 1) / 2 ^ t = q := by rw [← ht]; exact Nat.mul_div_cancel_left _ h2t
  have htn : 2 ^ t ≤ n - 1 := by rw [← ht]; exact Nat.le_mul_of_pos_right _ (by (first | fail "m r" | (clear hk ha hn hn2 ht hB hz h2t hte htq; omega)))
  have htl : t < n := by have := Nat.lt_two_pow_self (n := t); (first | fail "m r" | (clear hk ha ht hq hB hz h2t htq; omega))
  have hqn : q ≤ n - 1 := by rw [← ht]; exact Nat.le_mul_of_pos_left _ h2t
  refine Fn0.intro B (names := ["a", "n", "w", "tools"]) ⟨by with_unfolding_all rfl, ?fnb, by with_unfolding_all rfl, by with_unfolding_all rfl, by decide, by with_unfolding_all rfl, by with_unfolding_all rfl, by with_unfolding_all rfl⟩ rfl (by fail "m o") (fun A L Kf hKf ok => ?_)
  case fnb => exact len4 (P := fun vs => bindArgs _ ⟨vs, []⟩ = pure (List.zip _ vs)) (fun x0 x1 x2 x3 => by with_unfolding_all rfl)
  dsimp only [List.zip, List.zipWith]
  refine WS.cons ?_
  fail "m t"
  unfold toolsD
  fail "m"
  refine ⟨_, rfl, rfl, ?_⟩
  fail "m"
  refine WV.fn0 ok (c_sub1 B hk n (by fail "m o") (by fail "m o")) (by fail "m n") ?_
  fail "m"
  refine WV.fn0 ok (c_trailing B hk (n - 1) t (by (first | fail "m r" | (clear hk ha ht hq hB hz h2t hte htq htn htl hqn; omega))) hte) (by fail "m n") ?_
  refine andNext (WS.cons (WX.assign ok (listP_ ?_) (by with_unfolding_all rfl) (by with_unfolding_all rfl)))
  fail "m"
  refine WV.fn0 ok (c_shift_right B hk (n - 1) t (by (first | fail "m r" | (clear hk ha ht hq hB hz h2t hte htq htn htl hqn; omega))) htn) (by fail "m n") ?_
  rw [htq]
  fail "m"
  refine WV.fn0 ok (c_law_power B hk a q n (by fail "m o") (by (first | fail "m r" | (clear hk ha ht hB h2t hte htq htn htl hz; show _ ≤ 16777216; omega))) hn (by fail "m o")) (by fail "m n") ?_
  fail "m"
  refine ⟨rfl, by fail "m n", fun x => ?_⟩
  fail "m"
  refine forI_ (fun xs Γ σ => ∃ i j, σ = [(x, restsL (2 ^ k) n a (i + 1) q)] ∧ xs = ups i j ∧ i + j = t ∧ Has Γ "n" (row (2 ^ k) n) ∧ Has Γ "w" (.int (k : Int)) ∧ Has Γ "mul" (.raw (.ref 305)) ∧ Has Γ "divrem" (.raw (.ref 312)) ∧ Has Γ "found" (.raw (.ref x))) ok ?_ ?_ ?_
  · fail "m"
    exact ⟨_, iterUps (by (first | fail "m r" | (clear hk ha ht hq hB hz h2t hte htq htn hqn; omega))), 0, t, by simp [restsL], rfl, by fail "m o", rfl, rfl, rfl, rfl, rfl⟩
  · refine fun e xs J hJ Γ => st2 (fun i j => an7 fun he hij h1 h2 h3 h4 h5 => ?_)
    cases j with
    | zero => cases he
    | succ j =>
      cases he
      have hlast : (restsL (2 ^ k) n a (i + 1) q).getLast? = some (row (2 ^ k) (a ^ (q * 2 ^ i) % n)) := by
        rw [rests_succ, List.getLast?_append]; rfl
      have hlt : a ^ (q * 2 ^ i) % n < n := Nat.mod_lt _ (by fail "m o")
      have hsq : a ^ (q * 2 ^ i) % n * (a ^ (q * 2 ^ i) % n) ≤ sizeLine := by
        have := Nat.mul_le_mul (Nat.le_of_lt hlt) (Nat.le_of_lt hlt)
        have := Nat.mul_le_mul hn2 hn2
        (first | fail "m r" | (clear hk ha hn hn2 ht hq hB h2t hte htq htn htl hqn hij hlt; omega))
      refine WA.name ok ?_
      refine WS.cons ?_
      fail "m t"
      fail "m"
      refine W2.lastP hlast ?_
      fail "m"
      refine W2.lastP hlast ?_
      fail "m"
      refine WV.fn0 ok (c_law_times B hk _ _ (by (first | fail "m r" | (clear hk ha ht hq hB h2t hte htq htn htl hqn hij hsq hz; show _ ≤ 16777216; omega))) (by (first | fail "m r" | (clear hk ha ht hq hB h2t hte htq htn htl hqn hij hsq hz; show _ ≤ 16777216; omega))) hsq) (by fail "m n") ?_
      fail "m"
      refine WV.fn0 ok (c_law_parts B hk _ n hsq (by fail "m o") (by fail "m o")) (by fail "m n") ?_
      rw [sq_mod]
      fail "m"
      refine ⟨_, rfl, rfl, ?_⟩
      dsimp only [bindAll]
      fail "m"
      refine ⟨_, rfl, by simp [restsL]; (first | fail "m r" | (clear hk ha ht hq hB h2t hte htq htn hqn hlt hsq hz; show _ ≤ 16777216; omega)), ?_⟩
      fail "m"
      exact ⟨i + 1, j, by rw [← rests_succ], rfl, by fail "m o", h1, h2, h3, h4, h5⟩
  · refine fun Γ => st2 (fun i j => an7 fun he hij h1 h2 h3 h4 h5 => ?_)
    cases j with
    | succ j => cases he
    | zero =>
      have : i = t := by (first | fail "m r" | (clear hk ha hn hn2 ht hq hB hz h2t hte htq htn htl hqn; omega))
      subst this
      fail "m"
      exact .inr ⟨x, _, rfl, by simp, rfl⟩
end
noncomputable def toldD (B size : Nat) : D → D
  | .tup l => if toldOk B size (.tup l) = true then pairsD (l.map fun x => ((toPr B x).1, (toPr B x).2.1)) else .none
  | _ => .none
theorem getD_map {α : Type} (g : α → Nat) {l : List α} {i : Nat} {x : α} (h : l[i]? = some x) : (l.map g).getD i 0 = g x := by
  simp [List.getD, List.getElem?_map, h]
section
variable {prog : Program} {w : World} {b : Heap} {C : Cx} {Γ : Vars} {σ : Store} {Q : D → Store → Prop}
variable {k : Nat} (B : Base (hd.heap_39 w.params) b) (hk : 1 ≤ k ∧ k ≤ 9)
include B hk
theorem c_are_pairs (f : Nat) (d : D) (size : Nat) (hd' : Wd (2 ^ k) f d) : Fn0 (model prog w) b 4 (.ref 180) [d, .int (k : Nat), .int (size : Nat)] (.bool (areB (2 ^ k) size d)) := by
  have hz := sz
  have hB : 2 ≤ 2 ^ k := pow_ge hk.1
  refine Fn0.intro B (names := ["value", "w", "size"]) ⟨by with_unfolding_all rfl, ?fnb, by with_unfolding_all rfl, by with_unfolding_all rfl, by decide, by with_unfolding_all rfl, by with_unfolding_all rfl, by with_unfolding_all rfl⟩ rfl (by fail "m o") (fun A L Kf hKf ok => ?_)
  case fnb => exact len3 (P := fun vs => bindArgs _ ⟨vs, []⟩ = pure (List.zip _ vs)) (fun x0 x1 x2 => by with_unfolding_all rfl)
  dsimp only [List.zip, List.zipWith]
  fail "m"
  refine isi_ (T := .tuple) hd'.easy ?_
  fail "m"
  refine ⟨fun hc => ?_, fun hc => ?_⟩
  · fail "m"
    refine .inl ?_
    cases d <;> first | rfl | exact ft hc | exact tf hc
  cases d with
  | tup l =>
    obtain ⟨f, rfl⟩ : ∃ g, f = g + 1 := by
      cases f with
      | zero => exact hd'.elim
      | succ f => exact ⟨f, rfl⟩
    have hd' := hd'.tup
    fail "m"
    refine forI_ (fun xs Γ σ => ∃ pre, σ = [] ∧ pre ++ xs = l ∧ pre.all (goodB (2 ^ k) size) = true ∧ Has Γ "value" (.tup l) ∧ Has Γ "w" (.int (k : Int)) ∧ Has Γ "size" (.int (size : Nat))) ok ?_ ?_ ?_
    · fail "m"
      exact ⟨_, .tup _, [], rfl, rfl, rfl, rfl, rfl, rfl⟩
    · refine fun x xs J hJ Γ => st1 (fun pre => an5 fun hl hg h1 h2 h3 => ?_)
      have hx := hd'.2 x (by rw [← hl]; simp)
      have bad : goodB (2 ^ k) size x = false → areB (2 ^ k) size (.tup l) = false := fun h => by
        rw [areB, ← hl, List.all_append, List.all_cons, h]; simp
      refine WA.name ok ?_
      fail "m"
      refine WV.fn0 ok (c_is_pair B hk f x hx) (by fail "m n") ?_
      fail "m"
      refine ⟨fun hc => ?_, fun hc => ?_⟩
      · rw [Bool.not_eq_true'] at hc
        fail "m"
        refine .inl ?_
        rw [bad (by rw [goodB, hc]; rfl)]
      · rw [Bool.not_eq_false'] at hc
        cases x with
        | tup r =>
          obtain ⟨g, rfl⟩ : ∃ g, f = g + 1 := by
            cases f with
            | zero => exact hx.elim
            | succ f => exact ⟨f, rfl⟩
          fail "m"
          refine WV.lenT (by have := hx.tup.1; fail "m o") ?_
          fail "m"
          refine ⟨fun hs => ?_, fun hs => ?_⟩
          · have hs : r.length ≠ size := by have := of_decide_eq_true hs; fail "m o"
            fail "m"
            refine .inl ?_
            rw [bad (by rw [goodB, decide_eq_false (show ¬ (D.tup r).items.length = size from hs)]; simp)]
          · have hs : r.length = size := by have := of_decide_eq_false hs; fail "m o"
            fail "m"
            refine ⟨pre ++ [.tup r], rfl, by rw [← hl, List.append_assoc]; rfl, ?_, h1, h2, h3⟩
            rw [List.all_append, hg, List.all_cons, goodB, hc, decide_eq_true (show (D.tup r).items.length = size from hs)]; rfl
        | _ => cases hc
    · refine fun Γ => st1 (fun pre => an5 fun hl hg h1 h2 h3 => ?_)
      rw [List.append_nil] at hl
      subst hl
      have hxs : ∀ i x, pre[i]? = some x → x = pairD (2 ^ k) (toPr (2 ^ k) x) ∧ (toPr (2 ^ k) x).1 ≤ 1024 := fun i x hx => by
        have hm := List.mem_of_getElem? hx
        have := List.all_eq_true.mp hg x hm
        rw [goodB, Bool.and_eq_true] at this
        obtain ⟨e, _, _⟩ := isPairB_pair hB this.1
        refine ⟨e, ?_⟩
        have hw := hd'.2 x hm
        rw [e] at hw
        obtain ⟨g, rfl⟩ : ∃ g, f = g + 1 := by
          cases f with
          | zero => exact hw.elim
          | succ f => exact ⟨f, rfl⟩
        have := (hw.tup.2 _ (List.mem_cons_self ..)).rowLe (isRow_ofRow hB _).1
        rwa [(isRow_ofRow hB _).2] at this
      fail "m"
      refine comp_ (p := fun d => decide ((pre.map fun x => (toPr (2 ^ k) x).1).getD (d.nat + 1) 0 ≤ (pre.map fun x => (toPr (2 ^ k) x).1).getD d.nat 0)) (f := id) [("value", L + 1)] [("value", .tup pre)] ok ?_ (fun L' => ⟨⟨h1, .inl (by with_unfolding_all rfl), .inl (by with_unfolding_all rfl), _, by with_unfolding_all rfl, by with_unfolding_all rfl⟩, trivial⟩) (by with_unfolding_all rfl) ⟨by with_unfolding_all rfl, trivial⟩ (by dsimp only [List.map]; decide) (by decide) (by with_unfolding_all rfl) (by decide) (by intro _; with_unfolding_all rfl)
      fail "m"
      refine WV.lenT (by fail "m o") ?_
      fail "m"
      refine ⟨rfl, ups 0 (pre.length - 1), items_up0 pre.length (by fail "m o"), by rw [ups_len]; (first | fail "m r" | (clear hk hB hz; show _ ≤ 16777216; omega)), ?_, ?_⟩
      · intro L' ok' x hx
        obtain ⟨i, rfl, _, hi⟩ := ups_mem hx
        obtain ⟨u, hu⟩ : ∃ u, pre[i]? = some u := ⟨_, List.getElem?_eq_getElem (by (first | fail "m r" | (clear hk hz hB; omega)))⟩
        obtain ⟨v, hv⟩ : ∃ v, pre[i + 1]? = some v := ⟨_, List.getElem?_eq_getElem (by (first | fail "m r" | (clear hk hz hB hd'; omega)))⟩
        obtain ⟨eu, lu⟩ := hxs _ _ hu
        obtain ⟨ev, lv⟩ := hxs _ _ hv
        refine turnIf (WAL.name ok' ?_ (by with_unfolding_all rfl))
        fail "m"
        refine W2.itemT (d := u) (by fail "m o") (by (first | fail "m r" | (clear hk hz hB lu lv; omega))) (by rw [Int.toNat_natCast]; exact hu) ?_
        fail "m"
        rw [eu]
        refine W2.itemT (d := row (2 ^ k) (toPr (2 ^ k) u).1) (by decide) (by decide) rfl ?_
        fail "m"
        rw [show (i : Int) + 1 = ((i + 1 : Nat) : Int) by fail "m o"]
        refine W2.itemT (d := v) (by fail "m o") (by (first | fail "m r" | (clear hk hz hB lu lv; omega))) (by rw [Int.toNat_natCast]; exact hv) ?_
        fail "m"
        rw [ev]
        refine W2.itemT (d := row (2 ^ k) (toPr (2 ^ k) v).1) (by decide) (by decide) rfl ?_
        fail "m"
        refine WV.fn0 ok' (c_compare B hB _ _ (by fail "m o") (by fail "m o")) (by fail "m n") ?_
        fail "m"
        refine ⟨rfl, ?_, fun _ => ?_⟩
        · have e : (D.int (i : Nat)).nat = i := Int.toNat_natCast i
          simp only [e, cmpN_nonneg]
          rw [getD_map _ hu, getD_map _ hv]
        · fail "m"
          exact ⟨rfl, rfl⟩
      · fail "m"
        refine WV.lenL (by rw [List.length_map]; exact Nat.le_trans (List.length_filter_le ..) (by rw [ups_len]; (first | fail "m r" | (clear hk hB hz; show _ ≤ 16777216; omega)))) ?_
        fail "m"
        refine .inl ?_
        rw [List.length_map, areB, hg, Bool.true_and]
        congr 1
        rw [Bool.eq_iff_iff, none_ups, adjB_iff, List.length_map]
        constructor
        · intro q i hi
          have := of_decide_eq_false (q i (Nat.zero_le _) (by (first | fail "m r" | (clear hk hz hB hd'; omega))))
          have e : (D.int (i : Nat)).nat = i := Int.toNat_natCast i
          rw [e] at this
          (first | fail "m r" | (clear hk hz hB hd' hi e; omega))
        · intro q i _ hi
          have := q i (by (first | fail "m r" | (clear hk hz hB hd'; omega)))
          have e : (D.int (i : Nat)).nat = i := Int.toNat_natCast i
          rw [e]
          exact decide_eq_false (by (first | fail "m r" | (clear hk hz hB hd' hi e; omega)))
  | _ => first | exact ft hc | exact tf hc
theorem c_told (f : Nat) (d : D) (size : Nat) (hd' : Wd (2 ^ k) f d) (hf : f ≤ 60) (hs2 : 2 ≤ size) : Fn0 (model prog w) b 2 (.ref 366) [d, .int (k : Nat), .int (size : Nat)] (toldD (2 ^ k) size d) := by
  have hz := sz
  have hB : 2 ≤ 2 ^ k := pow_ge hk.1
  refine Fn0.intro B (names := ["value", "w", "size"]) ⟨by with_unfolding_all rfl, ?fnb, by with_unfolding_all rfl, by with_unfolding_all rfl, by decide, by with_unfolding_all rfl, by with_unfolding_all rfl, by with_unfolding_all rfl⟩ rfl (by fail "m o") (fun A L Kf hKf ok => ?_)
  case fnb => exact len3 (P := fun vs => bindArgs _ ⟨vs, []⟩ = pure (List.zip _ vs)) (fun x0 x1 x2 => by with_unfolding_all rfl)
  dsimp only [List.zip, List.zipWith]
  refine WS.cons (WX.assign ok (listP_ (WArgs.nil ⟨rfl, by decide, fun a => ?_⟩)) rfl rfl)
  fail "m"
  refine isi_ (T := .tuple) hd'.easy ?_
  fail "m"
  refine ⟨fun hc => ?_, fun hc => ?_⟩
  · fail "m"
    refine .inl ?_
    cases d <;> first | rfl | exact ft hc | exact tf hc
  cases d with
  | tup l =>
    obtain ⟨f, rfl⟩ : ∃ g, f = g + 1 := by
      cases f with
      | zero => exact hd'.elim
      | succ f => exact ⟨f, rfl⟩
    have hd' := hd'.tup
    fail "m"
    refine forI_ (fun xs Γ σ => ∃ pre, σ = [(a, (pre.map fun x => ((toPr (2 ^ k) x).1, (toPr (2 ^ k) x).2.1)).map pairND)] ∧ pre ++ xs = l ∧ (pre.all fun x => goodB (2 ^ k) size x && decide ((toPr (2 ^ k) x).2.1 < 100)) = true ∧ adjB (pre.map fun x => (toPr (2 ^ k) x).1) = true ∧ Has Γ "found" (.raw (.ref a)) ∧ Has Γ "w" (.int (k : Int)) ∧ Has Γ "size" (.int (size : Nat))) ok ?_ ?_ ?_
    · fail "m"
      exact ⟨_, .tup _, [], rfl, rfl, rfl, rfl, rfl, rfl, rfl⟩
    · refine fun x xs J hJ Γ => st1 (fun pre => an6 fun hl hg hadj h1 h2 h3 => ?_)
      have hx := hd'.2 x (by rw [← hl]; simp)
      have hpl : pre.length ≤ 64 := by
        have := congrArg List.length hl
        rw [List.length_append] at this; (first | fail "m r" | (clear hk hs2 hz hB hf; omega))
      have bad : (goodB (2 ^ k) size x && decide ((toPr (2 ^ k) x).2.1 < 100)) = false → toldD (2 ^ k) size (.tup l) = .none := fun h => by
        have : toldOk (2 ^ k) size (.tup l) = false := by rw [toldOk, ← hl, List.all_append, List.all_cons, h]; simp
        rw [toldD, this]; rfl
      have badP : isPairB (2 ^ k) x = false → toldD (2 ^ k) size (.tup l) = .none := fun h => bad (by rw [goodB, h]; rfl)
      refine WA.name ok ?_
      fail "m"
      refine isi_ (T := .tuple) hx.easy ?_
      fail "m"
      refine ⟨fun hc => ?_, fun hc => ?_⟩
      · rw [Bool.not_eq_true'] at hc
        fail "m"
        refine .inl ?_
        rw [badP (by cases x <;> first | rfl | exact ft hc | exact tf hc)]
      cases x with
      | tup r =>
        obtain ⟨g, rfl⟩ : ∃ g, f = g + 1 := by
          cases f with
          | zero => exact hx.elim
          | succ f => exact ⟨f, rfl⟩
        have hx := hx.tup
        fail "m"
        refine WV.lenT (by fail "m o") ?_
        fail "m"
        refine ⟨fun hs => ?_, fun hs => ?_⟩
        · have hs : r.length ≠ size := by have := of_decide_eq_true hs; fail "m o"
          fail "m"
          refine .inl ?_
          rw [bad (by rw [goodB, decide_eq_false (show ¬ (D.tup r).items.length = size from hs)]; simp)]
        · have hs : r.length = size := by have := of_decide_eq_false hs; fail "m o"
          match r, hs with
          | [], hs => simp at hs; (first | fail "m r" | (clear hk hz hB hpl hf hd' hx; omega))
          | [_], hs => simp at hs; (first | fail "m r" | (clear hk hz hB hpl hf hd' hx; omega))
          | y :: e :: r, hs =>
            have hy := hx.2 y (by simp)
            have he := hx.2 e (by simp)
            fail "m"
            refine W2.itemT (d := y) (by decide) (by decide) rfl ?_
            fail "m"
            refine WV.fn0 ok (c_law_is_row B hk _ y hy (by (first | fail "m r" | (clear hk hs2 hz hB hpl hd' hs hx; omega)))) (by fail "m n") ?_
            fail "m"
            refine ⟨fun hr => ?_, fun hr => ?_⟩
            · rw [Bool.not_eq_true'] at hr
              fail "m"
              refine .inl ?_
              rw [badP (by cases e with
                           | int e => rw [isPairB, hr]; rfl
                           | _ => rfl)]
            · rw [Bool.not_eq_false'] at hr
              have hle := hy.rowLe hr
              obtain ⟨v, hv⟩ : ∃ v, y = row (2 ^ k) v := ⟨_, isRow_row hB hr⟩
              subst hv
              rw [(isRow_ofRow hB v).2] at hle
              have lv := dg_len hB v
              have whole := c_law_whole (prog := prog) (w := w) B hk.2 (dg (2 ^ k) v) (by (first | fail "m r" | (clear hk hs2 hB hpl hf hd' hs hx hz; show _ ≤ 16777216; omega)))
              rw [val_dg hB] at whole
              fail "m"
              refine W2.itemT (d := row (2 ^ k) v) (by decide) (by decide) rfl ?_
              fail "m"
              refine WV.fn0 ok whole (by fail "m n") ?_
              fail "m"
              refine ⟨fun hv2 => ?_, fun hv2 => ?_⟩
              · have hv2 : v < 2 := by have := of_decide_eq_true hv2; fail "m o"
                fail "m"
                refine .inl ?_
                rw [badP (by cases e with
                             | int e => rw [isPairB, (isRow_ofRow hB v).2, decide_eq_false (show ¬ 2 ≤ v by (first | fail "m r" | (clear hk hs2 hz hB hpl hf hd' lv hs hx; omega)))]; simp
                             | _ => rfl)]
              have hv2 : 2 ≤ v := by have := of_decide_eq_false hv2; fail "m o"
              fail "m"
              refine W2.itemT (d := e) (by decide) (by decide) rfl ?_
              fail "m"
              refine isi_ (T := .bool) he.easy ?_
              fail "m"
              refine ⟨fun q1 => ?_, fun q1 => ?_⟩
              · fail "m"
                refine .inl ?_
                rw [badP (by cases e <;> first | rfl | exact ft q1 | exact tf q1)]
              fail "m"
              refine W2.itemT (d := e) (by decide) (by decide) rfl ?_
              fail "m"
              refine isi_ (T := .int) he.easy ?_
              fail "m"
              refine ⟨fun q2 => ?_, fun q2 => ?_⟩
              · rw [Bool.not_eq_true'] at q2
                fail "m"
                refine .inl ?_
                rw [badP (by cases e <;> first | rfl | exact ft q2 | exact tf q2)]
              rw [Bool.not_eq_false'] at q2
              cases e with
              | int e =>
                fail "m"
                refine W2.itemT (d := .int e) (by decide) (by decide) rfl ?_
                fail "m"
                refine ⟨fun q3 => ?_, fun q3 => ?_⟩
                · fail "m"
                  refine .inl ?_
                  rw [badP (by rw [isPairB, q3]; simp)]
                have q3 := of_decide_eq_true q3
                fail "m"
                refine ⟨fun q4 => ?_, fun q4 => ?_⟩
                · rw [Bool.not_eq_true'] at q4
                  have q4 := of_decide_eq_false q4
                  fail "m"
                  refine .inl ?_
                  rw [bad (by
                    have : decide ((toPr (2 ^ k) (.tup (row (2 ^ k) v :: .int e :: r))).2.1 < 100) = false := decide_eq_false (by show ¬ e.toNat < 100; (first | fail "m r" | (clear hk hs2 hz hB hpl hf hd' hle lv hv2 hs hx q3; omega)))
                    rw [this, Bool.and_false])]
                rw [Bool.not_eq_false'] at q4
                have q4 := of_decide_eq_true q4
                have hgood : (goodB (2 ^ k) size (.tup (row (2 ^ k) v :: .int e :: r)) && decide ((toPr (2 ^ k) (.tup (row (2 ^ k) v :: .int e :: r))).2.1 < 100)) = true := by
                  have e1 : decide ((toPr (2 ^ k) (.tup (row (2 ^ k) v :: .int e :: r))).2.1 < 100) = true := decide_eq_true (by show e.toNat < 100; (first | fail "m r" | (clear hk hs2 hz hB hpl hf hd' hle lv hv2 hs hx; omega)))
                  have e2 : decide ((D.tup (row (2 ^ k) v :: .int e :: r)).items.length = size) = true := decide_eq_true hs
                  rw [goodB, e1, e2, isPairB, (isRow_ofRow hB v).1, (isRow_ofRow hB v).2, decide_eq_true hv2, decide_eq_true q3]; rfl
                have hpr : toPr (2 ^ k) (.tup (row (2 ^ k) v :: .int e :: r)) = (v, e.toNat, r) := by rw [toPr, (isRow_ofRow hB v).2]
                have next : lastLt (pre.map fun x => (toPr (2 ^ k) x).1) v = true → _ := fun hlast =>
                  show ∃ pre', [(a, ((pre.map fun x => ((toPr (2 ^ k) x).1, (toPr (2 ^ k) x).2.1)).map pairND) ++ [.tup [.int (v : Nat), .int e]])] = [(a, (pre'.map fun x => ((toPr (2 ^ k) x).1, (toPr (2 ^ k) x).2.1)).map pairND)] ∧ pre' ++ xs = l ∧ (pre'.all fun x => goodB (2 ^ k) size x && decide ((toPr (2 ^ k) x).2.1 < 100)) = true ∧ adjB (pre'.map fun x => (toPr (2 ^ k) x).1) = true from by
                    refine ⟨pre ++ [.tup (row (2 ^ k) v :: .int e :: r)], ?_, by rw [← hl, List.append_assoc]; rfl, ?_, ?_⟩
                    · rw [List.map_append, List.map_append, List.map_cons, List.map_nil, hpr]
                      simp only [List.map_cons, List.map_nil, pairND]
                      rw [Int.toNat_of_nonneg (by (first | fail "m r" | (clear hk hs2 hz hB hpl hf hd' hle lv hv2 hs hx; omega)))]
                    · rw [List.all_append, hg, List.all_cons, hgood]; rfl
                    · rw [List.map_append, List.map_cons, List.map_nil, hpr, adjB_app, hadj, hlast]; rfl
                have hpd := pd_pairs (pre.map fun x => ((toPr (2 ^ k) x).1, (toPr (2 ^ k) x).2.1))
                have hsh := shaped_pairs (pre.map fun x => ((toPr (2 ^ k) x).1, (toPr (2 ^ k) x).2.1))
                have fin : lastLt (pre.map fun x => (toPr (2 ^ k) x).1) v = false → toldD (2 ^ k) size (.tup l) = .none := fun hlast => by
                  have : toldOk (2 ^ k) size (.tup l) = false := by
                    rw [toldOk, ← hl, List.map_append, List.map_cons, hpr, adjB_app, hlast]; simp
                  rw [toldD, this]; rfl
                fail "m"
                refine W2.neP ok hpd (q := .list []) (by rfl) hsh shaped_nil.1 ?_
                rw [PyData.eqv, eqv_nil]
                fail "m"
                rcases List.eq_nil_or_concat pre with hp0 | ⟨pre', z, hp0⟩
                · subst hp0
                  refine ⟨fun _ => conjFF ?_, fun q => (by cases q)⟩
                  fail "m"
                  refine W2.itemT (d := row (2 ^ k) v) (by decide) (by decide) rfl ?_
                  fail "m"
                  refine WV.fn0 ok whole (by fail "m n") ?_
                  fail "m"
                  refine W2.itemT (d := .int e) (by decide) (by decide) rfl ?_
                  fail "m"
                  refine ⟨_, rfl, by simp <;> fail "m o", ?_⟩
                  fail "m"
                  obtain ⟨pre', r1, r2, r3, r4⟩ := next rfl
                  exact ⟨pre', r1, r2, r3, r4, h1, h2, h3⟩
                · have hll : lastLt (pre.map fun x => (toPr (2 ^ k) x).1) v = decide ((toPr (2 ^ k) z).1 < v) := by
                    rw [hp0, List.concat_eq_append, List.map_append, lastLt, List.getLast?_append]; rfl
                  have hlast : ((pre.map fun x => ((toPr (2 ^ k) x).1, (toPr (2 ^ k) x).2.1)).map pairND).getLast? = some (.tup [.int ((toPr (2 ^ k) z).1 : Nat), .int ((toPr (2 ^ k) z).2.1 : Nat)]) := by
                    rw [hp0, List.concat_eq_append, List.map_append, List.map_append, List.getLast?_append]; rfl
                  have hne : (!((pre.map fun x => ((toPr (2 ^ k) x).1, (toPr (2 ^ k) x).2.1)).map pairPD).isEmpty) = true := by
                    rw [hp0]; simp
                  refine ⟨fun q => (by rw [hne] at q; cases q), fun _ => ?_⟩
                  fail "m"
                  refine W2.lastP hlast ?_
                  fail "m"
                  refine W2.itemT (d := .int ((toPr (2 ^ k) z).1 : Nat)) (by decide) (by decide) rfl ?_
                  fail "m"
                  refine W2.itemT (d := row (2 ^ k) v) (by decide) (by decide) rfl ?_
                  fail "m"
                  refine WV.fn0 ok whole (by fail "m n") ?_
                  fail "m"
                  refine ⟨fun q => ?_, fun q => ?_⟩
                  · have q := of_decide_eq_false q
                    fail "m"
                    refine W2.itemT (d := row (2 ^ k) v) (by decide) (by decide) rfl ?_
                    fail "m"
                    refine WV.fn0 ok whole (by fail "m n") ?_
                    fail "m"
                    refine W2.itemT (d := .int e) (by decide) (by decide) rfl ?_
                    fail "m"
                    refine ⟨_, rfl, by simp <;> fail "m o", ?_⟩
                    fail "m"
                    obtain ⟨pre', r1, r2, r3, r4⟩ := next (by rw [hll]; exact decide_eq_true (by fail "m o"))
                    exact ⟨pre', r1, r2, r3, r4, h1, h2, h3⟩
                  · have q := of_decide_eq_true q
                    fail "m"
                    refine .inl ?_
                    rw [fin (by rw [hll]; exact decide_eq_false (by (first | fail "m r" | (clear hk hs2 hz hB hpl hf hd' hle lv hv2 hs hx q3 q4; omega))))]
              | _ => first | exact ft q1 | exact tf q1 | exact ft q2 | exact tf q2
      | _ => first | exact ft hc | exact tf hc
    · refine fun Γ => st1 (fun pre => an6 fun hl hg hadj h1 h2 h3 => ?_)
      rw [List.append_nil] at hl
      subst hl
      fail "m"
      refine .inr ⟨a, _, rfl, List.mem_singleton.mpr rfl, ?_⟩
      have : toldOk (2 ^ k) size (.tup pre) = true := by rw [toldOk, hg, hadj]; rfl
      rw [toldD, if_pos this]; rfl
  | _ => first | exact ft hc | exact tf hc
end
noncomputable def compB (B n : Nat) : D → Bool
  | .tup [.str s, v] => isRow B v && shownB n s (valD B v)
  | _ => false
section
variable {prog : Program} {w : World} {b : Heap} {C : Cx} {Γ : Vars} {σ : Store} {Q : D → Store → Prop}
variable {k : Nat} (B : Base (hd.heap_39 w.params) b) (hk : 1 ≤ k ∧ k ≤ 9)
include B hk
theorem c_is_strong_witness (a n : Nat) (ha : a ≤ 2 ^ 20) (hn : 1 < n) (hn2 : n ≤ 4096) : Fn0 (model prog w) b 4 (.ref 258) [row (2 ^ k) a, row (2 ^ k) n, .int (k : Nat), toolsD] (.bool (strongB n a)) := by
  have hz := sz
  have hB : 2 ≤ 2 ^ k := pow_ge hk.1
  obtain ⟨ht, hq⟩ := tzN_ok n (n - 1) (by (first | fail "m r" | (clear hk ha hz hB; omega))) (by (first | fail "m r" | (clear hk ha hz hB; omega)))
  unfold strongB
  generalize tzN n (n - 1) = t at *
  generalize (n - 1) / 2 ^ t = q at *
  have htn : 2 ^ t ≤ n - 1 := by rw [← ht]; exact Nat.le_mul_of_pos_right _ (by (first | fail "m r" | (clear hk ha hn hn2 hz hB ht; omega)))
  have htl : t < n := by have := Nat.lt_two_pow_self (n := t); (first | fail "m r" | (clear hk ha hz hB ht hq; omega))
  refine Fn0.intro B (names := ["a", "n", "w", "tools"]) ⟨by with_unfolding_all rfl, ?fnb, by with_unfolding_all rfl, by with_unfolding_all rfl, by decide, by with_unfolding_all rfl, by with_unfolding_all rfl, by with_unfolding_all rfl⟩ rfl (by fail "m o") (fun A L Kf hKf ok => ?_)
  case fnb => exact len4 (P := fun vs => bindArgs _ ⟨vs, []⟩ = pure (List.zip _ vs)) (fun x0 x1 x2 x3 => by with_unfolding_all rfl)
  dsimp only [List.zip, List.zipWith]
  fail "m"
  refine WV.fn0 ok (c_strong_rests B hk a n t q ha hn hn2 ht hq) (by fail "m n") ?_
  fail "m"
  refine WV.fn0 ok (c_sub1 B hk n (by fail "m o") (by fail "m o")) (by fail "m n") ?_
  fail "m"
  refine W2.item (d := row (2 ^ k) (a ^ (q * 2 ^ 0) % n)) (by decide) (by decide) (by simp [restsL]) ?_
  first | rw [Nat.pow_zero, Nat.mul_one] at hKf | rw [Nat.pow_zero, Nat.mul_one]
  fail "m"
  refine WV.fn0 ok (c_is_one B hB _) (by fail "m n") ?_
  fail "m"
  refine ⟨fun hc => ?_, fun hc => ?_⟩
  · have hc := of_decide_eq_true hc
    fail "m"
    refine .inl ?_
    rw [decide_eq_false (by (first | fail "m r" | (clear hk ha hn hn2 hz hB ht hq htn htl; omega)))]; rfl
  have hc := of_decide_eq_false hc
  rw [decide_eq_true hc, Bool.true_and] at hKf
  fail "m"
  refine comp_ (p := fun d => decide (valD (2 ^ k) d = n - 1)) (f := id) [("order", L + 1)] [("order", row (2 ^ k) (n - 1))] ok ?_ (fun L' => ⟨⟨by with_unfolding_all rfl, .inl (by with_unfolding_all rfl), .inl (by with_unfolding_all rfl), _, by with_unfolding_all rfl, by with_unfolding_all rfl⟩, trivial⟩) (by with_unfolding_all rfl) ⟨by with_unfolding_all rfl, trivial⟩ (by dsimp only [List.map]; decide) (by decide) (by with_unfolding_all rfl) (by decide) (by intro _; with_unfolding_all rfl)
  fail "m"
  have hlen : (restsL (2 ^ k) n a (t + 1) q).length = t + 1 := by simp [restsL]
  refine W2.sliceL (by decide) (by (first | fail "m r" | (clear hk ha hB ht hq htn hc hz; show _ ≤ 16777216; omega))) ?_
  first | rw [pick_init, rests_succ, List.dropLast_concat] at hKf | rw [pick_init, rests_succ, List.dropLast_concat]
  refine ⟨rfl, _, .list _, by simp [restsL]; (first | fail "m r" | (clear hk ha hB ht hq htn hc hz; show _ ≤ 16777216; omega)), ?_, ?_⟩
  · intro L' ok' x hx
    obtain ⟨i, hi, rfl⟩ := List.mem_map.mp hx
    refine turnIf (WAL.name ok' ?_ (by with_unfolding_all rfl))
    fail "m"
    refine eqRow_ hB ok' ?_
    fail "m"
    refine ⟨rfl, by rw [(isRow_ofRow hB _).2], fun _ => ?_⟩
    fail "m"
    exact ⟨rfl, rfl⟩
  · fail "m"
    refine WV.lenL (by rw [List.length_map]; refine Nat.le_trans (List.length_filter_le ..) ?_; simp [restsL]; (first | fail "m r" | (clear hk ha hB ht hq htn hc hz; show _ ≤ 16777216; omega))) ?_
    fail "m"
    refine .inl ?_
    congr 1
    rw [List.length_map, Bool.eq_iff_iff, decide_eq_true_iff, List.all_eq_true]
    constructor
    · intro h
      have h : ((restsL (2 ^ k) n a t q).filter fun d => decide (valD (2 ^ k) d = n - 1)).length = 0 := by fail "m o"
      have h := List.length_eq_zero_iff.mp h
      rw [List.filter_eq_nil_iff] at h
      intro i hi
      have := h _ (List.mem_map_of_mem hi)
      rw [(isRow_ofRow hB _).2] at this
      exact decide_eq_true fun z => this (decide_eq_true z)
    · intro h
      have : ((restsL (2 ^ k) n a t q).filter fun d => decide (valD (2 ^ k) d = n - 1)) = [] := by
        rw [List.filter_eq_nil_iff]
        intro x hx
        obtain ⟨i, hi, rfl⟩ := List.mem_map.mp hx
        have := of_decide_eq_true (h i hi)
        rw [(isRow_ofRow hB _).2]
        exact fun z => this (of_decide_eq_true z)
      rw [this]; rfl
theorem c_composite_holds (n f : Nat) (d : D) (hd' : Wd (2 ^ k) f d) (hn2 : n ≤ 1024) : Fn0 (model prog w) b 5 (.ref 265) [row (2 ^ k) n, d, .int (k : Nat), toolsD] (.bool (compB (2 ^ k) n d)) := by
  have hz := sz
  have hB : 2 ≤ 2 ^ k := pow_ge hk.1
  refine Fn0.intro B (names := ["n", "value", "w", "tools"]) ⟨by with_unfolding_all rfl, ?fnb, by with_unfolding_all rfl, by with_unfolding_all rfl, by decide, by with_unfolding_all rfl, by with_unfolding_all rfl, by with_unfolding_all rfl⟩ rfl (by fail "m o") (fun A L Kf hKf ok => ?_)
  case fnb => exact len4 (P := fun vs => bindArgs _ ⟨vs, []⟩ = pure (List.zip _ vs)) (fun x0 x1 x2 x3 => by with_unfolding_all rfl)
  dsimp only [List.zip, List.zipWith]
  fail "m"
  refine isi_ (T := .tuple) hd'.easy ?_
  fail "m"
  refine ⟨fun hc => ?_, fun hc => ?_⟩
  · rw [Bool.not_eq_true'] at hc
    fail "m"
    refine .inl ?_
    cases d <;> first | rfl | exact ft hc | exact tf hc
  cases d with
  | tup l =>
    obtain ⟨f, rfl⟩ : ∃ g, f = g + 1 := by
      cases f with
      | zero => exact hd'.elim
      | succ f => exact ⟨f, rfl⟩
    have hd' := hd'.tup
    fail "m"
    refine WV.lenT (by fail "m o") ?_
    fail "m"
    refine ⟨fun hl => ?_, fun hl => ?_⟩
    · have hl : l.length ≠ 2 := by have := of_decide_eq_true hl; fail "m o"
      fail "m"
      refine .inl ?_
      match l, hl with
      | [], _ => rfl
      | [_], _ => rw [compB]; intro s v h; cases h
      | [_, _], hl => exact absurd rfl hl
      | _ :: _ :: _ :: _, _ => rw [compB]; intro s v h; cases h
    have hl : l.length = 2 := by have := of_decide_eq_false hl; fail "m o"
    match l, hl with
    | [c, v], _ =>
      have hc' := (hd'.2 c (by simp)).easy
      have hv := hd'.2 v (by simp)
      fail "m"
      refine W2.itemT (d := c) (by decide) (by decide) rfl ?_
      fail "m"
      refine isi_ (T := .str) hc' ?_
      fail "m"
      refine ⟨fun h1 => ?_, fun h1 => ?_⟩
      · rw [Bool.not_eq_true'] at h1
        fail "m"
        refine .inl ?_
        cases c <;> first | rfl | exact ft h1 | exact tf h1
      cases c with
      | str s =>
        fail "m"
        refine W2.itemT (d := v) (by decide) (by decide) rfl ?_
        fail "m"
        refine WV.fn0 ok (c_is_nat B hk v hv.okRow) (by fail "m n") ?_
        fail "m"
        refine ⟨fun hr => ?_, fun hr => ?_⟩
        · rw [Bool.not_eq_true'] at hr
          fail "m"
          refine .inl ?_
          rw [compB, hr]; rfl
        rw [Bool.not_eq_false'] at hr
        have hle := hv.rowLe hr
        obtain ⟨a, ha⟩ : ∃ a, v = row (2 ^ k) a := ⟨_, isRow_row hB hr⟩
        subst ha
        rw [(isRow_ofRow hB a).2] at hle
        first | rw [compB, (isRow_ofRow hB a).1, (isRow_ofRow hB a).2, Bool.true_and] at hKf | rw [compB, (isRow_ofRow hB a).1, (isRow_ofRow hB a).2, Bool.true_and]
        fail "m"
        first | rw [← row_one hB] at hKf | rw [← row_one hB]
        refine WV.fn0 ok (c_compare B hB n 1 (by fail "m o") (by (first | fail "m r" | (clear hk hn2 hB hd' hle hz; show _ ≤ 16777216; omega)))) (by fail "m n") ?_
        fail "m"
        have bad : ¬ (2 ≤ a ∧ a < n) → shownB n s a = false := fun h => by rw [shownB, if_neg h]
        refine ⟨fun hc1 => ?_, fun hc1 => ?_⟩
        · have hc1 := cmpN_npos.mp (of_decide_eq_true hc1)
          fail "m"
          exact .inl (by rw [bad (by (first | fail "m r" | (clear hk hz hB hd' bad; omega)))])
        have hc1 : ¬ n ≤ 1 := fun z => of_decide_eq_false hc1 (cmpN_npos.mpr z)
        fail "m"
        refine W2.itemT (d := row (2 ^ k) a) (by decide) (by decide) rfl ?_
        fail "m"
        refine WV.fn0 ok (c_nat_of B hk 2 (by (first | fail "m r" | (clear hk hn2 hB hd' hle bad hc1 hz; show _ ≤ 16777216; omega)))) (by fail "m n") ?_
        fail "m"
        refine WV.fn0 ok (c_is_between B hB a 2 n (by fail "m o") (by (first | fail "m r" | (clear hk hn2 hB hd' hle bad hc1 hz; show _ ≤ 16777216; omega))) (by fail "m o")) (by fail "m n") ?_
        fail "m"
        refine ⟨fun hb => ?_, fun hb => ?_⟩
        · rw [Bool.not_eq_true', Bool.and_eq_false_iff] at hb
          fail "m"
          refine .inl ?_
          rw [bad]
          rintro ⟨z1, z2⟩
          rcases hb with hb | hb
          · exact of_decide_eq_false hb z1
          · exact of_decide_eq_false hb z2
        rw [Bool.not_eq_false', Bool.and_eq_true, decide_eq_true_iff, decide_eq_true_iff] at hb
        first | rw [shownB, if_pos hb] at hKf | rw [shownB, if_pos hb]
        fail "m"
        fail "m t"
        fail "m"
        refine ⟨_, rfl, rfl, ?_⟩
        fail "m"
        fail "m t"
        unfold toolsD
        fail "m"
        refine ⟨_, rfl, rfl, ?_⟩
        fail "m"
        refine ⟨fun hk1 => ?_, fun hk1 => ?_⟩
        · have hk1 := of_decide_eq_true hk1
          first | rw [if_pos hk1] at hKf | rw [if_pos hk1]
          fail "m"
          refine WV.fn0 ok (c_law_parts B hk n a (by fail "m o") (by fail "m o") (by fail "m o")) (by fail "m n") ?_
          fail "m"
          refine W2.itemT (d := row (2 ^ k) (n % a)) (by decide) (by decide) rfl ?_
          fail "m"
          have := dg_len hB (n % a)
          have hm : n % a < a := Nat.mod_lt _ (by fail "m o")
          refine lenN_ (by (first | fail "m r" | (clear hk hB hd' bad hz; show _ ≤ 16777216; omega))) ?_
          fail "m"
          refine .inl ?_
          congr 1
          rw [Bool.eq_iff_iff, decide_eq_true_iff, decide_eq_true_iff, ← dg_nil hB (n := n % a), ← List.length_eq_zero_iff]
          (first | fail "m r" | (clear hk hn2 hz hB hd' hle bad hc1 hb this hm; omega))
        have hk1 := of_decide_eq_false hk1
        first | rw [if_neg hk1] at hKf | rw [if_neg hk1]
        fail "m"
        refine ⟨fun hk2 => ?_, fun hk2 => ?_⟩
        · have hk2 := of_decide_eq_true hk2
          first | rw [if_pos hk2] at hKf | rw [if_pos hk2]
          fail "m"
          refine WV.fn0 ok (c_sub1 B hk n (by fail "m o") (by fail "m o")) (by fail "m n") ?_
          fail "m"
          refine WV.fn0 ok (c_law_power B hk a (n - 1) n (by fail "m o") (by (first | fail "m r" | (clear hk hB hd' hle bad hb hz; show _ ≤ 16777216; omega))) (by (first | fail "m r" | (clear hk hz hB hd' hle bad hb; omega))) (by fail "m o")) (by fail "m n") ?_
          fail "m"
          refine WV.fn0 ok (c_is_one B hB _) (by fail "m n") ?_
          fail "m"
          refine .inl ?_
          simp
        have hk2 := of_decide_eq_false hk2
        first | rw [if_neg hk2] at hKf | rw [if_neg hk2]
        fail "m"
        refine ⟨fun hk3 => ?_, fun hk3 => ?_⟩
        · have hk3 := of_decide_eq_true hk3
          have hk4 : ¬ s = Str.ofString "root" := by rw [hk3]; decide +kernel
          first | rw [if_neg hk4, if_pos hk3] at hKf | rw [if_neg hk4, if_pos hk3]
          fail "m"
          refine WV.fn0 ok (c_is_even B hk n (by fail "m o")) (by fail "m n") ?_
          fail "m"
          refine ⟨fun he => ?_, fun he => ?_⟩
          · rw [Bool.not_eq_false', beq_iff_eq] at he
            fail "m"; refine .inl ?_
            rw [decide_eq_false (by (first | fail "m r" | (clear hk hn2 hz hB hd' hle bad hc1 hb; omega)))]; rfl
          · rw [Bool.not_eq_true', beq_eq_false_iff_ne] at he
            fail "m"
            refine WV.fn0 ok (c_is_strong_witness B hk a n (by fail "m o") (by (first | fail "m r" | (clear hk hz hB hd' hle bad hb he; omega))) (by fail "m o")) (by fail "m n") ?_
            fail "m"
            refine .inl ?_
            rw [decide_eq_true he, Bool.true_and]
        have hk3 := of_decide_eq_false hk3
        fail "m"
        refine ⟨fun hk4 => ?_, fun hk4 => ?_⟩
        · have hk4 := of_decide_eq_true hk4
          first | rw [if_pos hk4] at hKf | rw [if_pos hk4]
          fail "m"
          refine WV.fn0 ok (c_sub1 B hk n (by fail "m o") (by fail "m o")) (by fail "m n") ?_
          fail "m"
          refine neRow_ hB ok ?_
          fail "m"
          refine ⟨fun he => ?_, fun he => ?_⟩
          · fail "m"; refine .inl ?_
            rw [he, Bool.and_false]
          · fail "m"
            have haa : a * a ≤ sizeLine := by
              have := Nat.mul_le_mul hle hle
              fail "m o"
            refine WV.fn0 ok (c_law_times B hk a a (by fail "m o") (by fail "m o") haa) (by fail "m n") ?_
            fail "m"
            refine WV.fn0 ok (c_law_parts B hk (a * a) n haa (by fail "m o") (by fail "m o")) (by fail "m n") ?_
            fail "m"
            refine W2.itemT (d := row (2 ^ k) (a * a % n)) (by decide) (by decide) rfl ?_
            fail "m"
            refine WV.fn0 ok (c_is_one B hB _) (by fail "m n") ?_
            fail "m"
            refine .inl ?_
            rw [he, Bool.and_true]
        · have hk4 := of_decide_eq_false hk4
          first | rw [if_neg hk4, if_neg hk3] at hKf | rw [if_neg hk4, if_neg hk3]
          fail "m"
          exact Ends0.ret
      | _ => first | exact ft h1 | exact tf h1
  | _ => first | exact ft hc | exact tf hc
omit hk in
theorem c_law_is_shown (n a : Nat) (s : Str) (hn2 : n ≤ 4096) : Fn0 (model prog w) b 1 (.ref 392) [.int (n : Nat), .str s, .int (a : Nat)] (.bool (shownB n s a)) := by
  have hz := sz
  refine Fn0.intro B (names := ["n", "kind", "a"]) ⟨by with_unfolding_all rfl, ?fnb, by with_unfolding_all rfl, by with_unfolding_all rfl, by decide, by with_unfolding_all rfl, by with_unfolding_all rfl, by with_unfolding_all rfl⟩ rfl (by fail "m o") (fun A L Kf hKf ok => ?_)
  case fnb => exact len3 (P := fun vs => bindArgs _ ⟨vs, []⟩ = pure (List.zip _ vs)) (fun x0 x1 x2 => by with_unfolding_all rfl)
  dsimp only [List.zip, List.zipWith]
  have bad : ¬ (2 ≤ a ∧ a < n) → shownB n s a = false := fun h => by rw [shownB, if_neg h]
  fail "m"
  refine ⟨fun h1 => ?_, fun h1 => ?_⟩
  · have h1 := of_decide_eq_false h1
    fail "m"
    exact .inl (by rw [bad (by (first | fail "m r" | (clear hn2 hz bad; omega)))])
  have h1 : 2 ≤ a := by have := of_decide_eq_true h1; (first | fail "m r" | (clear hn2 hz bad; omega))
  fail "m"
  refine ⟨fun h2 => ?_, fun h2 => ?_⟩
  · rw [Bool.not_eq_true'] at h2
    have h2 := of_decide_eq_false h2
    fail "m"
    exact .inl (by rw [bad (by (first | fail "m r" | (clear hn2 hz bad h1; omega)))])
  rw [Bool.not_eq_false'] at h2
  have h2 : a < n := by have := of_decide_eq_true h2; fail "m o"
  first | rw [shownB, if_pos ⟨h1, h2⟩] at hKf | rw [shownB, if_pos ⟨h1, h2⟩]
  have cast : (n : Int) - 1 = ((n - 1 : Nat) : Int) := by (first | fail "m r" | (clear hz bad; omega))
  fail "m"
  refine ⟨fun hk1 => ?_, fun hk1 => ?_⟩
  · have hk1 := of_decide_eq_true hk1
    first | rw [if_pos hk1] at hKf | rw [if_pos hk1]
    fail "m"
    refine modN_ (by fail "m o") ?_
    fail "m"
    refine .inl ?_
    congr 1
    rw [Bool.eq_iff_iff, decide_eq_true_iff, decide_eq_true_iff]
    (first | fail "m r" | (clear hn2 hz bad h1 h2 cast; omega))
  have hk1 := of_decide_eq_false hk1
  first | rw [if_neg hk1] at hKf | rw [if_neg hk1]
  fail "m"
  refine ⟨fun hk2 => ?_, fun hk2 => ?_⟩
  · have hk2 := of_decide_eq_true hk2
    first | rw [if_pos hk2] at hKf | rw [if_pos hk2]
    fail "m"
    first | rw [cast] at hKf | rw [cast]
    refine powN_ (by (first | fail "m r" | (clear hz bad; omega))) ?_
    fail "m"
    refine .inl ?_
    congr 1
    rw [Bool.eq_iff_iff, decide_eq_true_iff, decide_eq_true_iff]
    (first | fail "m r" | (clear hn2 hz bad h1 h2 cast; omega))
  have hk2 := of_decide_eq_false hk2
  first | rw [if_neg hk2] at hKf | rw [if_neg hk2]
  fail "m"
  refine ⟨fun hk3 => ?_, fun hk3 => ?_⟩
  · have hk3 := of_decide_eq_true hk3
    first | rw [if_pos hk3] at hKf | rw [if_pos hk3]
    fail "m"
    refine W2.mul (.of_left (bits_le (e := 13) (by (first | fail "m r" | (clear hz bad h1; omega))))) ?_
    fail "m"
    first | rw [← Int.natCast_mul] at hKf | rw [← Int.natCast_mul]
    refine modN_ (by fail "m o") ?_
    fail "m"
    refine ⟨fun h3 => ?_, fun h3 => ?_⟩
    · have h3 := of_decide_eq_false h3
      fail "m"; refine .inl ?_
      rw [decide_eq_false (by fail "m o")]; rfl
    · have h3 := of_decide_eq_true h3
      fail "m"
      refine .inl ?_
      rw [decide_eq_true (show a * a % n = 1 by fail "m o"), Bool.true_and]
      congr 1
      rw [Bool.eq_iff_iff, decide_eq_true_iff, decide_eq_true_iff]
      (first | fail "m r" | (clear hn2 hz bad h1 h2 h3; omega))
  have hk3 := of_decide_eq_false hk3
  first | rw [if_neg hk3] at hKf | rw [if_neg hk3]
  fail "m"
  refine ⟨fun hk4 => ?_, fun hk4 => ?_⟩
  · have hk4 := of_decide_eq_true hk4
    first | rw [if_neg hk4] at hKf | rw [if_neg hk4]
    fail "m"
    exact Ends0.ret
  have hk4 : s = Str.ofString "strong" := by simpa using of_decide_eq_false hk4
  first | rw [if_pos hk4] at hKf | rw [if_pos hk4]
  fail "m"
  refine modN_ (y := 2) (by decide) ?_
  fail "m"
  refine ⟨fun h3 => ?_, fun h3 => ?_⟩
  · have h3 := of_decide_eq_true h3
    fail "m"
    refine .inl ?_
    rw [decide_eq_false (by (first | fail "m r" | (clear hn2 hz bad h1 h2; omega)))]; rfl
  have h3 := of_decide_eq_false h3
  first | rw [decide_eq_true (show n % 2 ≠ 0 by fail "m o"), Bool.true_and] at hKf | rw [decide_eq_true (show n % 2 ≠ 0 by fail "m o"), Bool.true_and]
  obtain ⟨ht, hq⟩ := tzN_ok n (n - 1) (by (first | fail "m r" | (clear hz bad h3; omega))) (by (first | fail "m r" | (clear hn2 hz bad h1 h2 h3; omega)))
  unfold strongB at hKf
  fail "m"
  first | rw [cast] at hKf | rw [cast]
  refine whileI_ (fun v Γ σ => ∃ f j, σ = [] ∧ Has Γ "n" (.int (n : Nat)) ∧ Has Γ "a" (.int (a : Nat)) ∧ Has Γ "odd" (.int (v : Nat)) ∧ 0 < v ∧ v ≤ f ∧ 2 ^ j * v = n - 1 ∧ tzN f v + j = tzN n (n - 1)) ⟨n - 1, n, 0, rfl, rfl, rfl, rfl, by (first | fail "m r" | (clear hz bad h3 hq; omega)), by (first | fail "m r" | (clear hn2 hz bad h1 h2 h3 ht hq; omega)), by rw [Nat.pow_zero, Nat.one_mul], rfl⟩ ?_
  refine fun v J hJ Γ => st2 (fun f j => an7 fun i1 i2 i3 i4 i5 i6 i7 => ?_)
  obtain ⟨f, rfl⟩ : ∃ g, f = g + 1 := ⟨f - 1, by (first | fail "m r" | (clear hn2 hz bad h1 h2 cast h3 ht hq i6 i7; omega))⟩
  fail "m"
  refine modN_ (y := 2) (by decide) ?_
  fail "m"
  rw [tzN] at i7
  refine ⟨fun hc => ?_, fun hc => ?_⟩
  · have hc : v % 2 = 0 := by have := of_decide_eq_true hc; fail "m o"
    rw [if_pos hc] at i7
    fail "m"
    refine divN_ (y := 2) (by decide) (by decide) ?_
    fail "m"
    exact ⟨v / 2, by (first | fail "m r" | (clear hn2 hz bad h1 h2 cast h3 ht hq i6 i5 i7; omega)), f, j + 1, rfl, i1, i2, rfl, by (first | fail "m r" | (clear hn2 hz bad h1 h2 cast h3 ht hq i6 i5 i7; omega)), by (first | fail "m r" | (clear hn2 hz bad h1 h2 cast h3 ht hq i6 i7; omega)), by rw [Nat.pow_succ, Nat.mul_assoc, show 2 * (v / 2) = v by (first | fail "m r" | (clear hn2 hz bad h1 h2 cast h3 ht hq i4 i6 i5 i7; omega)), i6], by (first | fail "m r" | (clear hn2 hz bad h1 h2 cast h3 ht hq i4 i6 i5 hc; omega))⟩
  · have hc : ¬ v % 2 = 0 := by have := of_decide_eq_false hc; fail "m o"
    rw [if_neg hc, Nat.zero_add] at i7
    rw [← i7] at ht hKf
    have hv : v = (n - 1) / 2 ^ j := by rw [← i6, Nat.mul_div_cancel_left _ (Nat.pow_pos (by decide))]
    rw [← hv] at ht hKf
    fail "m"
    refine powN_ (by (first | fail "m r" | (clear hz bad h3 hq i4 i6 i5 i7 hc hv; omega))) ?_
    fail "m"
    refine ⟨fun hp => ?_, fun hp => ?_⟩
    · have hp := of_decide_eq_true hp
      fail "m"
      refine .inl ?_
      rw [decide_eq_false (by (first | fail "m r" | (clear hn2 hz bad h1 h2 cast h3 hq ht i4 i6 i5 i7 hc hv; omega)))]; rfl
    have hp := of_decide_eq_false hp
    first | rw [decide_eq_true (show a ^ v % n ≠ 1 by fail "m o"), Bool.true_and] at hKf | rw [decide_eq_true (show a ^ v % n ≠ 1 by fail "m o"), Bool.true_and]
    fail "m"
    refine whileI_ (fun m Γ σ => ∃ i, σ = [] ∧ i + m = j ∧ Has Γ "n" (.int (n : Nat)) ∧ Has Γ "a" (.int (a : Nat)) ∧ Has Γ "odd" (.int (v * 2 ^ i : Nat)) ∧ ∀ i' < i, a ^ (v * 2 ^ i') % n ≠ n - 1) ⟨j, 0, rfl, by fail "m o", i1, i2, by rw [Nat.pow_zero, Nat.mul_one]; exact i3, fun i' h => absurd h (Nat.not_lt_zero _)⟩ ?_
    refine fun m J hJ Γ => st1 (fun i => an5 fun him j1 j2 j3 j4 => ?_)
    fail "m"
    first | rw [cast] at hKf | rw [cast]
    have hvj : v * 2 ^ j = n - 1 := by rw [Nat.mul_comm]; exact i6
    refine ⟨fun hw => ?_, fun hw => ?_⟩
    · have hw : v * 2 ^ i < n - 1 := by have := of_decide_eq_true hw; fail "m o"
      have hij : i < j := by
        rcases Nat.lt_or_ge i j with z | z
        · exact z
        · have := Nat.mul_le_mul_left v (Nat.pow_le_pow_right (show 0 < 2 by decide) z)
          (first | fail "m r" | (clear hn2 hz bad h1 h2 cast h3 hq i4 i6 i5 i7 hc hv hp him z; omega))
      fail "m"
      refine powN_ (by (first | fail "m r" | (clear hz bad h1 h2 h3 hq i4 i6 i5 i7 hc hv hp him hij; omega))) ?_
      fail "m"
      refine ⟨fun he => ?_, fun he => ?_⟩
      · have he : a ^ (v * 2 ^ i) % n = n - 1 := by have := of_decide_eq_true he; (first | fail "m r" | (clear hn2 hz bad h1 h2 h3 hq i4 i6 i5 i7 hc hv hp him hw hij; omega))
        fail "m"
        refine .inl ?_
        congr 1
        symm
        rw [← Bool.not_eq_true, List.all_eq_true]
        intro z
        exact of_decide_eq_true (z i (List.mem_range.mpr hij)) he
      · have he : a ^ (v * 2 ^ i) % n ≠ n - 1 := by have := of_decide_eq_false he; (first | fail "m r" | (clear hn2 hz bad h1 h2 h3 hq i4 i6 i5 i7 hc hv hp him hw hij; omega))
        fail "m"
        refine W2.mul (.of_left (by decide)) ?_
        fail "m"
        refine ⟨m - 1, by (first | fail "m r" | (clear hn2 hz bad h1 h2 cast h3 hq ht i4 i6 i5 hc hv hp hvj hw he; omega)), i + 1, rfl, by (first | fail "m r" | (clear hn2 hz bad h1 h2 cast h3 hq ht i4 i6 i5 hc hv hp hvj hw he; omega)), j1, j2, ?_, fun i' h => ?_⟩
        · show _ = _
          rw [Nat.pow_succ, ← Nat.mul_assoc, Nat.mul_comm _ 2, Int.natCast_mul 2]; rfl
        · rcases Nat.lt_or_ge i' i with z | z
          · exact j4 i' z
          · have : i' = i := by (first | fail "m r" | (clear hn2 hz bad h1 h2 cast h3 hq ht i4 i6 i5 i7 hc hv hp him hvj hw hij he; omega))
            subst this; exact he
    · have hw : ¬ v * 2 ^ i < n - 1 := by have := of_decide_eq_false hw; fail "m o"
      have hij : i = j := by
        rcases Nat.lt_or_ge i j with z | z
        · have h8 : v * 2 ^ (i + 1) ≤ v * 2 ^ j := Nat.mul_le_mul_left v (Nat.pow_le_pow_right (by decide) z)
          rw [Nat.pow_succ, ← Nat.mul_assoc] at h8
          have : 0 < v * 2 ^ i := Nat.mul_pos i4 (Nat.pow_pos (by decide))
          (first | fail "m r" | (clear hn2 hz bad h1 h2 cast h3 hq i4 i6 i5 i7 hc hv hp him z; omega))
        · (first | fail "m r" | (clear hn2 hz bad h1 h2 cast h3 hq ht i4 i6 i5 hc hv hp hvj hw; omega))
      subst hij
      fail "m"
      refine .inl ?_
      congr 1
      symm
      rw [List.all_eq_true]
      intro i' hi
      exact decide_eq_true (j4 i' (List.mem_range.mp hi))
end
noncomputable def nthD (x : D) (i : Nat) : D := x.items.getD i .none
noncomputable def prs (B : Nat) (d : D) : List Pr := d.items.map (toPr B)
noncomputable def prattIn (B n : Nat) (sub : Nat → D → Bool) : List D → Bool
  | [c, pd] => isRow B c && (areB B 3 pd && (decide (3 ≤ n) && ((decide (2 ≤ valD B c) && decide (valD B c < n)) && (decide (prodL (prs B pd) = n - 1) && (orderB n (valD B c) (prs B pd) && pd.items.all fun x => sub (toPr B x).1 (nthD x 2))))))
  | _ => false
noncomputable def prattS (B : Nat) : Nat → Nat → D → Bool
  | 0, _, _ => false
  | f + 1, n, d => match d with
    | .tup (.str s :: r) =>
      if s = Str.ofString "small" then r.isEmpty && (decide (n < 32) && primeB n)
      else if s = Str.ofString "pratt" then prattIn B n (prattS B f) r
      else false
    | _ => false
theorem prattS_str {B f n : Nat} {s : Str} {r : List D} : prattS B (f + 1) n (.tup (.str s :: r)) = if s = Str.ofString "small" then r.isEmpty && (decide (n < 32) && primeB n)
      else if s = Str.ofString "pratt" then prattIn B n (prattS B f) r
      else false := rfl
theorem smallPrime : ∀ n, n < 32 → lawPrime n = primeB n := by
  have : ((List.range 32).all fun n => lawPrime n == primeB n) = true := by decide +kernel
  intro n h
  simpa using List.all_eq_true.mp this n (List.mem_range.mpr h)
theorem areB_tup {B size f : Nat} (hB : 2 ≤ B) {d : D} (hw : Wd B f d) (h : areB B size d = true) :
    ∃ ps : List Pr, d = .tup (ps.map (pairD B)) ∧ prs B d = ps ∧ ps.length ≤ 64 ∧ ∀ p ∈ ps, (2 ≤ p.1 ∧ p.1 ≤ 1024 ∧ 1 ≤ p.2.1 ∧ p.2.2.length + 2 = size) ∧ ∀ x ∈ p.2.2, Wd B (f - 2) x := by
  cases d with
  | tup l =>
    obtain ⟨f, rfl⟩ : ∃ g, f = g + 1 := by
      cases f with
      | zero => exact hw.elim
      | succ f => exact ⟨f, rfl⟩
    have hw := hw.tup
    rw [areB, Bool.and_eq_true] at h
    have each : ∀ x ∈ l, x = pairD B (toPr B x) ∧ (2 ≤ (toPr B x).1 ∧ (toPr B x).1 ≤ 1024 ∧ 1 ≤ (toPr B x).2.1 ∧ (toPr B x).2.2.length + 2 = size) ∧ ∀ y ∈ (toPr B x).2.2, Wd B (f + 1 - 2) y := fun x hx => by
      have hg := List.all_eq_true.mp h.1 x hx
      rw [goodB, Bool.and_eq_true, decide_eq_true_iff] at hg
      obtain ⟨e, e1, e2⟩ := isPairB_pair hB hg.1
      have hwx := hw.2 x hx
      refine ⟨e, ?_⟩
      have hl := hg.2
      generalize toPr B x = p at *
      subst e
      obtain ⟨g, rfl⟩ : ∃ g, f = g + 1 := by
        cases f with
        | zero => exact hwx.elim
        | succ f => exact ⟨f, rfl⟩
      have hwx := hwx.tup.2
      have hle := (hwx _ (List.mem_cons_self ..)).rowLe (isRow_ofRow hB p.1).1
      rw [(isRow_ofRow hB _).2] at hle
      exact ⟨⟨e1, hle, e2, hl⟩, fun y hy => hwx y (by simp [hy])⟩
    refine ⟨l.map (toPr B), ?_, rfl, by rw [List.length_map]; exact hw.1, ?_⟩
    · rw [List.map_map]
      congr 1
      conv => lhs; rw [← List.map_id l]
      exact List.map_congr_left fun x hx => (each x hx).1
    · intro p hp
      obtain ⟨x, hx, rfl⟩ := List.mem_map.mp hp
      exact (each x hx).2
  | _ => cases h
theorem toldOk_are {B size : Nat} {d : D} : toldOk B size d = (areB B size d && (prs B d).all fun p => decide (p.2.1 < 100)) := by
  cases d with
  | tup l =>
    rw [toldOk, areB, prs, D.items, List.all_map]
    rw [Bool.eq_iff_iff]
    simp only [Bool.and_eq_true, List.all_eq_true, Function.comp_apply]
    constructor
    · rintro ⟨h1, h2⟩; exact ⟨⟨fun x hx => (h1 x hx).1, h2⟩, fun x hx => (h1 x hx).2⟩
    · rintro ⟨⟨h1, h2⟩, h3⟩; exact ⟨fun x hx => ⟨h1 x hx, h3 x hx⟩, h2⟩
  | _ => rfl
theorem prodL_big : ∀ {ps : List Pr}, (∀ p ∈ ps, 2 ≤ p.1) → ∀ p ∈ ps, 2 ^ p.2.1 ≤ prodL ps
  | [], _, p, h => by simp at h
  | q :: ps, h2, p, h => by
    have hr := prodL_pos ps fun x hx => Nat.le_trans (by decide) (h2 x (List.mem_cons_of_mem _ hx))
    have hq : 1 ≤ q.1 ^ q.2.1 := Nat.pow_pos (Nat.le_trans (by decide) (h2 q (List.mem_cons_self ..)))
    rcases List.mem_cons.mp h with rfl | h
    · exact Nat.le_trans (Nat.pow_le_pow_left (h2 p (List.mem_cons_self ..)) _) (Nat.le_mul_of_pos_right _ hr)
    · exact Nat.le_trans (prodL_big (fun x hx => h2 x (List.mem_cons_of_mem _ hx)) p h) (Nat.le_mul_of_pos_left _ hq)
theorem exp_small {ps : List Pr} {m : Nat} (h2 : ∀ p ∈ ps, 2 ≤ p.1) (hm : prodL ps ≤ m) (hm2 : m ≤ 1024) : ∀ p ∈ ps, p.2.1 < 100 := fun p hp => by
  have h1 := prodL_big h2 p hp
  rcases Nat.lt_or_ge p.2.1 100 with q | q
  · exact q
  · have h3 : 2 ^ 11 ≤ 2 ^ p.2.1 := Nat.pow_le_pow_right (by decide) (by fail "m o")
    (first | fail "m r" | (clear q; omega))
theorem prodW_le : ∀ {ps : List Pr} {w i : Nat}, (∀ p ∈ ps, 1 ≤ p.1) → prodW w i ps ≤ prodL ps
  | [], _, _, _ => Nat.le_refl _
  | p :: ps, w, i, h => by
    rw [prodW, prodL]
    exact Nat.mul_le_mul (Nat.pow_le_pow_right (h p (List.mem_cons_self ..)) (by fail "m o")) (prodW_le fun x hx => h x (List.mem_cons_of_mem _ hx))
theorem prodW_out : ∀ {ps : List Pr} {w i : Nat}, w < i → prodW w i ps = prodL ps
  | [], _, _, _ => rfl
  | p :: ps, w, i, h => by
    rw [prodW, prodL, if_neg (by fail "m o"), prodW_out (by fail "m o")]; rfl
theorem prodW_mul : ∀ {ps : List Pr} {i j : Nat} {p : Pr}, ps[j]? = some p → (∀ p ∈ ps, 1 ≤ p.2.1) → prodW (i + j) i ps * p.1 = prodL ps
  | [], _, _, _, h, _ => by simp at h
  | q :: ps, i, 0, p, h, h1 => by
    cases h
    have := h1 q (List.mem_cons_self ..)
    rw [prodW, prodL, Nat.add_zero, if_pos rfl, prodW_out (Nat.lt_succ_self i), Nat.mul_right_comm, ← Nat.pow_succ]
    congr 2
    show q.2.1 - 1 + 1 = _
    fail "m o"
  | q :: ps, i, j + 1, p, h, h1 => by
    have := prodW_mul (ps := ps) (i := i + 1) (j := j) (p := p) (by simpa using h) fun x hx => h1 x (List.mem_cons_of_mem _ hx)
    rw [prodW, prodL, if_neg (by (first | fail "m r" | (clear this; omega))), show i + (j + 1) = i + 1 + j by (first | fail "m r" | (clear this; omega)), Nat.mul_assoc, this]; rfl
theorem orderB_eq {n a : Nat} {ps : List Pr} (hp : prodL ps = n - 1) (h1 : ∀ p ∈ ps, 1 ≤ p.1 ∧ 1 ≤ p.2.1) :
    orderB n a ps = (decide (a ^ (n - 1) % n = 1) && ps.all fun p => decide (a ^ ((n - 1) / p.1) % n ≠ 1)) := by
  unfold orderB
  congr 1
  have key : ∀ i p, ps[i]? = some p → prodW i 0 ps = (n - 1) / p.1 := fun i p h => by
    have := prodW_mul (i := 0) h fun p hp => (h1 p hp).2
    rw [Nat.zero_add, hp] at this
    rw [← this, Nat.mul_div_cancel _ (h1 p (List.mem_of_getElem? h)).1]
  rw [Bool.eq_iff_iff, List.all_eq_true, List.all_eq_true]
  constructor
  · intro h p hp
    obtain ⟨i, hi, e⟩ := List.getElem_of_mem hp
    have := h i (List.mem_range.mpr hi)
    rwa [key i p (by rw [List.getElem?_eq_getElem hi, e])] at this
  · intro h i hi
    have hi := List.mem_range.mp hi
    rw [key i ps[i] (List.getElem?_eq_getElem hi)]
    exact h _ (List.getElem_mem hi)
theorem prodN_map : ∀ ps : List Pr, prodN (ps.map fun p => (p.1, p.2.1)) = prodL ps
  | [] => rfl
  | p :: ps => by rw [List.map_cons, prodN, prodL, prodN_map ps]
section
variable {prog : Program} {w : World} {b : Heap} {C : Cx} {Γ : Vars} {σ : Store} {Q : D → Store → Prop}
theorem neBound_ {B n y : Nat} {ps : List Pr} (hB : 2 ≤ B) (ok : C.Ok) (hy : y ≤ n) (h : Q (.bool (!decide (prodL ps = y))) σ) : W2 (model prog w) b C (compareOp .NotEq) (boundD B n ps) (row B y) Γ σ Q := by
  unfold boundD
  by_cases hle : prodL ps ≤ n
  · rw [if_pos hle]
    refine neRow_ hB ok ?_
    have e : decide (prodL ps ≠ y) = !decide (prodL ps = y) := by simp
    rw [e]; exact h
  · rw [if_neg hle]
    refine W2.ned ok (p := .none) (by rfl) (pd_nats _) (by unfold SeqAt.shaped; simp [PyData.canLay0, PyData.depth]) (shaped_nats _) ?_
    rw [decide_eq_false (by (first | fail "m r" | (clear hB; omega)))] at h
    rw [PyData.eqv]; exact h
variable {k : Nat} (B : Base (hd.heap_39 w.params) b) (hk : 1 ≤ k ∧ k ≤ 9)
include B hk
theorem c_pratt_holds : ∀ (f n : Nat) (d : D), Wd (2 ^ k) f d → n ≤ 1024 → f ≤ 60 → Fn0 (model prog w) b (f + 6) (.ref 197) [row (2 ^ k) n, d, .int (k : Nat), toolsD] (.bool (prattS (2 ^ k) f n d)) := by
  have hz := sz
  have hB : 2 ≤ 2 ^ k := pow_ge hk.1
  intro f
  induction f with
  | zero => intro n d hd'; exact hd'.elim
  | succ f ih =>
  intro n d hd' hn hf
  refine Fn0.intro B (names := ["n", "value", "w", "tools"]) ⟨by with_unfolding_all rfl, ?fnb, by with_unfolding_all rfl, by with_unfolding_all rfl, by decide, by with_unfolding_all rfl, by with_unfolding_all rfl, by with_unfolding_all rfl⟩ rfl (by fail "m o") (fun A L Kf hKf ok => ?_)
  case fnb => exact len4 (P := fun vs => bindArgs _ ⟨vs, []⟩ = pure (List.zip _ vs)) (fun x0 x1 x2 x3 => by with_unfolding_all rfl)
  dsimp only [List.zip, List.zipWith]
  fail "m"
  refine isi_ (T := .tuple) hd'.easy ?_
  fail "m"
  refine ⟨fun hc => ?_, fun hc => ?_⟩
  · rw [Bool.not_eq_true'] at hc
    fail "m"
    refine .inl ?_
    cases d <;> first | rfl | exact ft hc | exact tf hc
  cases d with
  | tup l =>
    have hd' := hd'.tup
    fail "m"
    refine WV.lenT (by fail "m o") ?_
    fail "m"
    refine ⟨fun hl => ?_, fun hl => ?_⟩
    · have hl : l.length = 0 := by have := of_decide_eq_true hl; fail "m o"
      fail "m"
      refine .inl ?_
      rw [List.length_eq_zero_iff.mp hl]; rfl
    have hl : l.length ≠ 0 := by have := of_decide_eq_false hl; fail "m o"
    match l, hl with
    | [], hl => exact absurd rfl hl
    | c :: r, _ =>
      have hc' := (hd'.2 c (by simp)).easy
      fail "m"
      refine W2.itemT (d := c) (by decide) (by decide) rfl ?_
      fail "m"
      refine isi_ (T := .str) hc' ?_
      fail "m"
      refine ⟨fun h1 => ?_, fun h1 => ?_⟩
      · rw [Bool.not_eq_true'] at h1
        fail "m"
        refine .inl ?_
        cases c <;> first | rfl | exact ft h1 | exact tf h1
      cases c with
      | str s =>
        first | rw [prattS_str] at hKf | rw [prattS_str]
        fail "m"
        refine W2.itemT (d := .str s) (by decide) (by decide) rfl ?_
        fail "m"
        refine ⟨fun hs => ?_, fun hs => ?_⟩
        · first | rw [if_pos (of_decide_eq_true hs)] at hKf | rw [if_pos (of_decide_eq_true hs)]
          fail "m"
          refine WV.lenT (by fail "m o") ?_
          fail "m"
          refine ⟨fun hl => ?_, fun hl => ?_⟩
          · have hl : r.length ≠ 0 := by have := of_decide_eq_false hl; simp at this; fail "m o"
            fail "m"; refine .inl ?_
            rw [List.isEmpty_eq_false_iff.mpr (fun z => hl (by rw [z]; rfl))]; rfl
          · have hl : r.length = 0 := by have := of_decide_eq_true hl; simp at this; fail "m o"
            fail "m"
            refine WV.fn0 ok (c_is_small_prime B hk n (by fail "m o")) (by fail "m n") ?_
            fail "m"
            refine .inl ?_
            rw [List.length_eq_zero_iff.mp hl]; rfl
        first | rw [if_neg (of_decide_eq_false hs)] at hKf | rw [if_neg (of_decide_eq_false hs)]
        fail "m"
        refine W2.itemT (d := .str s) (by decide) (by decide) rfl ?_
        fail "m"
        refine ⟨fun hs2 => ?_, fun hs2 => ?_⟩
        · first | rw [if_neg (of_decide_eq_true hs2)] at hKf | rw [if_neg (of_decide_eq_true hs2)]
          fail "m"
          exact Ends0.ret
        have hs2 : s = Str.ofString "pratt" := by simpa using of_decide_eq_false hs2
        first | rw [if_pos hs2] at hKf | rw [if_pos hs2]
        fail "m"
        refine WV.lenT (by fail "m o") ?_
        fail "m"
        refine ⟨fun hl => ?_, fun hl => ?_⟩
        · have hl : r.length ≠ 2 := by have := of_decide_eq_true hl; simp at this; fail "m o"
          fail "m"
          refine .inl ?_
          match r, hl with
          | [], _ => rfl
          | [_], _ => rfl
          | [_, _], hl => exact absurd rfl hl
          | _ :: _ :: _ :: _, _ => rfl
        have hl : r.length = 2 := by have := of_decide_eq_false hl; simp at this; fail "m o"
        match r, hl with
        | [c, pd], _ =>
          have hwc := hd'.2 c (by simp)
          have hwp := hd'.2 pd (by simp)
          first | rw [prattIn] at hKf | rw [prattIn]
          fail "m"
          refine W2.itemT (d := c) (by decide) (by decide) rfl ?_
          fail "m"
          refine WV.fn0 ok (c_is_nat B hk c hwc.okRow) (by fail "m n") ?_
          fail "m"
          refine ⟨fun hr => ?_, fun hr => ?_⟩
          · rw [Bool.not_eq_true'] at hr
            fail "m"
            refine .inl ?_
            rw [hr]; rfl
          rw [Bool.not_eq_false'] at hr
          have hle := hwc.rowLe hr
          obtain ⟨a, ha⟩ : ∃ a, c = row (2 ^ k) a := ⟨_, isRow_row hB hr⟩
          subst ha
          rw [(isRow_ofRow hB a).2] at hle
          first | rw [(isRow_ofRow hB a).1, (isRow_ofRow hB a).2, Bool.true_and] at hKf | rw [(isRow_ofRow hB a).1, (isRow_ofRow hB a).2, Bool.true_and]
          fail "m"
          refine W2.itemT (d := pd) (by decide) (by decide) rfl ?_
          fail "m"
          refine WV.fn0 ok (c_are_pairs B hk f pd 3 hwp) (by fail "m n") ?_
          fail "m"
          refine ⟨fun hp => ?_, fun hp => ?_⟩
          · rw [Bool.not_eq_true'] at hp
            fail "m"
            refine .inl ?_
            rw [hp]; rfl
          rw [Bool.not_eq_false'] at hp
          first | rw [hp, Bool.true_and] at hKf | rw [hp, Bool.true_and]
          obtain ⟨ps, hps, hprs, hlen, hall⟩ := areB_tup hB hwp hp
          first | rw [hprs] at hKf | rw [hprs]
          subst hps
          have g1 : ∀ p ∈ ps, 1 ≤ p.1 ∧ p.1 ≤ 1024 := fun p hp => by have := (hall p hp).1; (first | fail "m r" | (clear hk hz hB hn hf hle hlen hd'; omega))
          fail "m"
          refine WV.fn0 ok (c_nat_of B hk 2 (by (first | fail "m r" | (clear hk hB hn hf hle hlen hd' hz; show _ ≤ 16777216; omega)))) (by fail "m n") ?_
          fail "m"
          refine WV.fn0 ok (c_compare B hB n 2 (by fail "m o") (by (first | fail "m r" | (clear hk hB hn hf hle hlen hd' hz; show _ ≤ 16777216; omega)))) (by fail "m n") ?_
          fail "m"
          refine ⟨fun hc1 => ?_, fun hc1 => ?_⟩
          · have hc1 := cmpN_npos.mp (of_decide_eq_true hc1)
            fail "m"
            refine .inl ?_
            rw [decide_eq_false (show ¬ 3 ≤ n by (first | fail "m r" | (clear hk hz hB hf hle hlen hd'; omega)))]; rfl
          have hc1 : ¬ n ≤ 2 := fun z => of_decide_eq_false hc1 (cmpN_npos.mpr z)
          first | rw [decide_eq_true (show 3 ≤ n by (first | fail "m r" | (clear hk hz hB hf hle hlen hd'; omega))), Bool.true_and] at hKf | rw [decide_eq_true (show 3 ≤ n by fail "m o"), Bool.true_and]
          fail "m"
          refine W2.itemT (d := row (2 ^ k) a) (by decide) (by decide) rfl ?_
          fail "m"
          refine WV.fn0 ok (c_nat_of B hk 2 (by (first | fail "m r" | (clear hk hB hn hf hle hlen hd' hc1 hz; show _ ≤ 16777216; omega)))) (by fail "m n") ?_
          fail "m"
          refine WV.fn0 ok (c_is_between B hB a 2 n (by fail "m o") (by (first | fail "m r" | (clear hk hB hn hf hle hlen hd' hc1 hz; show _ ≤ 16777216; omega))) (by fail "m o")) (by fail "m n") ?_
          fail "m"
          refine ⟨fun hb => ?_, fun hb => ?_⟩
          · rw [Bool.not_eq_true'] at hb
            fail "m"
            refine .inl ?_
            rw [hb]; rfl
          rw [Bool.not_eq_false'] at hb
          first | rw [hb, Bool.true_and] at hKf | rw [hb, Bool.true_and]
          fail "m"
          refine W2.itemT (d := .tup (ps.map (pairD (2 ^ k)))) (by decide) (by decide) rfl ?_
          unfold toolsD
          fail "m"
          refine WV.fn0 ok (c_product_bound B hk n ps (by (first | fail "m r" | (clear hk hz hB hf hle hlen hd'; omega))) hn (by fail "m o") g1) (by fail "m n") ?_
          fail "m"
          refine WV.fn0 ok (c_sub1 B hk n (by fail "m o") (by (first | fail "m r" | (clear hk hz hB hf hle hlen hd'; omega)))) (by fail "m n") ?_
          refine neBound_ hB ok (by (first | fail "m r" | (clear hk hz hB hf hle hlen hd'; omega))) ?_
          fail "m"
          refine ⟨fun hq => ?_, fun hq => ?_⟩
          · rw [Bool.not_eq_true'] at hq
            fail "m"
            refine .inl ?_
            rw [hq]; rfl
          rw [Bool.not_eq_false'] at hq
          first | rw [hq, Bool.true_and] at hKf | rw [hq, Bool.true_and]
          have hq := of_decide_eq_true hq
          have hexp := exp_small (m := n) (fun p hp => (hall p hp).1.1) (by (first | fail "m r" | (clear hk hz hB hf hle hlen hd'; omega))) hn
          fail "m"
          refine W2.itemT (d := row (2 ^ k) a) (by decide) (by decide) rfl ?_
          fail "m"
          refine W2.itemT (d := .tup (ps.map (pairD (2 ^ k)))) (by decide) (by decide) rfl ?_
          fail "m"
          refine WV.fn0 ok (c_has_whole_order B hk a n ps _ (.inr rfl) (by fail "m o") (by (first | fail "m r" | (clear hk hz hB hf hle hlen hd' hq; omega))) (by fail "m o") (by fail "m o") (fun p hp => ⟨(g1 p hp).1, by have := (g1 p hp).2; fail "m o", (hall p hp).1.2.2.1, by have := hexp p hp; fail "m o"⟩) (fun i => Nat.le_trans (prodW_le fun p hp => (g1 p hp).1) (by (first | fail "m r" | (clear hk hB hf hle hlen hd' hz; show _ ≤ 16777216; omega))))) (by fail "m n") ?_
          fail "m"
          refine ⟨fun ho => ?_, fun ho => ?_⟩
          · rw [Bool.not_eq_true'] at ho
            fail "m"
            refine .inl ?_
            rw [ho]; rfl
          rw [Bool.not_eq_false'] at ho
          first | rw [ho, Bool.true_and] at hKf | rw [ho, Bool.true_and]
          fail "m"
          refine comp_ (p := fun _ => true) (f := fun x => .bool (prattS (2 ^ k) f (toPr (2 ^ k) x).1 (nthD x 2))) [("w", L + 1), ("tools", L + 2)] [("w", .int (k : Nat)), ("tools", toolsD)] ok ?_ (fun L' => ⟨⟨by with_unfolding_all rfl, .inl (by with_unfolding_all rfl), .inl (by with_unfolding_all rfl), _, by with_unfolding_all rfl, by with_unfolding_all rfl⟩, ⟨by with_unfolding_all rfl, .inl (by with_unfolding_all rfl), .inl (by with_unfolding_all rfl), _, by with_unfolding_all rfl, by with_unfolding_all rfl⟩, trivial⟩) (by with_unfolding_all rfl) ⟨by with_unfolding_all rfl, by with_unfolding_all rfl, trivial⟩ (by dsimp only [List.map]; decide) (by decide) (by with_unfolding_all rfl) (by decide) (by intro _; with_unfolding_all rfl)
          fail "m"
          refine W2.itemT (d := .tup (ps.map (pairD (2 ^ k)))) (by decide) (by decide) rfl ?_
          refine ⟨rfl, _, .tup _, by rw [List.length_map]; fail "m o", ?_, ?_⟩
          · intro L' ok' x hx
            obtain ⟨p, hp, rfl⟩ := List.mem_map.mp hx
            obtain ⟨⟨a1, a2, a3, a4⟩, a5⟩ := hall p hp
            refine turn0 (WAL.name ok' ?_ (by with_unfolding_all rfl))
            refine ⟨rfl, fun _ => ?_⟩
            first | rw [(isPairB_of hB p).2] at hKf | rw [(isPairB_of hB p).2]
            obtain ⟨p1, p2, p3⟩ := p
            match p3, a4 with
            | [c3], _ =>
              fail "m"
              refine W2.itemT (d := row (2 ^ k) p1) (by decide) (by decide) rfl ?_
              fail "m"
              refine W2.itemT (d := c3) (by decide) (by decide) rfl ?_
              fail "m"
              refine WV.fn0 ok' (ih p1 c3 ((a5 c3 (by simp)).mono (by (first | fail "m r" | (clear hk hz hB hn hle hlen hd' hc1 hq a4 a1 a2 a3; omega)))) a2 (by fail "m o")) (Nat.le_refl _) ?_
              fail "m"
              exact ⟨rfl, rfl⟩
          · first | rw [List.filter_eq_self.mpr (fun _ _ => rfl)] at hKf | rw [List.filter_eq_self.mpr (fun _ _ => rfl)]
            fail "m"
            have e : (ps.map (pairD (2 ^ k))).map (fun x => D.bool (prattS (2 ^ k) f (toPr (2 ^ k) x).1 (nthD x 2))) = ((ps.map (pairD (2 ^ k))).map fun x => prattS (2 ^ k) f (toPr (2 ^ k) x).1 (nthD x 2)).map D.bool := by
              rw [List.map_map, List.map_map, List.map_map]; rfl
            first | rw [e] at hKf | rw [e]
            refine WV.all ok ?_
            fail "m"
            refine .inl ?_
            rw [List.all_map]; rfl
      | _ => first | exact ft h1 | exact tf h1
  | _ => first | exact ft hc | exact tf hc
end
theorem isNone_pairsD (l : List (Nat × Nat)) : (pairsD l).isNone = false := rfl
theorem filter_ne {α : Type} (p : α → Bool) (l : List α) : (l.filter p).isEmpty = l.all fun x => !p x := by
  induction l with
  | nil => rfl
  | cons x l ih =>
    rw [List.all_cons, List.filter_cons]
    cases p x <;> simp [ih]
theorem isEmpty_map {α β : Type} (g : α → β) (l : List α) : (l.map g).isEmpty = l.isEmpty := by cases l <;> rfl
section
variable {prog : Program} {w : World} {b : Heap} {C : Cx} {Γ : Vars} {σ : Store} {Q : D → Store → Prop}
variable {k : Nat} (B : Base (hd.heap_39 w.params) b) (hk : 1 ≤ k ∧ k ≤ 9)
include B hk
theorem c_law_pratt : ∀ (f n : Nat) (d : D), Wd (2 ^ k) f d → n ≤ 1024 → f ≤ 60 → Fn0 (model prog w) b (f + 6) (.ref 371) [.int (n : Nat), d, .int (k : Nat)] (.bool (prattS (2 ^ k) f n d)) := by
  have hz := sz
  have hB : 2 ≤ 2 ^ k := pow_ge hk.1
  intro f
  induction f with
  | zero => intro n d hd'; exact hd'.elim
  | succ f ih =>
  intro n d hd' hn hf
  refine Fn0.intro B (names := ["n", "value", "w"]) ⟨by with_unfolding_all rfl, ?fnb, by with_unfolding_all rfl, by with_unfolding_all rfl, by decide, by with_unfolding_all rfl, by with_unfolding_all rfl, by with_unfolding_all rfl⟩ rfl (by fail "m o") (fun A L Kf hKf ok => ?_)
  case fnb => exact len3 (P := fun vs => bindArgs _ ⟨vs, []⟩ = pure (List.zip _ vs)) (fun x0 x1 x2 => by with_unfolding_all rfl)
  dsimp only [List.zip, List.zipWith]
  fail "m"
  refine isi_ (T := .tuple) hd'.easy ?_
  fail "m"
  refine ⟨fun hc => ?_, fun hc => ?_⟩
  · rw [Bool.not_eq_true'] at hc
    fail "m"
    refine .inl ?_
    cases d <;> first | rfl | exact ft hc | exact tf hc
  cases d with
  | tup l =>
    have hd' := hd'.tup
    fail "m"
    refine eqNilT_ (f := f) ok (by fail "m o") hd'.2 ?_
    fail "m"
    refine ⟨fun hl => ?_, fun hl => ?_⟩
    · fail "m"
      refine .inl ?_
      rw [List.isEmpty_iff.mp hl]; rfl
    match l, hl with
    | c :: r, _ =>
      have hc' := (hd'.2 c (by simp)).easy
      fail "m"
      refine W2.itemT (d := c) (by decide) (by decide) rfl ?_
      fail "m"
      refine isi_ (T := .str) hc' ?_
      fail "m"
      refine ⟨fun h1 => ?_, fun h1 => ?_⟩
      · rw [Bool.not_eq_true'] at h1
        fail "m"
        refine .inl ?_
        cases c <;> first | rfl | exact ft h1 | exact tf h1
      cases c with
      | str s =>
        first | rw [prattS_str] at hKf | rw [prattS_str]
        fail "m"
        refine W2.itemT (d := .str s) (by decide) (by decide) rfl ?_
        fail "m"
        refine ⟨fun hs => ?_, fun hs => ?_⟩
        · first | rw [if_pos (of_decide_eq_true hs)] at hKf | rw [if_pos (of_decide_eq_true hs)]
          fail "m"
          refine WV.lenT (by fail "m o") ?_
          fail "m"
          refine ⟨fun hl => ?_, fun hl => ?_⟩
          · have hl : r.length ≠ 0 := by have := of_decide_eq_false hl; simp at this; fail "m o"
            fail "m"; refine .inl ?_
            rw [List.isEmpty_eq_false_iff.mpr (fun z => hl (by rw [z]; rfl))]; rfl
          · have hl : r.length = 0 := by have := of_decide_eq_true hl; simp at this; fail "m o"
            first | rw [List.length_eq_zero_iff.mp hl] at hKf | rw [List.length_eq_zero_iff.mp hl]
            fail "m"
            refine ⟨fun h32 => ?_, fun h32 => ?_⟩
            · have h32 : ¬ n < 32 := by have := of_decide_eq_false h32; fail "m o"
              fail "m"; refine .inl ?_
              rw [decide_eq_false h32]; rfl
            · have h32 : n < 32 := by have := of_decide_eq_true h32; fail "m o"
              fail "m"
              refine WV.fn0 ok (c_law_is_prime B n (by fail "m o")) (by fail "m n") ?_
              fail "m"
              refine .inl ?_
              rw [smallPrime n h32, decide_eq_true h32]; rfl
        first | rw [if_neg (of_decide_eq_false hs)] at hKf | rw [if_neg (of_decide_eq_false hs)]
        fail "m"
        refine W2.itemT (d := .str s) (by decide) (by decide) rfl ?_
        fail "m"
        refine ⟨fun hs2 => ?_, fun hs2 => ?_⟩
        · first | rw [if_neg (of_decide_eq_true hs2)] at hKf | rw [if_neg (of_decide_eq_true hs2)]
          fail "m"
          exact Ends0.ret
        have hs2 : s = Str.ofString "pratt" := by simpa using of_decide_eq_false hs2
        first | rw [if_pos hs2] at hKf | rw [if_pos hs2]
        fail "m"
        refine WV.lenT (by fail "m o") ?_
        fail "m"
        refine ⟨fun hl => ?_, fun hl => ?_⟩
        · have hl : r.length ≠ 2 := by have := of_decide_eq_true hl; simp at this; fail "m o"
          fail "m"
          refine .inl ?_
          match r, hl with
          | [], _ => rfl
          | [_], _ => rfl
          | [_, _], hl => exact absurd rfl hl
          | _ :: _ :: _ :: _, _ => rfl
        have hl : r.length = 2 := by have := of_decide_eq_false hl; simp at this; fail "m o"
        match r, hl with
        | [c, pd], _ =>
          have hwc := hd'.2 c (by simp)
          have hwp := hd'.2 pd (by simp)
          first | rw [prattIn] at hKf | rw [prattIn]
          fail "m"
          refine W2.itemT (d := c) (by decide) (by decide) rfl ?_
          fail "m"
          refine WV.fn0 ok (c_law_is_row B hk f c hwc (by fail "m o")) (by fail "m n") ?_
          fail "m"
          refine ⟨fun hr => ?_, fun hr => ?_⟩
          · rw [Bool.not_eq_true'] at hr
            fail "m"
            refine .inl ?_
            rw [hr]; rfl
          rw [Bool.not_eq_false'] at hr
          have hle := hwc.rowLe hr
          obtain ⟨a, ha⟩ : ∃ a, c = row (2 ^ k) a := ⟨_, isRow_row hB hr⟩
          subst ha
          rw [(isRow_ofRow hB a).2] at hle
          first | rw [(isRow_ofRow hB a).1, (isRow_ofRow hB a).2, Bool.true_and] at hKf | rw [(isRow_ofRow hB a).1, (isRow_ofRow hB a).2, Bool.true_and]
          fail "m"
          refine ⟨fun h3 => ?_, fun h3 => ?_⟩
          · have h3 : ¬ 3 ≤ n := by have := of_decide_eq_true h3; (first | fail "m r" | (clear hk hz hB hf hd' hle; omega))
            fail "m"
            refine .inl ?_
            rw [decide_eq_false h3]; simp
          have h3 : 3 ≤ n := by have := of_decide_eq_false h3; fail "m o"
          first | rw [decide_eq_true h3, Bool.true_and] at hKf | rw [decide_eq_true h3, Bool.true_and]
          have la := dg_len hB a
          have cast : (n : Int) - 1 = ((n - 1 : Nat) : Int) := by fail "m o"
          fail "m"
          fail "m t"
          fail "m"
          refine W2.itemT (d := row (2 ^ k) a) (by decide) (by decide) rfl ?_
          fail "m"
          refine WV.fn0 ok (c_law_whole B hk.2 (dg (2 ^ k) a) (by (first | fail "m r" | (clear hk hB hn hf hd' h3 cast hz; show _ ≤ 16777216; omega)))) (by fail "m n") ?_
          first | rw [val_dg hB] at hKf | rw [val_dg hB]
          fail "m"
          refine W2.itemT (d := pd) (by decide) (by decide) rfl ?_
          fail "m"
          refine WV.fn0 ok (c_told B hk f pd 3 hwp (by fail "m o") (by decide)) (by fail "m n") ?_
          fail "m"
          refine ⟨_, rfl, rfl, ?_⟩
          dsimp only [bindAll, List.reverse, List.reverseAux]
          by_cases hto : toldOk (2 ^ k) 3 pd = true
          · have hto' := hto
            rw [toldOk_are, Bool.and_eq_true] at hto'
            obtain ⟨hp, hexp⟩ := hto'
            obtain ⟨ps, hps, hprs, hlen, hall⟩ := areB_tup hB hwp hp
            have g1 : ∀ p ∈ ps, 1 ≤ p.1 ∧ p.1 ≤ 1024 := fun p hp => by have := (hall p hp).1; (first | fail "m r" | (clear hk hz hB hn hf hd' hle h3 la cast hlen; omega))
            have hexp2 : ∀ p ∈ ps, p.2.1 < 100 := fun p hp => by
              rw [hprs] at hexp
              exact of_decide_eq_true (List.all_eq_true.mp hexp p hp)
            have htold : toldD (2 ^ k) 3 pd = pairsD (ps.map fun p => (p.1, p.2.1)) := by
              subst hps
              rw [toldD, if_pos hto, List.map_map]
              congr 1
              exact List.map_congr_left fun p _ => by rw [Function.comp_apply, (isPairB_of hB p).2]
            rw [htold]
            rw [hp, Bool.true_and, hprs] at hKf
            subst hps
            fail "m"
            first | rw [isNone_pairsD] at hKf | rw [isNone_pairsD]
            refine conjFF ?_
            fail "m"
            refine ⟨fun hb => ?_, fun hb => ?_⟩
            · have hb := of_decide_eq_false hb
              fail "m"
              refine .inl ?_
              rw [decide_eq_false (show ¬ 2 ≤ a by (first | fail "m r" | (clear hk hz hB hn hf h3 la cast hlen hd'; omega)))]; rfl
            have hb := of_decide_eq_true hb
            first | rw [decide_eq_true (show 2 ≤ a by (first | fail "m r" | (clear hk hz hB hn hf h3 la cast hlen hd'; omega))), Bool.true_and] at hKf | rw [decide_eq_true (show 2 ≤ a by fail "m o"), Bool.true_and]
            fail "m"
            refine ⟨fun hb2 => ?_, fun hb2 => ?_⟩
            · rw [Bool.not_eq_true'] at hb2
              have hb2 := of_decide_eq_false hb2
              fail "m"
              refine .inl ?_
              rw [decide_eq_false (show ¬ a < n by fail "m o")]; rfl
            rw [Bool.not_eq_false'] at hb2
            have hb2 := of_decide_eq_true hb2
            first | rw [decide_eq_true (show a < n by fail "m o"), Bool.true_and] at hKf | rw [decide_eq_true (show a < n by fail "m o"), Bool.true_and]
            fail "m"
            refine WV.fn0 ok (c_law_steps B (ps.map fun p => (p.1, p.2.1)) (by rw [List.length_map]; fail "m o") (fun q hq => by
              obtain ⟨p, hp, rfl⟩ := List.mem_map.mp hq
              exact ⟨(g1 p hp).2, hexp2 p hp⟩)) (by fail "m n") ?_
            first | rw [prodN_map] at hKf | rw [prodN_map]
            fail "m"
            first | rw [cast] at hKf | rw [cast]
            refine ⟨fun hq => ?_, fun hq => ?_⟩
            · have hq := of_decide_eq_true hq
              fail "m"
              refine .inl ?_
              rw [decide_eq_false (show ¬ prodL ps = n - 1 by fail "m o")]; rfl
            have hq : prodL ps = n - 1 := by have := of_decide_eq_false hq; fail "m o"
            first | rw [decide_eq_true hq, Bool.true_and, orderB_eq hq fun p hp => ⟨(g1 p hp).1, (hall p hp).1.2.2.1⟩] at hKf | rw [decide_eq_true hq, Bool.true_and, orderB_eq hq fun p hp => ⟨(g1 p hp).1, (hall p hp).1.2.2.1⟩]
            fail "m"
            first | rw [cast] at hKf | rw [cast]
            refine powN_ (by fail "m o") ?_
            fail "m"
            refine ⟨fun ho => ?_, fun ho => ?_⟩
            · have ho := of_decide_eq_true ho
              fail "m"
              refine .inl ?_
              rw [decide_eq_false (show ¬ a ^ (n - 1) % n = 1 by fail "m o")]; rfl
            have ho : a ^ (n - 1) % n = 1 := by have := of_decide_eq_false ho; fail "m o"
            first | rw [decide_eq_true ho, Bool.true_and] at hKf | rw [decide_eq_true ho, Bool.true_and]
            fail "m"
            refine comp_ (p := fun d => match d with | .tup [.int p, _] => decide (a ^ ((n - 1) / p.toNat) % n = 1) | _ => false) (f := fun d => match d with | .tup [.int p, _] => .int p | d => d) [("n", L + 1), ("base", L + 3)] [("n", .int (n : Nat)), ("base", .int (a : Nat))] ok ?_ (fun L' => ⟨⟨by with_unfolding_all rfl, .inl (by with_unfolding_all rfl), .inl (by with_unfolding_all rfl), _, by with_unfolding_all rfl, by with_unfolding_all rfl⟩, ⟨by with_unfolding_all rfl, .inl (by with_unfolding_all rfl), .inl (by with_unfolding_all rfl), _, by with_unfolding_all rfl, by with_unfolding_all rfl⟩, trivial⟩) (by with_unfolding_all rfl) ⟨by with_unfolding_all rfl, by with_unfolding_all rfl, trivial⟩ (by dsimp only [List.map]; decide) (by decide) (by with_unfolding_all rfl) (by decide) (by intro _; with_unfolding_all rfl)
            fail "m"
            refine ⟨rfl, _, .list _, by rw [List.length_map, List.length_map]; fail "m o", ?_, ?_⟩
            · intro L' ok' x hx
              obtain ⟨q, hq, rfl⟩ := List.mem_map.mp hx
              obtain ⟨p, hp, rfl⟩ := List.mem_map.mp hq
              have := (hall p hp).1
              refine turnIf (WAL.tup ok' rfl rfl (by with_unfolding_all rfl) ?_)
              dsimp only [bindAll]
              fail "m"
              first | rw [cast] at hKf | rw [cast]
              refine divN_ (by fail "m o") (by (first | fail "m r" | (clear hk hz hB hn hf hle h3 la cast hlen hd' hb hb2 ho; omega))) ?_
              fail "m"
              refine powN_ (by fail "m o") ?_
              fail "m"
              refine ⟨rfl, ?_, fun _ => ?_⟩
              · show _ = decide (a ^ ((n - 1) / ((p.1 : Int).toNat)) % n = 1)
                first | rw [Int.toNat_natCast, Bool.eq_iff_iff, decide_eq_true_iff, decide_eq_true_iff] at hKf | rw [Int.toNat_natCast, Bool.eq_iff_iff, decide_eq_true_iff, decide_eq_true_iff]
                (first | fail "m r" | (clear hk hz hB hn hf hle h3 la cast hlen hd' hb hb2 ho this; omega))
              · fail "m"
                exact ⟨rfl, rfl⟩
            fail "m"
            refine neNil_ (B := 2) (f := 1) ok (by decide) (fun x hx => ?_) ?_
            · obtain ⟨y, hy, rfl⟩ := List.mem_map.mp hx
              have hy := (List.mem_filter.mp hy).1
              obtain ⟨q, hq, rfl⟩ := List.mem_map.mp hy
              trivial
            first | rw [isEmpty_map, filter_ne] at hKf | rw [isEmpty_map, filter_ne]
            have hord : ((ps.map fun p => (p.1, p.2.1)).map pairND).all (fun x => !(match x with | .tup [.int p, _] => decide (a ^ ((n - 1) / p.toNat) % n = 1) | _ => false)) = ps.all fun p => decide (a ^ ((n - 1) / p.1) % n ≠ 1) := by
              first | rw [List.all_map, List.all_map] at hKf | rw [List.all_map, List.all_map]
              congr 1
              funext p
              show (!decide (a ^ ((n - 1) / ((p.1 : Int).toNat)) % n = 1)) = _
              rw [Int.toNat_natCast]; simp
            first | rw [hord] at hKf | rw [hord]
            fail "m"
            refine ⟨fun h4 => ?_, fun h4 => ?_⟩
            · rw [Bool.not_eq_true'] at h4
              fail "m"
              refine .inl ?_
              rw [h4]; rfl
            rw [Bool.not_eq_false'] at h4
            first | rw [h4, Bool.true_and] at hKf | rw [h4, Bool.true_and]
            fail "m"
            refine comp_ (p := fun x => !prattS (2 ^ k) f (toPr (2 ^ k) x).1 (nthD x 2)) (f := fun _ => .int 1) [("w", L + 2)] [("w", .int (k : Nat))] ok ?_ (fun L' => ⟨⟨by with_unfolding_all rfl, .inl (by with_unfolding_all rfl), .inl (by with_unfolding_all rfl), _, by with_unfolding_all rfl, by with_unfolding_all rfl⟩, trivial⟩) (by with_unfolding_all rfl) ⟨by with_unfolding_all rfl, trivial⟩ (by dsimp only [List.map]; decide) (by decide) (by with_unfolding_all rfl) (by decide) (by intro _; with_unfolding_all rfl)
            fail "m"
            refine W2.itemT (d := .tup (ps.map (pairD (2 ^ k)))) (by decide) (by decide) rfl ?_
            refine ⟨rfl, _, .tup _, by rw [List.length_map]; fail "m o", ?_, ?_⟩
            · intro L' ok' x hx
              obtain ⟨p, hp, rfl⟩ := List.mem_map.mp hx
              obtain ⟨⟨a1, a2, a3, a4⟩, a5⟩ := hall p hp
              refine turnIf (WAL.name ok' ?_ (by with_unfolding_all rfl))
              first | rw [(isPairB_of hB p).2] at hKf | rw [(isPairB_of hB p).2]
              obtain ⟨p1, p2, p3⟩ := p
              have lp := dg_len hB p1
              match p3, a4 with
              | [c3], _ =>
                fail "m"
                refine W2.itemT (d := row (2 ^ k) p1) (by decide) (by decide) rfl ?_
                fail "m"
                refine WV.fn0 ok' (c_law_whole B hk.2 (dg (2 ^ k) p1) (by (first | fail "m r" | (clear hk hB hn hf hle h3 la cast hlen hd' hb hb2 hq ho a4 a3 hz; show _ ≤ 16777216; omega)))) (by fail "m n") ?_
                first | rw [val_dg hB] at hKf | rw [val_dg hB]
                fail "m"
                refine W2.itemT (d := c3) (by decide) (by decide) rfl ?_
                fail "m"
                refine WV.fn0 ok' (ih p1 c3 ((a5 c3 (by simp)).mono (by (first | fail "m r" | (clear hk hz hB hn hle h3 la cast hlen hd' hb hb2 hq ho a4 lp a1 a2 a3; omega)))) a2 (by fail "m o")) (Nat.le_refl _) ?_
                fail "m"
                refine ⟨rfl, rfl, fun _ => ?_⟩
                fail "m"
                exact ⟨rfl, rfl⟩
            · fail "m"
              refine eqNil_ (B := 2) (f := 1) ok (by decide) (fun x hx => ?_) ?_
              · obtain ⟨y, hy, rfl⟩ := List.mem_map.mp hx
                trivial
              first | rw [isEmpty_map, filter_ne] at hKf | rw [isEmpty_map, filter_ne]
              fail "m"
              refine .inl ?_
              congr 1
              simp only [Bool.not_not]
              rfl
          · have htold : toldD (2 ^ k) 3 pd = .none := by
              cases pd <;> first | rfl | (rw [toldD, if_neg hto])
            have hspec : (areB (2 ^ k) 3 pd && (decide (prodL (prs (2 ^ k) pd) = n - 1))) = false := by
              by_cases hp : areB (2 ^ k) 3 pd = true
              · rw [hp, Bool.true_and]
                obtain ⟨ps, hps, hprs, hlen, hall⟩ := areB_tup hB hwp hp
                refine decide_eq_false fun hq => ?_
                rw [hprs] at hq
                have hexp := exp_small (m := n) (fun p hp => (hall p hp).1.1) (by (first | fail "m r" | (clear hk hz hB hn hf hd' hle h3 la hlen; omega))) hn
                apply hto
                rw [toldOk_are, hp, hprs, Bool.true_and, List.all_eq_true]
                exact fun p hp => decide_eq_true (hexp p hp)
              · rw [Bool.not_eq_true] at hp
                rw [hp]; rfl
            first | rw [htold] at hKf | rw [htold]
            fail "m"
            refine conjTF ?_
            fail "m"
            refine .inl ?_
            congr 1
            symm
            rw [Bool.and_eq_false_iff] at hspec ⊢
            rcases hspec with h | h
            · fail "m"; exact .inl h
            · fail "m"; refine .inr ?_
              rw [h]; simp
      | _ => first | exact ft h1 | exact tf h1
  | _ => first | exact ft hc | exact tf hc
end
noncomputable def pockItem (B n : Nat) (sub : Nat → D → Bool) (x : D) : Bool :=
  isRow B (nthD x 2) && ((decide (1 ≤ valD B (nthD x 2)) && decide (valD B (nthD x 2) < n)) && (partB n (valD B (nthD x 2)) (toPr B x).1 && sub (toPr B x).1 (nthD x 3)))
noncomputable def pockIn (B n : Nat) (sub : Nat → D → Bool) : List D → Bool
  | [pd] => areB B 4 pd && (decide (32 ≤ n) && ((decide (prodL (prs B pd) ≤ n) && decide (n < prodL (prs B pd) * prodL (prs B pd))) && (decide ((n - 1) % prodL (prs B pd) = 0) && pd.items.all (pockItem B n sub))))
  | _ => false
noncomputable def pockS (B : Nat) : Nat → Nat → D → Bool
  | 0, _, _ => false
  | f + 1, n, d => match d with
    | .tup (.str s :: r) =>
      if s = Str.ofString "small" then r.isEmpty && (decide (n < 32) && primeB n)
      else if s = Str.ofString "pocklington" then pockIn B n (pockS B f) r
      else false
    | _ => false
theorem pockS_str {B f n : Nat} {s : Str} {r : List D} : pockS B (f + 1) n (.tup (.str s :: r)) = if s = Str.ofString "small" then r.isEmpty && (decide (n < 32) && primeB n)
      else if s = Str.ofString "pocklington" then pockIn B n (pockS B f) r
      else false := rfl
theorem pow_unit {a n j : Nat} (hn : 2 ≤ n) (h : a ^ (n - 1) % n = 1) (hj : j ≤ n - 1) : a ^ j % n ≠ 0 := by
  intro q
  have e : a ^ (n - 1) = a ^ j * a ^ (n - 1 - j) := by rw [← Nat.pow_add]; congr 1; (first | fail "m r" | (clear h q; omega))
  rw [e, Nat.mul_mod, q, Nat.zero_mul, Nat.zero_mod] at h
  (first | fail "m r" | (clear hn hj q e; omega))
section
variable {prog : Program} {w : World} {b : Heap} {C : Cx} {Γ : Vars} {σ : Store} {Q : D → Store → Prop}
variable {k : Nat} (B : Base (hd.heap_39 w.params) b) (hk : 1 ≤ k ∧ k ≤ 9)
include B hk
theorem c_pock_holds : ∀ (f n : Nat) (d : D), Wd (2 ^ k) f d → n ≤ 1024 → f ≤ 60 → Fn0 (model prog w) b (f + 6) (.ref 246) [row (2 ^ k) n, d, .int (k : Nat), toolsD] (.bool (pockS (2 ^ k) f n d)) := by
  have hz := sz
  have hB : 2 ≤ 2 ^ k := pow_ge hk.1
  intro f
  induction f with
  | zero => intro n d hd'; exact hd'.elim
  | succ f ih =>
  intro n d hd' hn hf
  refine Fn0.intro B (names := ["n", "value", "w", "tools"]) ⟨by with_unfolding_all rfl, ?fnb, by with_unfolding_all rfl, by with_unfolding_all rfl, by decide, by with_unfolding_all rfl, by with_unfolding_all rfl, by with_unfolding_all rfl⟩ rfl (by fail "m o") (fun A L Kf hKf ok => ?_)
  case fnb => exact len4 (P := fun vs => bindArgs _ ⟨vs, []⟩ = pure (List.zip _ vs)) (fun x0 x1 x2 x3 => by with_unfolding_all rfl)
  dsimp only [List.zip, List.zipWith]
  fail "m"
  refine isi_ (T := .tuple) hd'.easy ?_
  fail "m"
  refine ⟨fun hc => ?_, fun hc => ?_⟩
  · rw [Bool.not_eq_true'] at hc
    fail "m"
    refine .inl ?_
    cases d <;> first | rfl | exact ft hc | exact tf hc
  cases d with
  | tup l =>
    have hd' := hd'.tup
    fail "m"
    refine WV.lenT (by fail "m o") ?_
    fail "m"
    refine ⟨fun hl => ?_, fun hl => ?_⟩
    · have hl : l.length = 0 := by have := of_decide_eq_true hl; fail "m o"
      fail "m"
      refine .inl ?_
      rw [List.length_eq_zero_iff.mp hl]; rfl
    have hl : l.length ≠ 0 := by have := of_decide_eq_false hl; fail "m o"
    match l, hl with
    | [], hl => exact absurd rfl hl
    | c :: r, _ =>
      have hc' := (hd'.2 c (by simp)).easy
      fail "m"
      refine W2.itemT (d := c) (by decide) (by decide) rfl ?_
      fail "m"
      refine isi_ (T := .str) hc' ?_
      fail "m"
      refine ⟨fun h1 => ?_, fun h1 => ?_⟩
      · rw [Bool.not_eq_true'] at h1
        fail "m"
        refine .inl ?_
        cases c <;> first | rfl | exact ft h1 | exact tf h1
      cases c with
      | str s =>
        first | rw [pockS_str] at hKf | rw [pockS_str]
        fail "m"
        refine W2.itemT (d := .str s) (by decide) (by decide) rfl ?_
        fail "m"
        refine ⟨fun hs => ?_, fun hs => ?_⟩
        · first | rw [if_pos (of_decide_eq_true hs)] at hKf | rw [if_pos (of_decide_eq_true hs)]
          fail "m"
          refine WV.lenT (by fail "m o") ?_
          fail "m"
          refine ⟨fun hl => ?_, fun hl => ?_⟩
          · have hl : r.length ≠ 0 := by have := of_decide_eq_false hl; simp at this; fail "m o"
            fail "m"; refine .inl ?_
            rw [List.isEmpty_eq_false_iff.mpr (fun z => hl (by rw [z]; rfl))]; rfl
          · have hl : r.length = 0 := by have := of_decide_eq_true hl; simp at this; fail "m o"
            fail "m"
            refine WV.fn0 ok (c_is_small_prime B hk n (by fail "m o")) (by fail "m n") ?_
            fail "m"
            refine .inl ?_
            rw [List.length_eq_zero_iff.mp hl]; rfl
        first | rw [if_neg (of_decide_eq_false hs)] at hKf | rw [if_neg (of_decide_eq_false hs)]
        fail "m"
        refine W2.itemT (d := .str s) (by decide) (by decide) rfl ?_
        fail "m"
        refine ⟨fun hs2 => ?_, fun hs2 => ?_⟩
        · first | rw [if_neg (of_decide_eq_true hs2)] at hKf | rw [if_neg (of_decide_eq_true hs2)]
          fail "m"
          exact Ends0.ret
        have hs2 : s = Str.ofString "pocklington" := by simpa using of_decide_eq_false hs2
        first | rw [if_pos hs2] at hKf | rw [if_pos hs2]
        fail "m"
        refine WV.lenT (by fail "m o") ?_
        fail "m"
        refine ⟨fun hl => ?_, fun hl => ?_⟩
        · have hl : r.length ≠ 1 := by have := of_decide_eq_true hl; simp at this; fail "m o"
          fail "m"
          refine .inl ?_
          match r, hl with
          | [], _ => rfl
          | [_], hl => exact absurd rfl hl
          | _ :: _ :: _, _ => rfl
        have hl : r.length = 1 := by have := of_decide_eq_false hl; simp at this; fail "m o"
        match r, hl with
        | [pd], _ =>
          have hwp := hd'.2 pd (by simp)
          first | rw [pockIn] at hKf | rw [pockIn]
          fail "m"
          refine W2.itemT (d := pd) (by decide) (by decide) rfl ?_
          fail "m"
          refine WV.fn0 ok (c_are_pairs B hk f pd 4 hwp) (by fail "m n") ?_
          fail "m"
          refine ⟨fun hp => ?_, fun hp => ?_⟩
          · rw [Bool.not_eq_true'] at hp
            fail "m"
            refine .inl ?_
            rw [hp]; rfl
          rw [Bool.not_eq_false'] at hp
          first | rw [hp, Bool.true_and] at hKf | rw [hp, Bool.true_and]
          obtain ⟨ps, hps, hprs, hlen, hall⟩ := areB_tup hB hwp hp
          first | rw [hprs] at hKf | rw [hprs]
          subst hps
          have g1 : ∀ p ∈ ps, 1 ≤ p.1 ∧ p.1 ≤ 1024 := fun p hp => by have := (hall p hp).1; (first | fail "m r" | (clear hk hz hB hn hf hlen hd'; omega))
          fail "m"
          refine WV.fn0 ok (c_small_value B hk n (by fail "m o")) (by fail "m n") ?_
          fail "m"
          first | rw [smallD] at hKf | rw [smallD]
          by_cases h32 : n < 32
          · first | rw [if_pos h32] at hKf | rw [if_pos h32]
            refine conjTF ?_
            fail "m"
            refine .inl ?_
            rw [decide_eq_false (show ¬ 32 ≤ n by (first | fail "m r" | (clear hk hz hB hf hlen hd'; omega)))]; rfl
          rw [if_neg h32]
          rw [decide_eq_true (show 32 ≤ n by (first | fail "m r" | (clear hk hz hB hf hlen hd'; omega))), Bool.true_and] at hKf
          refine conjFF ?_
          fail "m"
          fail "m t"
          unfold toolsD
          fail "m"
          refine ⟨_, rfl, rfl, ?_⟩
          fail "m"
          refine W2.itemT (d := .tup (ps.map (pairD (2 ^ k)))) (by decide) (by decide) rfl ?_
          fail "m"
          refine WV.fn0 ok (c_product_bound B hk n ps (by (first | fail "m r" | (clear hk hz hB hf hlen hd'; omega))) hn (by fail "m o") g1) (by fail "m n") ?_
          fail "m"
          first | rw [boundD] at hKf | rw [boundD]
          by_cases hpn : prodL ps ≤ n
          · rw [if_pos hpn]
            rw [decide_eq_true hpn, Bool.true_and] at hKf
            refine conjFF ?_
            fail "m"
            have hsq : prodL ps * prodL ps ≤ sizeLine := by
              have := Nat.mul_le_mul (Nat.le_trans hpn hn) (Nat.le_trans hpn hn)
              fail "m o"
            have hpos := prodL_pos ps fun p hp => (g1 p hp).1
            refine WV.fn0 ok (c_law_times B hk _ _ (by (first | fail "m r" | (clear hk hB hf hlen hd' hsq hpos hz; show _ ≤ 16777216; omega))) (by (first | fail "m r" | (clear hk hB hf hlen hd' hsq hpos hz; show _ ≤ 16777216; omega))) hsq) (by fail "m n") ?_
            fail "m"
            refine WV.fn0 ok (c_compare B hB _ n hsq (by fail "m o")) (by fail "m n") ?_
            fail "m"
            refine ⟨fun hc2 => ?_, fun hc2 => ?_⟩
            · have hc2 := cmpN_npos.mp (of_decide_eq_true hc2)
              fail "m"
              refine .inl ?_
              rw [decide_eq_false (show ¬ n < prodL ps * prodL ps by (first | fail "m r" | (clear hk hz hB hn hf hlen hd' h32 hpn hsq hpos; omega)))]; rfl
            have hc2 : ¬ prodL ps * prodL ps ≤ n := fun z => of_decide_eq_false hc2 (cmpN_npos.mpr z)
            first | rw [decide_eq_true (show n < prodL ps * prodL ps by (first | fail "m r" | (clear hk hz hB hn hf hlen hd' h32 hpn hsq hpos; omega))), Bool.true_and] at hKf | rw [decide_eq_true (show n < prodL ps * prodL ps by fail "m o"), Bool.true_and]
            fail "m"
            fail "m t"
            fail "m"
            refine WV.fn0 ok (c_sub1 B hk n (by fail "m o") (by (first | fail "m r" | (clear hk hz hB hf hlen hd' hpn hsq hpos hc2; omega)))) (by fail "m n") ?_
            fail "m"
            refine WV.fn0 ok (c_law_parts B hk (n - 1) (prodL ps) (by (first | fail "m r" | (clear hk hB hf hlen hd' hpn hsq hpos hc2 hz; show _ ≤ 16777216; omega))) (by fail "m o") (by (first | fail "m r" | (clear hk hB hf hlen hd' hsq hpos hc2 hz; show _ ≤ 16777216; omega)))) (by fail "m n") ?_
            fail "m"
            refine ⟨_, rfl, rfl, ?_⟩
            have hml : (n - 1) % prodL ps ≤ n := Nat.le_trans (Nat.mod_le _ _) (by (first | fail "m r" | (clear hk hz hB hf hlen hd' hpn hsq hpos hc2; omega)))
            have lr := dg_len hB ((n - 1) % prodL ps)
            fail "m"
            refine lenN_ (by (first | fail "m r" | (clear hk hB hf hlen hd' hpn hsq hpos hc2 hz; show _ ≤ 16777216; omega))) ?_
            fail "m"
            refine ⟨fun hr => ?_, fun hr => ?_⟩
            · have hr := of_decide_eq_true hr
              fail "m"
              refine .inl ?_
              rw [decide_eq_false]
              · rfl
              · intro z; rw [z] at hr; simp [dg_zero] at hr
            have hr := of_decide_eq_false hr
            first | rw [decide_eq_true (show (n - 1) % prodL ps = 0 from (dg_nil hB).mp (List.length_eq_zero_iff.mp (by fail "m o"))), Bool.true_and] at hKf | rw [decide_eq_true (show (n - 1) % prodL ps = 0 from (dg_nil hB).mp (List.length_eq_zero_iff.mp (by fail "m o"))), Bool.true_and]
            dsimp only [bindAll]
            fail "m"
            refine forI_ (fun xs Γ σ => ∃ pre todo, σ = [] ∧ xs = todo.map (pairD (2 ^ k)) ∧ pre ++ todo = ps ∧ (pre.all fun p => pockItem (2 ^ k) n (pockS (2 ^ k) f) (pairD (2 ^ k) p)) = true ∧ Has Γ "n" (row (2 ^ k) n) ∧ Has Γ "w" (.int (k : Int)) ∧ Has Γ "tools" toolsD) ok ?_ ?_ ?_
            · fail "m"
              refine W2.itemT (d := .tup (ps.map (pairD (2 ^ k)))) (by decide) (by decide) rfl ?_
              exact ⟨_, .tup _, [], ps, rfl, rfl, rfl, rfl, rfl, rfl, rfl⟩
            · refine fun e xs J hJ Γ => st2 (fun pre todo => an6 fun he hpt hg j1 j2 j3 => ?_)
              cases todo with
              | nil => cases he
              | cons p todo =>
                cases he
                have hp : p ∈ ps := by rw [← hpt]; simp
                obtain ⟨⟨a1, a2, a3, a4⟩, a5⟩ := hall p hp
                have bad : pockItem (2 ^ k) n (pockS (2 ^ k) f) (pairD (2 ^ k) p) = false → (D.items (.tup (ps.map (pairD (2 ^ k))))).all (pockItem (2 ^ k) n (pockS (2 ^ k) f)) = false := fun h => by
                  show (ps.map (pairD (2 ^ k))).all _ = false
                  rw [← hpt, List.map_append, List.all_append, List.map_cons, List.all_cons, h]; simp
                have eItem : pockItem (2 ^ k) n (pockS (2 ^ k) f) (pairD (2 ^ k) p) = (isRow (2 ^ k) (nthD (pairD (2 ^ k) p) 2) && ((decide (1 ≤ valD (2 ^ k) (nthD (pairD (2 ^ k) p) 2)) && decide (valD (2 ^ k) (nthD (pairD (2 ^ k) p) 2) < n)) && (partB n (valD (2 ^ k) (nthD (pairD (2 ^ k) p) 2)) p.1 && pockS (2 ^ k) f p.1 (nthD (pairD (2 ^ k) p) 3)))) := by
                  first | rw [pockItem, (isPairB_of hB p).2] at hKf | rw [pockItem, (isPairB_of hB p).2]
                obtain ⟨p1, p2, p3⟩ := p
                match p3, a4, eItem with
                | [u, v], _, eItem =>
                  have eItem : pockItem (2 ^ k) n (pockS (2 ^ k) f) (pairD (2 ^ k) (p1, p2, [u, v])) = (isRow (2 ^ k) u && ((decide (1 ≤ valD (2 ^ k) u) && decide (valD (2 ^ k) u < n)) && (partB n (valD (2 ^ k) u) p1 && pockS (2 ^ k) f p1 v))) := eItem
                  have hu := a5 u (by simp)
                  have hv := a5 v (by simp)
                  refine WA.tup ok rfl rfl (by with_unfolding_all rfl) ?_
                  dsimp only [bindAll]
                  fail "m"
                  refine WV.fn0 ok (c_is_nat B hk u hu.okRow) (by fail "m n") ?_
                  fail "m"
                  refine ⟨fun hr => ?_, fun hr => ?_⟩
                  · rw [Bool.not_eq_true'] at hr
                    fail "m"
                    refine .inl ?_
                    rw [bad (by rw [eItem, hr]; rfl)]
                  rw [Bool.not_eq_false'] at hr
                  have hle := hu.rowLe hr
                  obtain ⟨a, ha⟩ : ∃ a, u = row (2 ^ k) a := ⟨_, isRow_row hB hr⟩
                  subst ha
                  rw [(isRow_ofRow hB a).2] at hle
                  rw [(isRow_ofRow hB a).1, (isRow_ofRow hB a).2, Bool.true_and] at eItem
                  fail "m"
                  first | rw [← row_one hB] at hKf | rw [← row_one hB]
                  refine WV.fn0 ok (c_is_between B hB a 1 n (by fail "m o") (by (first | fail "m r" | (clear hk hB hn hf hlen hd' h32 hpn hsq hpos hc2 hml lr a4 a1 a2 a3 hle hz; show _ ≤ 16777216; omega))) (by fail "m o")) (by fail "m n") ?_
                  fail "m"
                  refine ⟨fun hb => ?_, fun hb => ?_⟩
                  · rw [Bool.not_eq_true'] at hb
                    fail "m"
                    refine .inl ?_
                    rw [bad (by rw [eItem, hb]; rfl)]
                  rw [Bool.not_eq_false'] at hb
                  rw [hb, Bool.true_and] at eItem
                  fail "m"
                  refine WV.fn0 ok (c_is_partner B hk a n p1 (by fail "m o") (by (first | fail "m r" | (clear hk hz hB hf hlen hd' hpn hsq hpos hc2 hml lr a4 a1 a2 a3 hle; omega))) (by fail "m o") (by have : 2 ≤ p1 := a1; fail "m o") (by have : p1 ≤ 1024 := a2; fail "m o")) (by fail "m n") ?_
                  fail "m"
                  refine ⟨fun ho => ?_, fun ho => ?_⟩
                  · rw [Bool.not_eq_true'] at ho
                    fail "m"
                    refine .inl ?_
                    rw [bad (by rw [eItem, ho]; rfl)]
                  rw [Bool.not_eq_false'] at ho
                  rw [ho, Bool.true_and] at eItem
                  fail "m"
                  refine WV.fn0 ok (ih p1 v (hv.mono (by (first | fail "m r" | (clear hk hz hB hn hlen hd' h32 hpn hsq hpos hc2 hml lr a4 a1 a2 a3 hle; omega)))) a2 (by fail "m o")) (Nat.le_refl _) ?_
                  fail "m"
                  refine ⟨fun hy => ?_, fun hy => ?_⟩
                  · rw [Bool.not_eq_true'] at hy
                    fail "m"
                    refine .inl ?_
                    rw [bad (by rw [eItem, hy])]
                  rw [Bool.not_eq_false'] at hy
                  fail "m"
                  refine ⟨pre ++ [(p1, p2, [row (2 ^ k) a, v])], todo, rfl, rfl, by rw [← hpt, List.append_assoc]; rfl, ?_, j1, j2, j3⟩
                  rw [List.all_append, hg, List.all_cons, eItem, hy]; rfl
            · refine fun Γ => st2 (fun pre todo => an6 fun he hpt hg j1 j2 j3 => ?_)
              have : todo = [] := by simpa using he.symm
              subst this
              rw [List.append_nil] at hpt
              subst hpt
              fail "m"
              refine .inl ?_
              congr 1
              symm
              show (pre.map (pairD (2 ^ k))).all _ = true
              rw [List.all_map]
              exact hg
          · rw [if_neg hpn]
            rw [decide_eq_false hpn] at hKf
            refine conjTF ?_
            fail "m"
            exact .inl rfl
      | _ => first | exact ft h1 | exact tf h1
  | _ => first | exact ft hc | exact tf hc
end
section
variable {prog : Program} {w : World} {b : Heap} {C : Cx} {Γ : Vars} {σ : Store} {Q : D → Store → Prop}
variable {k : Nat} (B : Base (hd.heap_39 w.params) b) (hk : 1 ≤ k ∧ k ≤ 9)
include B hk
theorem c_law_pock : ∀ (f n : Nat) (d : D), Wd (2 ^ k) f d → n ≤ 1024 → f ≤ 60 → Fn0 (model prog w) b (f + 6) (.ref 378) [.int (n : Nat), d, .int (k : Nat)] (.bool (pockS (2 ^ k) f n d)) := by
  have hz := sz
  have hB : 2 ≤ 2 ^ k := pow_ge hk.1
  intro f
  induction f with
  | zero => intro n d hd'; exact hd'.elim
  | succ f ih =>
  intro n d hd' hn hf
  refine Fn0.intro B (names := ["n", "value", "w"]) ⟨by with_unfolding_all rfl, ?fnb, by with_unfolding_all rfl, by with_unfolding_all rfl, by decide, by with_unfolding_all rfl, by with_unfolding_all rfl, by with_unfolding_all rfl⟩ rfl (by fail "m o") (fun A L Kf hKf ok => ?_)
  case fnb => exact len3 (P := fun vs => bindArgs _ ⟨vs, []⟩ = pure (List.zip _ vs)) (fun x0 x1 x2 => by with_unfolding_all rfl)
  dsimp only [List.zip, List.zipWith]
  fail "m"
  refine isi_ (T := .tuple) hd'.easy ?_
  fail "m"
  refine ⟨fun hc => ?_, fun hc => ?_⟩
  · rw [Bool.not_eq_true'] at hc
    fail "m"
    refine .inl ?_
    cases d <;> first | rfl | exact ft hc | exact tf hc
  cases d with
  | tup l =>
    have hd' := hd'.tup
    fail "m"
    refine eqNilT_ (f := f) ok (by fail "m o") hd'.2 ?_
    fail "m"
    refine ⟨fun hl => ?_, fun hl => ?_⟩
    · fail "m"
      refine .inl ?_
      rw [List.isEmpty_iff.mp hl]; rfl
    match l, hl with
    | c :: r, _ =>
      have hc' := (hd'.2 c (by simp)).easy
      fail "m"
      refine W2.itemT (d := c) (by decide) (by decide) rfl ?_
      fail "m"
      refine isi_ (T := .str) hc' ?_
      fail "m"
      refine ⟨fun h1 => ?_, fun h1 => ?_⟩
      · rw [Bool.not_eq_true'] at h1
        fail "m"
        refine .inl ?_
        cases c <;> first | rfl | exact ft h1 | exact tf h1
      cases c with
      | str s =>
        first | rw [pockS_str] at hKf | rw [pockS_str]
        fail "m"
        refine W2.itemT (d := .str s) (by decide) (by decide) rfl ?_
        fail "m"
        refine ⟨fun hs => ?_, fun hs => ?_⟩
        · first | rw [if_pos (of_decide_eq_true hs)] at hKf | rw [if_pos (of_decide_eq_true hs)]
          fail "m"
          refine WV.lenT (by fail "m o") ?_
          fail "m"
          refine ⟨fun hl => ?_, fun hl => ?_⟩
          · have hl : r.length ≠ 0 := by have := of_decide_eq_false hl; simp at this; fail "m o"
            fail "m"; refine .inl ?_
            rw [List.isEmpty_eq_false_iff.mpr (fun z => hl (by rw [z]; rfl))]; rfl
          · have hl : r.length = 0 := by have := of_decide_eq_true hl; simp at this; fail "m o"
            first | rw [List.length_eq_zero_iff.mp hl] at hKf | rw [List.length_eq_zero_iff.mp hl]
            fail "m"
            refine ⟨fun h32 => ?_, fun h32 => ?_⟩
            · have h32 : ¬ n < 32 := by have := of_decide_eq_false h32; fail "m o"
              fail "m"; refine .inl ?_
              rw [decide_eq_false h32]; rfl
            · have h32 : n < 32 := by have := of_decide_eq_true h32; fail "m o"
              fail "m"
              refine WV.fn0 ok (c_law_is_prime B n (by fail "m o")) (by fail "m n") ?_
              fail "m"
              refine .inl ?_
              rw [smallPrime n h32, decide_eq_true h32]; rfl
        first | rw [if_neg (of_decide_eq_false hs)] at hKf | rw [if_neg (of_decide_eq_false hs)]
        fail "m"
        refine W2.itemT (d := .str s) (by decide) (by decide) rfl ?_
        fail "m"
        refine ⟨fun hs2 => ?_, fun hs2 => ?_⟩
        · first | rw [if_neg (of_decide_eq_true hs2)] at hKf | rw [if_neg (of_decide_eq_true hs2)]
          fail "m"
          exact Ends0.ret
        have hs2 : s = Str.ofString "pocklington" := by simpa using of_decide_eq_false hs2
        first | rw [if_pos hs2] at hKf | rw [if_pos hs2]
        fail "m"
        refine WV.lenT (by fail "m o") ?_
        fail "m"
        refine ⟨fun hl => ?_, fun hl => ?_⟩
        · have hl : r.length ≠ 1 := by have := of_decide_eq_true hl; simp at this; fail "m o"
          fail "m"
          refine .inl ?_
          match r, hl with
          | [], _ => rfl
          | [_], hl => exact absurd rfl hl
          | _ :: _ :: _, _ => rfl
        have hl : r.length = 1 := by have := of_decide_eq_false hl; simp at this; fail "m o"
        match r, hl with
        | [pd], _ =>
          have hwp := hd'.2 pd (by simp)
          first | rw [pockIn] at hKf | rw [pockIn]
          fail "m"
          refine ⟨fun h3 => ?_, fun h3 => ?_⟩
          · have h3 : ¬ 32 ≤ n := by have := of_decide_eq_true h3; (first | fail "m r" | (clear hk hz hB hf hd'; omega))
            fail "m"
            refine .inl ?_
            rw [decide_eq_false h3]; simp
          have h3 : 32 ≤ n := by have := of_decide_eq_false h3; fail "m o"
          first | rw [decide_eq_true h3, Bool.true_and] at hKf | rw [decide_eq_true h3, Bool.true_and]
          have cast : (n : Int) - 1 = ((n - 1 : Nat) : Int) := by fail "m o"
          fail "m"
          refine W2.itemT (d := pd) (by decide) (by decide) rfl ?_
          fail "m"
          refine WV.fn0 ok (c_told B hk f pd 4 hwp (by fail "m o") (by decide)) (by fail "m n") ?_
          by_cases hto : toldOk (2 ^ k) 4 pd = true
          · have hto' := hto
            rw [toldOk_are, Bool.and_eq_true] at hto'
            obtain ⟨hp, hexp⟩ := hto'
            obtain ⟨ps, hps, hprs, hlen, hall⟩ := areB_tup hB hwp hp
            have g1 : ∀ p ∈ ps, 1 ≤ p.1 ∧ p.1 ≤ 1024 := fun p hp => by have := (hall p hp).1; (first | fail "m r" | (clear hk hz hB hn hf hd' h3 cast hlen; omega))
            have hexp2 : ∀ p ∈ ps, p.2.1 < 100 := fun p hp => by
              rw [hprs] at hexp
              exact of_decide_eq_true (List.all_eq_true.mp hexp p hp)
            have htold : toldD (2 ^ k) 4 pd = pairsD (ps.map fun p => (p.1, p.2.1)) := by
              subst hps
              rw [toldD, if_pos hto, List.map_map]
              congr 1
              exact List.map_congr_left fun p _ => by rw [Function.comp_apply, (isPairB_of hB p).2]
            rw [htold]
            rw [hp, Bool.true_and, hprs] at hKf
            subst hps
            have hpos := prodL_pos ps fun p hp => (g1 p hp).1
            have steps := c_law_steps (prog := prog) (w := w) B (ps.map fun p => (p.1, p.2.1)) (by rw [List.length_map]; fail "m o") (fun q hq => by
              obtain ⟨p, hp, rfl⟩ := List.mem_map.mp hq
              exact ⟨(g1 p hp).2, hexp2 p hp⟩)
            rw [prodN_map] at steps
            fail "m"
            first | rw [isNone_pairsD] at hKf | rw [isNone_pairsD]
            refine conjFF ?_
            fail "m"
            refine WV.fn0 ok steps (by fail "m n") ?_
            first | rw [cast] at hKf | rw [cast]
            refine modN_ (by fail "m o") ?_
            fail "m"
            refine ⟨fun hr => ?_, fun hr => ?_⟩
            · have hr := of_decide_eq_true hr
              fail "m"
              refine .inl ?_
              rw [decide_eq_false (show ¬ (n - 1) % prodL ps = 0 by fail "m o")]; simp
            have hr : (n - 1) % prodL ps = 0 := by have := of_decide_eq_false hr; fail "m o"
            have hpn : prodL ps ≤ n - 1 := Nat.le_of_dvd (by (first | fail "m r" | (clear hk hz hB hf hlen hd' hpos hr; omega))) (Nat.dvd_of_mod_eq_zero hr)
            first | rw [decide_eq_true hr, Bool.true_and, decide_eq_true (show prodL ps ≤ n by (first | fail "m r" | (clear hk hz hB hn hf h3 hlen hd' hpos hr; omega))), Bool.true_and] at hKf | rw [decide_eq_true hr, Bool.true_and, decide_eq_true (show prodL ps ≤ n by fail "m o"), Bool.true_and]
            fail "m"
            refine WV.fn0 ok steps (by fail "m n") ?_
            fail "m"
            refine W2.pow (by decide) ?_ ?_
            · have := bits_le (m := prodL ps) (e := 20) (by (first | fail "m r" | (clear hk hz hB hf hlen hd' hpos hr; omega))); (first | fail "m r" | (clear hk hz hB hn hf h3 cast hlen hd' hpos hr hpn; omega))
            rw [show ((prodL ps : Int)) ^ ((2 : Int)).toNat = ((prodL ps * prodL ps : Nat) : Int) by
              rw [show ((2 : Int)).toNat = 2 from rfl, Int.natCast_mul]
              rw [Int.pow_succ, Int.pow_succ, Int.pow_zero, Int.one_mul]]
            fail "m"
            refine ⟨fun h4 => ?_, fun h4 => ?_⟩
            · have h4 := of_decide_eq_true h4
              fail "m"
              refine .inl ?_
              rw [decide_eq_false (show ¬ n < prodL ps * prodL ps by (first | fail "m r" | (clear hk hz hB hn hf h3 hlen hd' hpos hr hpn; omega)))]; rfl
            have h4 := of_decide_eq_false h4
            first | rw [decide_eq_true (show n < prodL ps * prodL ps by fail "m o"), Bool.true_and] at hKf | rw [decide_eq_true (show n < prodL ps * prodL ps by fail "m o"), Bool.true_and]
            fail "m"
            refine forI_ (fun xs Γ σ => ∃ pre todo, σ = [] ∧ xs = todo.map (pairD (2 ^ k)) ∧ pre ++ todo = ps ∧ (pre.all fun p => pockItem (2 ^ k) n (pockS (2 ^ k) f) (pairD (2 ^ k) p)) = true ∧ Has Γ "n" (.int (n : Nat)) ∧ Has Γ "w" (.int (k : Int))) ok ?_ ?_ ?_
            · fail "m"
              refine W2.itemT (d := .tup (ps.map (pairD (2 ^ k)))) (by decide) (by decide) rfl ?_
              exact ⟨_, .tup _, [], ps, rfl, rfl, rfl, rfl, rfl, rfl⟩
            · refine fun e xs J hJ Γ => st2 (fun pre todo => an5 fun he hpt hg j1 j2 => ?_)
              cases todo with
              | nil => cases he
              | cons p todo =>
                cases he
                have hp : p ∈ ps := by rw [← hpt]; simp
                obtain ⟨⟨a1, a2, a3, a4⟩, a5⟩ := hall p hp
                have bad : pockItem (2 ^ k) n (pockS (2 ^ k) f) (pairD (2 ^ k) p) = false → (D.items (.tup (ps.map (pairD (2 ^ k))))).all (pockItem (2 ^ k) n (pockS (2 ^ k) f)) = false := fun h => by
                  show (ps.map (pairD (2 ^ k))).all _ = false
                  rw [← hpt, List.map_append, List.all_append, List.map_cons, List.all_cons, h]; simp
                have eItem : pockItem (2 ^ k) n (pockS (2 ^ k) f) (pairD (2 ^ k) p) = (isRow (2 ^ k) (nthD (pairD (2 ^ k) p) 2) && ((decide (1 ≤ valD (2 ^ k) (nthD (pairD (2 ^ k) p) 2)) && decide (valD (2 ^ k) (nthD (pairD (2 ^ k) p) 2) < n)) && (partB n (valD (2 ^ k) (nthD (pairD (2 ^ k) p) 2)) p.1 && pockS (2 ^ k) f p.1 (nthD (pairD (2 ^ k) p) 3)))) := by
                  first | rw [pockItem, (isPairB_of hB p).2] at hKf | rw [pockItem, (isPairB_of hB p).2]
                obtain ⟨p1, p2, p3⟩ := p
                have a1 : 2 ≤ p1 := a1
                have a2 : p1 ≤ 1024 := a2
                have lp := dg_len hB p1
                match p3, a4, eItem with
                | [u, v], _, eItem =>
                  have eItem : pockItem (2 ^ k) n (pockS (2 ^ k) f) (pairD (2 ^ k) (p1, p2, [u, v])) = (isRow (2 ^ k) u && ((decide (1 ≤ valD (2 ^ k) u) && decide (valD (2 ^ k) u < n)) && (partB n (valD (2 ^ k) u) p1 && pockS (2 ^ k) f p1 v))) := eItem
                  have hu := a5 u (by simp)
                  have hv := a5 v (by simp)
                  refine WA.tup ok rfl rfl (by with_unfolding_all rfl) ?_
                  dsimp only [bindAll]
                  fail "m"
                  refine WV.fn0 ok (c_law_whole B hk.2 (dg (2 ^ k) p1) (by (first | fail "m r" | (clear hk hB hn hf h3 cast hlen hd' hpos hr hpn h4 a4 a1 a2 a3 hz; show _ ≤ 16777216; omega)))) (by fail "m n") ?_
                  first | rw [val_dg hB] at hKf | rw [val_dg hB]
                  fail "m"
                  refine WV.fn0 ok (c_law_is_row B hk _ u hu (by (first | fail "m r" | (clear hk hz hB hn h3 cast hlen hd' hpos hr hpn h4 a4 lp a1 a2 a3; omega)))) (by fail "m n") ?_
                  fail "m"
                  refine ⟨fun hr => ?_, fun hr => ?_⟩
                  · rw [Bool.not_eq_true'] at hr
                    fail "m"
                    refine .inl ?_
                    rw [bad (by rw [eItem, hr]; rfl)]
                  rw [Bool.not_eq_false'] at hr
                  have hle := hu.rowLe hr
                  obtain ⟨a, ha⟩ : ∃ a, u = row (2 ^ k) a := ⟨_, isRow_row hB hr⟩
                  subst ha
                  have la := dg_len hB a
                  rw [(isRow_ofRow hB a).2] at hle
                  rw [(isRow_ofRow hB a).1, (isRow_ofRow hB a).2, Bool.true_and] at eItem
                  fail "m"
                  refine WV.fn0 ok (c_law_whole B hk.2 (dg (2 ^ k) a) (by (first | fail "m r" | (clear hk hB hn hf h3 cast hlen hd' hpos hpn h4 a4 lp a1 a2 a3 hz; show _ ≤ 16777216; omega)))) (by fail "m n") ?_
                  first | rw [val_dg hB] at hKf | rw [val_dg hB]
                  fail "m"
                  refine ⟨fun hb => ?_, fun hb => ?_⟩
                  · have hb := of_decide_eq_false hb
                    fail "m"
                    refine .inl ?_
                    rw [bad (by rw [eItem, decide_eq_false (show ¬ 1 ≤ a by (first | fail "m r" | (clear hk hz hB hn hf h3 cast hlen hd' hpos hpn h4 a4 lp a1 a2 a3 la; omega)))]; rfl)]
                  have hb := of_decide_eq_true hb
                  fail "m"
                  refine ⟨fun hb2 => ?_, fun hb2 => ?_⟩
                  · rw [Bool.not_eq_true'] at hb2
                    have hb2 := of_decide_eq_false hb2
                    fail "m"
                    refine .inl ?_
                    rw [bad (by rw [eItem, decide_eq_false (show ¬ a < n by fail "m o")]; simp)]
                  rw [Bool.not_eq_false'] at hb2
                  have hb2 := of_decide_eq_true hb2
                  rw [decide_eq_true (show 1 ≤ a by (first | fail "m r" | (clear hk hz hB hn hf h3 cast hlen hd' hpos hpn h4 a4 lp a1 a2 a3 la hb2; omega))), decide_eq_true (show a < n by fail "m o"), Bool.and_self, Bool.true_and] at eItem
                  fail "m"
                  refine WV.fn0 ok (c_law_whole B hk.2 (dg (2 ^ k) a) (by (first | fail "m r" | (clear hk hB hf hlen hd' hpos hpn h4 a4 lp a1 a2 a3 hz; show _ ≤ 16777216; omega)))) (by fail "m n") ?_
                  first | rw [val_dg hB] at hKf | rw [val_dg hB]
                  fail "m"
                  first | rw [cast] at hKf | rw [cast]
                  refine powN_ (by fail "m o") ?_
                  fail "m"
                  refine ⟨fun ho => ?_, fun ho => ?_⟩
                  · have ho := of_decide_eq_true ho
                    fail "m"
                    refine .inl ?_
                    rw [bad (by rw [eItem, partB, decide_eq_false (show ¬ a ^ (n - 1) % n = 1 by fail "m o")]; rfl)]
                  have ho : a ^ (n - 1) % n = 1 := by have := of_decide_eq_false ho; fail "m o"
                  have hun := pow_unit (j := (n - 1) / p1) (by fail "m o") ho (Nat.div_le_self _ _)
                  have hlt : a ^ ((n - 1) / p1) % n < n := Nat.mod_lt _ (by fail "m o")
                  rw [partB, decide_eq_true ho, Bool.true_and, decide_eq_true hun, Bool.true_and] at eItem
                  fail "m"
                  first | rw [cast] at hKf | rw [cast]
                  refine divN_ (by fail "m o") (by fail "m o") ?_
                  fail "m"
                  refine powN_ (by fail "m o") ?_
                  generalize a ^ ((n - 1) / p1) % n = told at *
                  fail "m"
                  first | rw [show (told : Int) - 1 = ((told - 1 : Nat) : Int) by fail "m o"] at hKf | rw [show (told : Int) - 1 = ((told - 1 : Nat) : Int) by (first | fail "m r" | (clear hk hz hB hn hf h3 cast hlen hd' hpos hpn h4 a4 lp a1 a2 a3 hle la hb hb2 ho hlt; omega))]
                  refine modN_ (by fail "m o") ?_
                  first | rw [Nat.mod_eq_of_lt (by fail "m o")] at hKf | rw [Nat.mod_eq_of_lt (by (first | fail "m r" | (clear hk hz hB hn hf h3 hlen hd' h4 a4 lp a1 a2 a3 hle la hb hb2 ho hun; omega)))]
                  fail "m"
                  refine WV.fn0 ok (c_law_common B (told - 1) n (by (first | fail "m r" | (clear hk hB hf hlen hd' hpos hpn h4 a4 lp a1 a2 a3 hle la hb hb2 ho hun hz; show _ ≤ 16777216; omega))) (by fail "m o")) (by fail "m n") ?_
                  fail "m"
                  refine ⟨fun hz' => ?_, fun hz' => ?_⟩
                  · have hz' := of_decide_eq_true hz'
                    fail "m"
                    refine .inl ?_
                    rw [bad (by rw [eItem, decide_eq_false (show ¬ Nat.gcd (told - 1) n = 1 by fail "m o")]; rfl)]
                  have hz' : Nat.gcd (told - 1) n = 1 := by have := of_decide_eq_false hz'; fail "m o"
                  rw [decide_eq_true hz', Bool.true_and] at eItem
                  fail "m"
                  refine WV.fn0 ok (ih p1 v (hv.mono (by (first | fail "m r" | (clear hk hz hB hn h3 cast hlen hd' hpos hpn h4 a4 lp a1 a2 a3 hle la hb hb2 ho hun hlt hz'; omega)))) a2 (by fail "m o")) (Nat.le_refl _) ?_
                  fail "m"
                  refine ⟨fun hy => ?_, fun hy => ?_⟩
                  · rw [Bool.not_eq_true'] at hy
                    fail "m"
                    refine .inl ?_
                    rw [bad (by rw [eItem, hy])]
                  rw [Bool.not_eq_false'] at hy
                  fail "m"
                  refine ⟨pre ++ [(p1, p2, [row (2 ^ k) a, v])], todo, rfl, rfl, by rw [← hpt, List.append_assoc]; rfl, ?_, j1, j2⟩
                  rw [List.all_append, hg, List.all_cons, eItem, hy]; rfl
            · refine fun Γ => st2 (fun pre todo => an5 fun he hpt hg j1 j2 => ?_)
              have : todo = [] := by simpa using he.symm
              subst this
              rw [List.append_nil] at hpt
              subst hpt
              fail "m"
              refine .inl ?_
              congr 1
              symm
              show (pre.map (pairD (2 ^ k))).all _ = true
              rw [List.all_map]
              exact hg
          · have htold : toldD (2 ^ k) 4 pd = .none := by
              cases pd <;> first | rfl | (rw [toldD, if_neg hto])
            have hspec : (areB (2 ^ k) 4 pd && (decide (prodL (prs (2 ^ k) pd) ≤ n))) = false := by
              by_cases hp : areB (2 ^ k) 4 pd = true
              · rw [hp, Bool.true_and]
                obtain ⟨ps, hps, hprs, hlen, hall⟩ := areB_tup hB hwp hp
                refine decide_eq_false fun hq => ?_
                rw [hprs] at hq
                have hexp := exp_small (m := n) (fun p hp => (hall p hp).1.1) (by fail "m o") hn
                apply hto
                rw [toldOk_are, hp, hprs, Bool.true_and, List.all_eq_true]
                exact fun p hp => decide_eq_true (hexp p hp)
              · rw [Bool.not_eq_true] at hp
                rw [hp]; rfl
            first | rw [htold] at hKf | rw [htold]
            fail "m"
            refine conjTF ?_
            fail "m"
            refine .inl ?_
            congr 1
            symm
            rw [Bool.and_eq_false_iff] at hspec ⊢
            rcases hspec with h | h
            · fail "m"; exact .inl h
            · fail "m"; refine .inr ?_
              rw [h]; simp
      | _ => first | exact ft h1 | exact tf h1
  | _ => first | exact ft hc | exact tf hc
end
noncomputable def seek (n : Nat) (test : Nat → Bool) : Nat → Nat → Option Nat
  | 0, _ => none
  | f + 1, x => if x ≤ n - 1 then (if x ^ (n - 1) % n = 1 then (if test x = true then some x else seek n test f (x + 1)) else none) else none
theorem seek_ok {n : Nat} {test : Nat → Bool} : ∀ {f x v : Nat}, seek n test f x = some v → x ≤ v ∧ v ≤ n - 1 ∧ v ^ (n - 1) % n = 1 ∧ test v = true
  | 0, _, _, h => by cases h
  | f + 1, x, v, h => by
    unfold seek at h
    split at h
    · rename_i h1
      split at h
      · rename_i h2
        split at h
        · rename_i h3
          cases h
          exact ⟨Nat.le_refl _, h1, h2, h3⟩
        · have := seek_ok h
          exact ⟨by (first | fail "m r" | (clear h1 h2; omega)), this.2⟩
      · cases h
    · cases h
noncomputable def optRow (B : Nat) : Option Nat → D
  | none => .none
  | some v => row B v
noncomputable def facOk (n : Nat) : Bool := decide (prodL (factorPs (n - 1)) = n - 1) && (decide ((factorPs (n - 1)).length ≤ 60) && (adjB ((factorPs (n - 1)).map (·.1)) && (factorPs (n - 1)).all fun p => decide (2 ≤ p.1) && (decide (2 * p.1 < n) && (decide (1 ≤ p.2.1) && decide (p.2.1 ≤ 1000)))))
theorem facOk_all : ∀ n, 32 ≤ n → n ≤ 1000 → n % 2 = 1 → facOk n = true := by
  have : ((List.range 1001).all fun n => decide (n < 32) || decide (n % 2 = 0) || facOk n) = true := by decide +kernel
  intro n h1 h2 h3
  have := List.all_eq_true.mp this n (List.mem_range.mpr (by fail "m o"))
  rw [decide_eq_false (by fail "m o"), decide_eq_false (by (first | fail "m r" | (clear h1 h2; omega)))] at this
  simpa using this
theorem fac_ok {n : Nat} (h1 : 32 ≤ n) (h2 : n ≤ 1000) (h3 : n % 2 = 1) : prodL (factorPs (n - 1)) = n - 1 ∧ (factorPs (n - 1)).length ≤ 60 ∧ adjB ((factorPs (n - 1)).map (·.1)) = true ∧ ∀ p ∈ factorPs (n - 1), 2 ≤ p.1 ∧ 2 * p.1 < n ∧ 1 ≤ p.2.1 ∧ p.2.1 ≤ 1000 := by
  have := facOk_all n h1 h2 h3
  unfold facOk at this
  simp only [Bool.and_eq_true, decide_eq_true_iff, List.all_eq_true] at this
  exact ⟨this.1, this.2.1, this.2.2.1, fun p hp => this.2.2.2 p hp⟩
noncomputable def takeF (n : Nat) : List Pr → Nat → List Pr
  | [], _ => []
  | p :: r, f => if f * f ≤ n then p :: takeF n r (f * p.1 ^ p.2.1) else takeF n r f
noncomputable def partAbove (n : Nat) (ps : List Pr) : List Pr := (takeF n ps.reverse 1).reverse
theorem takeF_mem {n : Nat} {x : Pr} : ∀ {l : List Pr} {f : Nat}, x ∈ takeF n l f → x ∈ l
  | [], _, h => by simp [takeF] at h
  | p :: r, f, h => by
    unfold takeF at h
    split at h
    · rcases List.mem_cons.mp h with rfl | h
      · exact List.mem_cons_self ..
      · exact List.mem_cons_of_mem _ (takeF_mem h)
    · exact List.mem_cons_of_mem _ (takeF_mem h)
theorem takeF_len {n : Nat} : ∀ {l : List Pr} {f : Nat}, (takeF n l f).length ≤ l.length
  | [], _ => Nat.le_refl _
  | p :: r, f => by
    unfold takeF
    split
    · rw [List.length_cons, List.length_cons]; have := takeF_len (n := n) (l := r) (f := f * p.1 ^ p.2.1); fail "m o"
    · rw [List.length_cons]; have := takeF_len (n := n) (l := r) (f := f); fail "m o"
theorem prodL_app : ∀ l m : List Pr, prodL (l ++ m) = prodL l * prodL m
  | [], m => by simp [prodL]
  | p :: l, m => by rw [List.cons_append, prodL, prodL, prodL_app l m, Nat.mul_assoc]
section
variable {prog : Program} {w : World} {b : Heap} {C : Cx} {Γ : Vars} {σ : Store} {Q : D → Store → Prop}
variable {k : Nat} (B : Base (hd.heap_39 w.params) b) (hk : 1 ≤ k ∧ k ≤ 9)
include B hk
theorem c_add1 (x : Nat) (hx : x ≤ 4096) (h1 : 1 ≤ x) : Fn0 (model prog w) b 1 (.ref 74) [row (2 ^ k) x, .list [.int 1], .int (k : Nat)] (row (2 ^ k) (x + 1)) := by
  have hB := pow_ge hk.1
  rw [← row_one hB]
  refine c_add B hk x 1 (by fail "m o") (by decide) ?_
  rw [dg_one hB, dg_pos hB h1]
  simp
theorem c_partner_of (n p : Nat) (hn : 2 ≤ n) (hn2 : n ≤ 1024) (hp : 0 < p) (hp2 : p ≤ 1024) : Fn0 (model prog w) b 5 (.ref 232) [row (2 ^ k) n, row (2 ^ k) p, .int (k : Nat), toolsD] (optRow (2 ^ k) (seek n (fun x => partB n x p) n 2)) := by
  have hz := sz
  have hB : 2 ≤ 2 ^ k := pow_ge hk.1
  refine Fn0.intro B (names := ["n", "prime", "w", "tools"]) ⟨by with_unfolding_all rfl, ?fnb, by with_unfolding_all rfl, by with_unfolding_all rfl, by decide, by with_unfolding_all rfl, by with_unfolding_all rfl, by with_unfolding_all rfl⟩ rfl (by fail "m o") (fun A L Kf hKf ok => ?_)
  case fnb => exact len4 (P := fun vs => bindArgs _ ⟨vs, []⟩ = pure (List.zip _ vs)) (fun x0 x1 x2 x3 => by with_unfolding_all rfl)
  dsimp only [List.zip, List.zipWith]
  unfold toolsD
  fail "m"
  fail "m t"
  fail "m"
  refine WV.fn0 ok (c_nat_of B hk 2 (by (first | fail "m r" | (clear hk hn hn2 hp hp2 hB hz; show _ ≤ 16777216; omega)))) (by fail "m n") ?_
  fail "m"
  refine WV.fn0 ok (c_sub1 B hk n (by fail "m o") (by fail "m o")) (by fail "m n") ?_
  fail "m"
  refine ⟨_, rfl, rfl, ?_⟩
  dsimp only [bindAll, List.reverse, List.reverseAux]
  fail "m"
  refine whileI_ (fun m Γ σ => ∃ x, σ = [] ∧ x + m = n + 2 ∧ 2 ≤ x ∧ seek n (fun x => partB n x p) m x = seek n (fun x => partB n x p) n 2 ∧ Has Γ "n" (row (2 ^ k) n) ∧ Has Γ "prime" (row (2 ^ k) p) ∧ Has Γ "w" (.int (k : Int)) ∧ Has Γ "tools" toolsD ∧ Has Γ "power" (.raw (.ref 319)) ∧ Has Γ "order" (row (2 ^ k) (n - 1)) ∧ Has Γ "base" (row (2 ^ k) x)) ⟨n, 2, rfl, by (first | fail "m r" | (clear hk hn hn2 hp hp2 hz hB; omega)), by (first | fail "m r" | (clear hk hn hn2 hp hp2 hz hB; omega)), rfl, rfl, rfl, rfl, rfl, rfl, rfl, rfl⟩ ?_
  refine fun m J hJ Γ => st1 (fun x => an10 fun hxm hx2 hsk h1 h2 h3 h4 h5 h6 h7 => ?_)
  fail "m"
  refine WV.fn0 ok (c_compare B hB x (n - 1) (by (first | fail "m r" | (clear hk hp hp2 hB hx2 hz; show _ ≤ 16777216; omega))) (by (first | fail "m r" | (clear hk hp hp2 hB hx2 hz; show _ ≤ 16777216; omega)))) (by fail "m n") ?_
  fail "m"
  refine ⟨fun hc => ?_, fun hc => ?_⟩
  · have hc := cmpN_npos.mp (of_decide_eq_true hc)
    obtain ⟨m, rfl⟩ : ∃ j, m = j + 1 := ⟨m - 1, by (first | fail "m r" | (clear hk hp hp2 hz hB hx2; omega))⟩
    rw [seek, if_pos hc] at hsk
    fail "m"
    refine WV.fn0 ok (c_law_power B hk x (n - 1) n (by (first | fail "m r" | (clear hk hp hp2 hB hx2 hc hz; show _ ≤ 16777216; omega))) (by (first | fail "m r" | (clear hk hp hp2 hB hz; show _ ≤ 16777216; omega))) (by fail "m o") (by fail "m o")) (by fail "m n") ?_
    fail "m"
    refine WV.fn0 ok (c_is_one B hB _) (by fail "m n") ?_
    fail "m"
    refine ⟨fun ho => ?_, fun ho => ?_⟩
    · rw [Bool.not_eq_true'] at ho
      rw [if_neg (of_decide_eq_false ho)] at hsk
      fail "m"
      refine .inl ?_
      rw [← hsk]; rfl
    rw [Bool.not_eq_false'] at ho
    rw [if_pos (of_decide_eq_true ho)] at hsk
    fail "m"
    refine WV.fn0 ok (c_is_partner B hk x n p (by (first | fail "m r" | (clear hk hp hp2 hz hB hx2 hc; omega))) (by fail "m o") (by fail "m o") hp (by fail "m o")) (by fail "m n") ?_
    fail "m"
    refine ⟨fun hq => ?_, fun hq => ?_⟩
    · rw [if_pos hq] at hsk
      fail "m"
      refine .inl ?_
      rw [← hsk]; rfl
    · rw [if_neg (by rw [hq]; decide)] at hsk
      fail "m"
      refine WV.fn0 ok (c_add1 B hk x (by (first | fail "m r" | (clear hk hp hp2 hz hB hx2 hc; omega))) (by fail "m o")) (by fail "m n") ?_
      fail "m"
      exact ⟨m, by fail "m o", x + 1, rfl, by fail "m o", by (first | fail "m r" | (clear hk hn hn2 hp hp2 hz hB hc hxm; omega)), hsk, h1, h2, h3, h4, h5, h6, rfl⟩
  · have hc : ¬ x ≤ n - 1 := fun z => of_decide_eq_false hc (cmpN_npos.mpr z)
    fail "m"
    refine .inl ?_
    rw [← hsk]
    cases m with
    | zero => rfl
    | succ m => rw [seek, if_neg hc]; rfl
theorem c_part_above (n : Nat) (ps : List Pr) (hn : 1 ≤ n) (hn2 : n ≤ 1024) (hlen : ps.length ≤ 64) (hps : ∀ p ∈ ps, 1 ≤ p.1 ∧ p.1 ≤ 1024 ∧ p.2.1 ≤ 1000) (hprod : prodL ps ≤ n) :
    Fn0 (model prog w) b 4 (.ref 211) [row (2 ^ k) n, .list (ps.map (pairD (2 ^ k))), .int (k : Nat), .raw (.ref 305)] (.list ((partAbove n ps).map (pairD (2 ^ k)))) := by
  have hz := sz
  have hB : 2 ≤ 2 ^ k := pow_ge hk.1
  refine Fn0.intro B (names := ["n", "pairs", "w", "mul"]) ⟨by with_unfolding_all rfl, ?fnb, by with_unfolding_all rfl, by with_unfolding_all rfl, by decide, by with_unfolding_all rfl, by with_unfolding_all rfl, by with_unfolding_all rfl⟩ rfl (by fail "m o") (fun A L Kf hKf ok => ?_)
  case fnb => exact len4 (P := fun vs => bindArgs _ ⟨vs, []⟩ = pure (List.zip _ vs)) (fun x0 x1 x2 x3 => by with_unfolding_all rfl)
  dsimp only [List.zip, List.zipWith]
  refine WS.cons ?_
  fail "m t"
  refine WE.tup (WArgs.cons (listP_ (WArgs.nil ⟨rfl, by decide, fun a => ?_⟩)) (by with_unfolding_all rfl))
  fail "m"
  rw [← row_one hB]
  refine ⟨_, rfl, rfl, ?_⟩
  dsimp only [bindAll, List.reverse, List.reverseAux]
  fail "m"
  refine forI_ (fun xs Γ σ => ∃ i f tk, σ = [(a, tk.map (pairD (2 ^ k)))] ∧ xs = downs i ∧ i ≤ ps.length ∧ 1 ≤ f ∧ f * prodL (ps.take i) ≤ n ∧ tk.length + i ≤ ps.length ∧ tk ++ takeF n (ps.take i).reverse f = takeF n ps.reverse 1 ∧ Has Γ "n" (row (2 ^ k) n) ∧ Has Γ "pairs" (.list (ps.map (pairD (2 ^ k)))) ∧ Has Γ "w" (.int (k : Int)) ∧ Has Γ "mul" (.raw (.ref 305)) ∧ Has Γ "taken" (.raw (.ref a)) ∧ Has Γ "found" (row (2 ^ k) f)) ok ?_ ?_ ?_
  · fail "m"
    refine WV.lenL (by rw [List.length_map]; fail "m o") ?_
    fail "m"
    rw [List.length_map]
    refine downs_ ?_
    exact ⟨_, items_downs _ (by fail "m o"), _, 1, [], rfl, rfl, Nat.le_refl _, Nat.le_refl _, by rw [List.take_length, Nat.one_mul]; exact hprod, by simp, by rw [List.take_length]; rfl, rfl, rfl, rfl, rfl, rfl, rfl⟩
  · refine fun e xs J hJ Γ => st3 (fun i f tk => an12 fun he hi hf hfn htl htk h1 h2 h3 h4 h5 h6 => ?_)
    cases i with
    | zero => cases he
    | succ i =>
      cases he
      obtain ⟨p, hp⟩ : ∃ p, ps[i]? = some p := ⟨_, List.getElem?_eq_getElem (by (first | fail "m r" | (clear hk hn hn2 hlen hprod hz hB hf hfn htl; omega)))⟩
      obtain ⟨q1, q2, q3⟩ := hps p (List.mem_of_getElem? hp)
      have htake : ps.take (i + 1) = ps.take i ++ [p] := by rw [List.take_add_one, hp]; rfl
      rw [htake, List.reverse_append, List.reverse_singleton, List.singleton_append, takeF] at htk
      rw [htake, prodL_app, prodL, prodL, Nat.mul_one, ← Nat.mul_assoc] at hfn
      have hr := prodL_pos (ps.take i) fun q hq => (hps q (List.mem_of_mem_take hq)).1
      have hpe : 1 ≤ p.1 ^ p.2.1 := Nat.pow_pos q1
      have hfr : f * prodL (ps.take i) ≤ n := Nat.le_trans (Nat.le_mul_of_pos_right _ hpe) hfn
      have hfl : f ≤ n := Nat.le_trans (Nat.le_mul_of_pos_right _ hr) hfr
      have hfp : f * p.1 ^ p.2.1 * prodL (ps.take i) ≤ n := by rw [Nat.mul_right_comm]; exact hfn
      have hfp1 : f * p.1 ^ p.2.1 ≤ n := Nat.le_trans (Nat.le_mul_of_pos_right _ hr) hfp
      have hpel : p.1 ^ p.2.1 ≤ n := Nat.le_trans (Nat.le_mul_of_pos_left _ hf) hfp1
      have hff : f * f ≤ sizeLine := by
        have := Nat.mul_le_mul (Nat.le_trans hfl hn2) (Nat.le_trans hfl hn2)
        fail "m o"
      have hget : (ps.map (pairD (2 ^ k)))[((i : Nat) : Int).toNat]? = some (pairD (2 ^ k) p) := by
        rw [Int.toNat_natCast, List.getElem?_map, hp]; rfl
      refine WA.name ok ?_
      fail "m"
      refine WV.fn0 ok (c_law_times B hk f f (by (first | fail "m r" | (clear hk hlen hprod hB hf hi htl hfn q1 q2 q3 hr hpe hfr hfp hfp1 hpel hff hz; show _ ≤ 16777216; omega))) (by (first | fail "m r" | (clear hk hlen hprod hB hf hi htl hfn q1 q2 q3 hr hpe hfr hfp hfp1 hpel hff hz; show _ ≤ 16777216; omega))) hff) (by fail "m n") ?_
      fail "m"
      refine WV.fn0 ok (c_compare B hB (f * f) n hff (by fail "m o")) (by fail "m n") ?_
      fail "m"
      refine ⟨fun hc => ?_, fun hc => ?_⟩
      · have hc := cmpN_npos.mp (of_decide_eq_true hc)
        rw [if_pos hc] at htk
        fail "m"
        refine W2.item (by fail "m o") (by (first | fail "m r" | (clear hk hn hn2 hprod hz hB hf hi hfn q1 q2 q3 hr hpe hfr hfl hfp hfp1 hpel hff hc; omega))) hget ?_
        refine ⟨_, rfl, by rw [List.length_map]; (first | fail "m r" | (clear hk hn hn2 hprod hB hf hi hfn q1 q2 q3 hr hpe hfr hfl hfp hfp1 hpel hff hc hz; show _ ≤ 16777216; omega)), ?_⟩
        fail "m"
        refine W2.item (by fail "m o") (by (first | fail "m r" | (clear hk hn hn2 hprod hz hB hf hi hfn q1 q2 q3 hr hpe hfr hfl hfp hfp1 hpel hff hc; omega))) hget ?_
        fail "m"
        refine W2.itemT (d := row (2 ^ k) p.1) (by decide) (by decide) rfl ?_
        fail "m"
        refine W2.item (by fail "m o") (by (first | fail "m r" | (clear hk hn hn2 hprod hz hB hf hi hfn q1 q2 q3 hr hpe hfr hfl hfp hfp1 hpel hff hc; omega))) hget ?_
        fail "m"
        refine W2.itemT (d := .int (p.2.1 : Nat)) (by decide) (by decide) rfl ?_
        fail "m"
        refine WV.fn0 ok (c_power_of B hk p.1 p.2.1 q1 (by fail "m o") (by (first | fail "m r" | (clear hk hlen hprod hB hf hi htl hfn q1 q2 q3 hr hpe hfr hfl hfp hfp1 hff hc hz; show _ ≤ 16777216; omega))) (by fail "m o")) (by fail "m n") ?_
        fail "m"
        refine WV.fn0 ok (c_law_times B hk f _ (by (first | fail "m r" | (clear hk hlen hprod hB hf hi htl hfn q1 q2 q3 hr hpe hfr hfp hfp1 hpel hff hc hz; show _ ≤ 16777216; omega))) (by (first | fail "m r" | (clear hk hlen hprod hB hf hi htl hfn q1 q2 q3 hr hpe hfr hfl hfp hfp1 hff hc hz; show _ ≤ 16777216; omega))) (by (first | fail "m r" | (clear hk hlen hprod hB hf hi htl hfn q1 q2 q3 hr hpe hfr hfl hfp hpel hff hc hz; show _ ≤ 16777216; omega)))) (by fail "m n") ?_
        fail "m"
        refine ⟨i, _, tk ++ [p], by simp, rfl, by fail "m o", Nat.mul_pos hf hpe, hfp, by rw [List.length_append]; simp; (first | fail "m r" | (clear hk hn hn2 hlen hprod hz hB hf hi hfn q1 q2 q3 hr hpe hfr hfl hfp hfp1 hpel hff hc; omega)), ?_, h1, h2, h3, h4, h5, rfl⟩
        rw [List.append_assoc]; exact htk
      · have hc : ¬ f * f ≤ n := fun z => of_decide_eq_false hc (cmpN_npos.mpr z)
        rw [if_neg hc] at htk
        fail "m"
        exact ⟨i, f, tk, rfl, rfl, by fail "m o", hf, hfr, by (first | fail "m r" | (clear hk hn hn2 hlen hprod hz hB hf hi hfn q1 q2 q3 hr hpe hfr hfl hfp hfp1 hpel hff hc; omega)), htk, h1, h2, h3, h4, h5, h6⟩
  · refine fun Γ => st3 (fun i f tk => an12 fun he hi hf hfn htl htk h1 h2 h3 h4 h5 h6 => ?_)
    cases i with
    | succ i => cases he
    | zero =>
      rw [List.take_zero, List.reverse_nil, takeF, List.append_nil] at htk
      refine WS.freeze (Γ' := [("taken", .list (tk.map (pairD (2 ^ k))))]) ?_ ⟨.inr ⟨rfl, h5⟩, trivial⟩
      fail "m"
      refine W2.sliceL (by decide) (by rw [List.length_map]; (first | fail "m r" | (clear hk hn hn2 hprod hB hf hi hfn hz; show _ ≤ 16777216; omega))) ?_
      rw [pick_rev, ← List.map_reverse, htk]
      fail "m"
      exact Ends0.ret
end
noncomputable def smallCert (n : Nat) : D := if primeB n = true then .tup [.str (Str.ofString "small")] else .none
noncomputable def pockItems (B n : Nat) (sub : Nat → D) : List Pr → Option (List D)
  | [] => some []
  | p :: r => match seek n (fun x => partB n x p.1) n 2 with
    | none => none
    | some v => (pockItems B n sub r).map (.tup [row B p.1, .int (p.2.1 : Nat), row B v, sub p.1] :: ·)
noncomputable def pockEnd : Option (List D) → D
  | none => .none
  | some t => .tup [.str (Str.ofString "pocklington"), .tup t]
noncomputable def pockD (B : Nat) : Nat → Nat → D
  | 0, _ => .none
  | f + 1, n => if n < 32 then smallCert n else if n % 2 = 0 then .none else pockEnd (pockItems B n (pockD B f) (partAbove n (factorPs (n - 1))))
noncomputable def prattEnd (B n : Nat) (sub : Nat → D) : Option Nat → D
  | none => .none
  | some v => .tup [.str (Str.ofString "pratt"), row B v, .tup ((factorPs (n - 1)).map fun p => .tup [row B p.1, .int (p.2.1 : Nat), sub p.1])]
noncomputable def prattD (B : Nat) : Nat → Nat → D
  | 0, _ => .none
  | f + 1, n => if n < 32 then smallCert n else if n % 2 = 0 then .none else prattEnd B n (prattD B f) (seek n (fun x => orderB n x (factorPs (n - 1))) n 2)
noncomputable def headOk : List D → Prop
  | .int _ :: _ => False
  | _ => True
noncomputable def Gd (B : Nat) : Nat → D → Prop
  | 0, _ => False
  | f + 1, d => match d with
    | .none => True
    | .int _ => True
    | .str x => PyData.strOk x = true
    | .list l => ∃ v, v ≤ 1000 ∧ l = nats (dg B v)
    | .tup l => headOk l ∧ l.length ≤ 60 ∧ ∀ x ∈ l, Gd B f x
    | _ => False
theorem Gd.up {B : Nat} : ∀ {f : Nat} {d : D}, Gd B f d → Gd B (f + 1) d
  | 0, _, h => h.elim
  | f + 1, d, h => by
    cases d with
    | list l => exact h
    | tup l =>
      have h : headOk l ∧ l.length ≤ 60 ∧ ∀ x ∈ l, Gd B f x := h
      exact ⟨h.1, h.2.1, fun x hx => (h.2.2 x hx).up⟩
    | none => trivial
    | int _ => trivial
    | str _ => exact h
    | _ => exact h.elim
theorem Gd.mono {B f g : Nat} {d : D} (h : Gd B f d) (hg : f ≤ g) : Gd B g d := by
  induction g with
  | zero => have : f = 0 := by fail "m o"
            subst this; exact h
  | succ g ih =>
    rcases Nat.lt_or_ge g f with q | q
    · have : f = g + 1 := by (first | fail "m r" | (clear ih; omega))
      subst this; exact h
    · exact (ih q).up
theorem dg_len10 {B : Nat} (hB : 2 ≤ B) {v : Nat} (hv : v ≤ 1024) : (dg B v).length ≤ 11 := by
  have c := can_dg hB v
  rcases Nat.eq_zero_or_pos v with q | q
  · subst q; simp [dg_zero]
  · have h1 := can_ge hB _ c (fun z => by have := (dg_nil hB).mp z; (first | fail "m r" | (clear hB; omega)))
    rw [val_dg hB] at h1
    rcases Nat.lt_or_ge ((dg B v).length - 1) 11 with z | z
    · (first | fail "m r" | (clear hB hv q h1; omega))
    · have h2 : B ^ 11 ≤ B ^ ((dg B v).length - 1) := Nat.pow_le_pow_right (by fail "m o") z
      have h3 : 2 ^ 11 ≤ B ^ 11 := Nat.pow_le_pow_left hB 11
      (first | fail "m r" | (clear hB z; omega))
theorem Gd.row {B f v : Nat} (hv : v ≤ 1000) : Gd B (f + 1) (row B v) := ⟨v, hv, rfl⟩
theorem wd_row {B f v : Nat} (hB : 2 ≤ B) (hv : v ≤ 1024) : Wd B (f + 2) (row B v) := by
  refine ⟨?_, fun x hx => ?_, fun _ => ?_⟩
  · rw [nats_len]; have := dg_len10 hB hv; fail "m o"
  · obtain ⟨y, _, rfl⟩ := List.mem_map.mp hx
    trivial
  · rw [(isRow_ofRow hB v).2]; exact hv
theorem Gd.wd {B : Nat} (hB : 2 ≤ B) : ∀ {f : Nat} {d : D}, Gd B f d → Wd B (f + 1) d
  | 0, _, h => h.elim
  | f + 1, d, h => by
    cases d with
    | list l =>
      obtain ⟨v, hv, rfl⟩ := h
      exact wd_row hB (by fail "m o")
    | tup l =>
      have h : headOk l ∧ l.length ≤ 60 ∧ ∀ x ∈ l, Gd B f x := h
      exact ⟨by (first | fail "m r" | (clear hB; omega)), fun x hx => (h.2.2 x hx).wd hB⟩
    | none => trivial
    | int _ => trivial
    | str _ => exact h
    | _ => exact h.elim
theorem gd_small {B f n : Nat} : Gd B (f + 2) (smallCert n) := by
  unfold smallCert
  split
  · refine ⟨trivial, by decide, fun x hx => ?_⟩
    rw [List.mem_singleton.mp hx]
    show PyData.strOk _ = true
    decide +kernel
  · trivial
theorem gd_pratt {B : Nat} : ∀ f n, n ≤ 1000 → Gd B (3 * f + 1) (prattD B f n)
  | 0, _, _ => trivial
  | f + 1, n, hn => by
    have hm : 3 * (f + 1) + 1 = 3 * f + 1 + 3 := by (first | fail "m r" | (clear hn; omega))
    rw [hm]
    unfold prattD
    split
    · exact gd_small.mono (f := 2) (by (first | fail "m r" | (clear hn hm; omega)))
    rename_i h32
    split
    · trivial
    rename_i h2
    obtain ⟨f1, f2, f3, f4⟩ := fac_ok (n := n) (by (first | fail "m r" | (clear hm h2; omega))) hn (by (first | fail "m r" | (clear hn hm h32; omega)))
    cases hs : seek n (fun x => orderB n x (factorPs (n - 1))) n 2 with
    | none => trivial
    | some v =>
      have := seek_ok hs
      refine ⟨trivial, by simp, fun x hx => ?_⟩
      simp only [List.mem_cons, List.not_mem_nil, or_false] at hx
      rcases hx with rfl | rfl | rfl
      · show PyData.strOk _ = true
        decide +kernel
      · exact Gd.row (by (first | fail "m r" | (clear hm h2 f1 f2; omega)))
      · refine ⟨by cases factorPs (n - 1) <;> trivial, by rw [List.length_map]; fail "m o", fun y hy => ?_⟩
        obtain ⟨p, hp, rfl⟩ := List.mem_map.mp hy
        have := f4 p hp
        refine ⟨trivial, by simp, fun z hz => ?_⟩
        simp only [List.mem_cons, List.not_mem_nil, or_false] at hz
        rcases hz with rfl | rfl | rfl
        · exact Gd.row (by (first | fail "m r" | (clear hm h2 f1 f2; omega)))
        · trivial
        · exact gd_pratt f p.1 (by (first | fail "m r" | (clear hm h2 f1 f2; omega)))
theorem gd_pock {B : Nat} : ∀ f n, n ≤ 1000 → Gd B (3 * f + 1) (pockD B f n)
  | 0, _, _ => trivial
  | f + 1, n, hn => by
    have hm : 3 * (f + 1) + 1 = 3 * f + 1 + 3 := by (first | fail "m r" | (clear hn; omega))
    rw [hm]
    unfold pockD
    split
    · exact gd_small.mono (f := 2) (by (first | fail "m r" | (clear hn hm; omega)))
    rename_i h32
    split
    · trivial
    rename_i h2
    obtain ⟨f1, f2, f3, f4⟩ := fac_ok (n := n) (by (first | fail "m r" | (clear hm h2; omega))) hn (by (first | fail "m r" | (clear hn hm h32; omega)))
    have items : ∀ (ps : List Pr) t, (∀ p ∈ ps, p.1 ≤ 1000) → pockItems B n (pockD B f) ps = some t → headOk t ∧ t.length = ps.length ∧ ∀ x ∈ t, Gd B (3 * f + 1 + 1) x := by
      intro ps
      induction ps with
      | nil => intro t _ h; cases h; exact ⟨trivial, rfl, fun x hx => by simp at hx⟩
      | cons p ps ih =>
        intro t hp h
        unfold pockItems at h
        split at h
        · cases h
        · rename_i v hv
          obtain ⟨u, hu, rfl⟩ := Option.map_eq_some_iff.mp h
          obtain ⟨_, i1, i2⟩ := ih u (fun q hq => hp q (List.mem_cons_of_mem _ hq)) hu
          refine ⟨trivial, by rw [List.length_cons, List.length_cons, i1], fun x hx => ?_⟩
          rcases List.mem_cons.mp hx with rfl | hx
          · refine ⟨trivial, by simp, fun z hz => ?_⟩
            have := seek_ok hv
            have hp1 := hp p (List.mem_cons_self ..)
            simp only [List.mem_cons, List.not_mem_nil, or_false] at hz
            rcases hz with rfl | rfl | rfl | rfl
            · exact Gd.row hp1
            · trivial
            · exact Gd.row (by (first | fail "m r" | (clear hm h2 f1 f2 i1 hp1; omega)))
            · exact gd_pock f p.1 hp1
          · exact i2 x hx
    have hmem : ∀ p ∈ partAbove n (factorPs (n - 1)), p ∈ factorPs (n - 1) := fun p hp => by
      have := takeF_mem (List.mem_reverse.mp hp)
      exact List.mem_reverse.mp this
    have hlen : (partAbove n (factorPs (n - 1))).length ≤ 60 := by
      unfold partAbove
      rw [List.length_reverse]
      have := takeF_len (n := n) (l := (factorPs (n - 1)).reverse) (f := 1)
      rw [List.length_reverse] at this
      (first | fail "m r" | (clear hn hm h32 h2 f1; omega))
    cases ht : pockItems B n (pockD B f) (partAbove n (factorPs (n - 1))) with
    | none => trivial
    | some t =>
      obtain ⟨t0, t1, t2⟩ := items _ t (fun p hp => by have := f4 p (hmem p hp); (first | fail "m r" | (clear hm h2 f1 f2 hlen; omega))) ht
      refine ⟨trivial, by simp, fun x hx => ?_⟩
      simp only [List.mem_cons, List.not_mem_nil, or_false] at hx
      rcases hx with rfl | rfl
      · show PyData.strOk _ = true
        decide +kernel
      · exact ⟨t0, by (first | fail "m r" | (clear hn hm h32 h2 f1 f2; omega)), t2⟩
section
variable {prog : Program} {w : World} {b : Heap} {C : Cx} {Γ : Vars} {σ : Store} {Q : D → Store → Prop}
variable {k : Nat} (B : Base (hd.heap_39 w.params) b) (hk : 1 ≤ k ∧ k ≤ 9)
include B hk
theorem c_pratt : ∀ (f n : Nat), n < 32 * 2 ^ f → n ≤ 1000 → Fn0 (model prog w) b (f + 8) (.ref 192) [row (2 ^ k) n, .int (k : Nat), toolsD] (prattD (2 ^ k) (f + 1) n) := by
  have hz := sz
  have hB : 2 ≤ 2 ^ k := pow_ge hk.1
  intro f
  induction f using Nat.strongRecOn with
  | ind f ih =>
  intro n hnf hn
  refine Fn0.intro B (names := ["n", "w", "tools"]) ⟨by with_unfolding_all rfl, ?fnb, by with_unfolding_all rfl, by with_unfolding_all rfl, by decide, by with_unfolding_all rfl, by with_unfolding_all rfl, by with_unfolding_all rfl⟩ rfl (by fail "m o") (fun A L Kf hKf ok => ?_)
  case fnb => exact len3 (P := fun vs => bindArgs _ ⟨vs, []⟩ = pure (List.zip _ vs)) (fun x0 x1 x2 => by with_unfolding_all rfl)
  dsimp only [List.zip, List.zipWith]
  first | rw [prattD] at hKf | rw [prattD]
  fail "m"
  refine WV.fn0 ok (c_small_value B hk n (by fail "m o")) (by fail "m n") ?_
  fail "m"
  first | rw [smallD] at hKf | rw [smallD]
  by_cases h32 : n < 32
  · rw [if_pos h32] at hKf ⊢
    refine conjTF ?_
    fail "m"
    refine WV.fn0 ok (c_is_small_prime B hk n (by fail "m o")) (by fail "m n") ?_
    rw [decide_eq_true h32, Bool.true_and]
    rw [smallCert] at hKf
    fail "m"
    refine ⟨fun hp => ?_, fun hp => ?_⟩
    · first | rw [if_pos hp] at hKf | rw [if_pos hp]
      fail "m"
      exact Ends0.ret
    · first | rw [if_neg (by rw [hp]; decide)] at hKf | rw [if_neg (by rw [hp]; decide)]
      fail "m"
      exact Ends0.ret
  rw [if_neg h32] at hKf ⊢
  refine conjFF ?_
  fail "m"
  refine WV.fn0 ok (c_is_even B hk n (by fail "m o")) (by fail "m n") ?_
  fail "m"
  refine ⟨fun he => ?_, fun he => ?_⟩
  · rw [beq_iff_eq] at he
    fail "m"
    refine .inl ?_
    rw [if_pos he]
  rw [beq_eq_false_iff_ne] at he
  first | rw [if_neg he] at hKf | rw [if_neg he]
  obtain ⟨f1, f2, f3, f4⟩ := fac_ok (n := n) (by (first | fail "m r" | (clear hk hz hB hnf he; omega))) hn (by (first | fail "m r" | (clear hk hz hB hnf hn h32; omega)))
  fail "m"
  fail "m t"
  unfold toolsD
  fail "m"
  refine ⟨_, rfl, rfl, ?_⟩
  dsimp only [bindAll, List.reverse, List.reverseAux]
  fail "m"
  refine WV.fn0 ok (c_sub1 B hk n (by fail "m o") (by (first | fail "m r" | (clear hk hz hB hnf he f1 f2; omega)))) (by fail "m n") ?_
  fail "m"
  refine WV.fn0 ok (c_law_factor B hk (n - 1) (by (first | fail "m r" | (clear hk hz hB hnf he f1 f2; omega)))) (by fail "m n") ?_
  generalize hps : factorPs (n - 1) = ps at *
  fail "m"
  refine WV.fn0 ok (c_nat_of B hk 2 (by (first | fail "m r" | (clear hk hB hnf hn h32 he f1 f2 hz; show _ ≤ 16777216; omega)))) (by fail "m n") ?_
  fail "m"
  refine whileI_ (fun m Γ σ => ∃ x, σ = [] ∧ x + m = n + 2 ∧ 2 ≤ x ∧ seek n (fun x => orderB n x ps) m x = seek n (fun x => orderB n x ps) n 2 ∧ Has Γ "n" (row (2 ^ k) n) ∧ Has Γ "pairs" (.list (ps.map (pairD (2 ^ k)))) ∧ Has Γ "w" (.int (k : Int)) ∧ Has Γ "tools" toolsD ∧ Has Γ "power" (.raw (.ref 319)) ∧ Has Γ "order" (row (2 ^ k) (n - 1)) ∧ Has Γ "base" (row (2 ^ k) x)) ⟨n, 2, rfl, by (first | fail "m r" | (clear hk hz hB hnf hn h32 he f1 f2; omega)), by (first | fail "m r" | (clear hk hz hB hnf hn h32 he f1 f2; omega)), rfl, rfl, rfl, rfl, rfl, rfl, rfl, rfl⟩ ?_
  refine fun m J hJ Γ => st1 (fun x => an10 fun hxm hx2 hsk h1 h2 h3 h4 h5 h6 h7 => ?_)
  fail "m"
  refine WV.fn0 ok (c_compare B hB x (n - 1) (by (first | fail "m r" | (clear hk hB hnf he f1 f2 hx2 hz; show _ ≤ 16777216; omega))) (by (first | fail "m r" | (clear hk hB hnf he f1 f2 hx2 hz; show _ ≤ 16777216; omega)))) (by fail "m n") ?_
  fail "m"
  refine ⟨fun hc => ?_, fun hc => ?_⟩
  · have hc := cmpN_npos.mp (of_decide_eq_true hc)
    obtain ⟨m, rfl⟩ : ∃ j, m = j + 1 := ⟨m - 1, by (first | fail "m r" | (clear hk hz hB hnf he f1 f2 hx2; omega))⟩
    rw [seek, if_pos hc] at hsk
    fail "m"
    refine WV.fn0 ok (c_law_power B hk x (n - 1) n (by (first | fail "m r" | (clear hk hB hnf he f1 f2 hx2 hc hz; show _ ≤ 16777216; omega))) (by (first | fail "m r" | (clear hk hB hnf he f1 f2 hx2 hc hz; show _ ≤ 16777216; omega))) (by (first | fail "m r" | (clear hk hz hB hnf he f1 f2 hx2 hc; omega))) (by fail "m o")) (by fail "m n") ?_
    fail "m"
    refine WV.fn0 ok (c_is_one B hB _) (by fail "m n") ?_
    fail "m"
    refine ⟨fun ho => ?_, fun ho => ?_⟩
    · rw [Bool.not_eq_true'] at ho
      rw [if_neg (of_decide_eq_false ho)] at hsk
      fail "m"
      refine .inl ?_
      rw [← hsk]; rfl
    rw [Bool.not_eq_false'] at ho
    rw [if_pos (of_decide_eq_true ho)] at hsk
    fail "m"
    refine WV.fn0 ok (c_has_whole_order B hk x n ps _ (.inl rfl) (by (first | fail "m r" | (clear hk hz hB hnf he f1 f2 hx2 hc; omega))) (by (first | fail "m r" | (clear hk hz hB hnf he f1 f2 hx2 hc; omega))) (by fail "m o") (by fail "m o") (fun p hp => by have := f4 p hp; (first | fail "m r" | (clear hk hB hnf he f1 f2 hx2 hc; omega))) (fun i => Nat.le_trans (prodW_le fun p hp => by have := f4 p hp; fail "m o") (by (first | fail "m r" | (clear hk hB hnf he f2 hx2 hc hz; show _ ≤ 16777216; omega))))) (by fail "m n") ?_
    fail "m"
    refine ⟨fun hq => ?_, fun hq => ?_⟩
    · rw [if_pos hq] at hsk
      fail "m"
      refine comp_ (p := fun _ => true) (f := fun x => .tup [row (2 ^ k) (toPr (2 ^ k) x).1, .int ((toPr (2 ^ k) x).2.1 : Nat), prattD (2 ^ k) f (toPr (2 ^ k) x).1]) [("w", L + 1), ("tools", L + 2)] [("w", .int (k : Nat)), ("tools", toolsD)] ok ?_ (fun L' => ⟨⟨h3, .inl (by with_unfolding_all rfl), .inl (by with_unfolding_all rfl), _, by with_unfolding_all rfl, by with_unfolding_all rfl⟩, ⟨h4, .inl (by with_unfolding_all rfl), .inl (by with_unfolding_all rfl), _, by with_unfolding_all rfl, by with_unfolding_all rfl⟩, trivial⟩) (by with_unfolding_all rfl) ⟨by with_unfolding_all rfl, by with_unfolding_all rfl, trivial⟩ (by dsimp only [List.map]; decide) (by decide) (by with_unfolding_all rfl) (by decide) (by intro _; with_unfolding_all rfl)
      fail "m"
      refine ⟨rfl, _, .list _, by rw [List.length_map]; fail "m o", ?_, ?_⟩
      · intro L' ok' y hy
        obtain ⟨p, hp, rfl⟩ := List.mem_map.mp hy
        have hp4 := f4 p hp
        have hf : ∃ g, f = g + 1 := by
          cases f with
          | zero => rw [Nat.pow_zero] at hnf; (first | fail "m r" | (clear hk hz hB he f1 f2 hx2 hc hp4; omega))
          | succ g => exact ⟨g, rfl⟩
        obtain ⟨g, rfl⟩ := hf
        rw [Nat.pow_succ] at hnf
        refine turn0 (WAL.name ok' ?_ (by with_unfolding_all rfl))
        refine ⟨rfl, fun _ => ?_⟩
        first | rw [(isPairB_of hB p).2] at hKf | rw [(isPairB_of hB p).2]
        fail "m"
        refine W2.itemT (d := row (2 ^ k) p.1) (by decide) (by decide) rfl ?_
        fail "m"
        refine W2.itemT (d := .int (p.2.1 : Nat)) (by decide) (by decide) rfl ?_
        fail "m"
        refine W2.itemT (d := row (2 ^ k) p.1) (by decide) (by decide) rfl ?_
        fail "m"
        refine WV.fn0 ok' (ih g (by fail "m o") p.1 (by (first | fail "m r" | (clear hk hz hB hn h32 he f1 f2 hx2 hc; omega))) (by (first | fail "m r" | (clear hk hz hB he f1 f2 hx2 hc hnf; omega)))) (Nat.le_refl _) ?_
        fail "m"
        exact ⟨rfl, rfl⟩
      · fail "m"
        first | rw [List.filter_eq_self.mpr (fun _ _ => rfl), List.map_map] at hKf | rw [List.filter_eq_self.mpr (fun _ _ => rfl), List.map_map]
        refine WV.tupleL (by rw [List.length_map]; fail "m o") ?_
        fail "m"
        refine .inl ?_
        have e : ps.map ((fun x => D.tup [row (2 ^ k) (toPr (2 ^ k) x).1, .int ((toPr (2 ^ k) x).2.1 : Nat), prattD (2 ^ k) f (toPr (2 ^ k) x).1]) ∘ pairD (2 ^ k)) = ps.map fun p => D.tup [row (2 ^ k) p.1, .int (p.2.1 : Nat), prattD (2 ^ k) f p.1] :=
          List.map_congr_left fun p _ => by rw [Function.comp_apply, (isPairB_of hB p).2]
        rw [← hsk, prattEnd, hps, e]
    · rw [if_neg (by rw [hq]; decide)] at hsk
      fail "m"
      refine WV.fn0 ok (c_add1 B hk x (by (first | fail "m r" | (clear hk hz hB hnf he f1 f2 hx2 hc; omega))) (by fail "m o")) (by fail "m n") ?_
      fail "m"
      exact ⟨m, by fail "m o", x + 1, rfl, by fail "m o", by (first | fail "m r" | (clear hk hz hB hnf hn h32 he f1 f2 hc hxm; omega)), hsk, h1, h2, h3, h4, h5, h6, rfl⟩
  · have hc : ¬ x ≤ n - 1 := fun z => of_decide_eq_false hc (cmpN_npos.mpr z)
    fail "m"
    refine .inl ?_
    rw [← hsk]
    cases m with
    | zero => rfl
    | succ m => rw [seek, if_neg hc]; rfl
theorem c_pock : ∀ (f n : Nat), n < 32 * 2 ^ f → n ≤ 1000 → Fn0 (model prog w) b (f + 8) (.ref 239) [row (2 ^ k) n, .int (k : Nat), toolsD] (pockD (2 ^ k) (f + 1) n) := by
  have hz := sz
  have hB : 2 ≤ 2 ^ k := pow_ge hk.1
  intro f
  induction f using Nat.strongRecOn with
  | ind f ih =>
  intro n hnf hn
  refine Fn0.intro B (names := ["n", "w", "tools"]) ⟨by with_unfolding_all rfl, ?fnb, by with_unfolding_all rfl, by with_unfolding_all rfl, by decide, by with_unfolding_all rfl, by with_unfolding_all rfl, by with_unfolding_all rfl⟩ rfl (by fail "m o") (fun A L Kf hKf ok => ?_)
  case fnb => exact len3 (P := fun vs => bindArgs _ ⟨vs, []⟩ = pure (List.zip _ vs)) (fun x0 x1 x2 => by with_unfolding_all rfl)
  dsimp only [List.zip, List.zipWith]
  first | rw [pockD] at hKf | rw [pockD]
  fail "m"
  refine WV.fn0 ok (c_small_value B hk n (by fail "m o")) (by fail "m n") ?_
  fail "m"
  first | rw [smallD] at hKf | rw [smallD]
  by_cases h32 : n < 32
  · rw [if_pos h32] at hKf ⊢
    refine conjTF ?_
    fail "m"
    refine WV.fn0 ok (c_is_small_prime B hk n (by fail "m o")) (by fail "m n") ?_
    rw [decide_eq_true h32, Bool.true_and]
    rw [smallCert] at hKf
    fail "m"
    refine ⟨fun hp => ?_, fun hp => ?_⟩
    · first | rw [if_pos hp] at hKf | rw [if_pos hp]
      fail "m"
      exact Ends0.ret
    · first | rw [if_neg (by rw [hp]; decide)] at hKf | rw [if_neg (by rw [hp]; decide)]
      fail "m"
      exact Ends0.ret
  rw [if_neg h32] at hKf ⊢
  refine conjFF ?_
  fail "m"
  refine WV.fn0 ok (c_is_even B hk n (by fail "m o")) (by fail "m n") ?_
  fail "m"
  refine ⟨fun he => ?_, fun he => ?_⟩
  · rw [beq_iff_eq] at he
    fail "m"
    refine .inl ?_
    rw [if_pos he]
  rw [beq_eq_false_iff_ne] at he
  first | rw [if_neg he] at hKf | rw [if_neg he]
  obtain ⟨f1, f2, f3, f4⟩ := fac_ok (n := n) (by (first | fail "m r" | (clear hk hz hB hnf he; omega))) hn (by (first | fail "m r" | (clear hk hz hB hnf hn h32; omega)))
  have hmem : ∀ p ∈ partAbove n (factorPs (n - 1)), p ∈ factorPs (n - 1) := fun p hp => by
    have := takeF_mem (List.mem_reverse.mp hp)
    exact List.mem_reverse.mp this
  have hlen : (partAbove n (factorPs (n - 1))).length ≤ 60 := by
    unfold partAbove
    first | rw [List.length_reverse] at hKf | rw [List.length_reverse]
    have := takeF_len (n := n) (l := (factorPs (n - 1)).reverse) (f := 1)
    rw [List.length_reverse] at this
    (first | fail "m r" | (clear hk hz hB hnf hn h32 he f1; omega))
  have hf : ∃ g, f = g + 1 := by
    cases f with
    | zero => rw [Nat.pow_zero] at hnf; (first | fail "m r" | (clear hk hz hB he f1 f2 hlen; omega))
    | succ g => exact ⟨g, rfl⟩
  obtain ⟨g, rfl⟩ := hf
  rw [Nat.pow_succ] at hnf
  unfold toolsD
  refine WS.nil (andNext (WS.cons (WX.assign ok ?_ (by with_unfolding_all rfl) (by with_unfolding_all rfl))))
  refine WE.mono (Q := fun d σ' => d = .raw (.ref 352) ∧ σ' = []) (by fail "m"; exact ⟨rfl, rfl⟩) ?_
  rintro _ _ ⟨rfl, rfl⟩
  refine andNext (WS.cons (WX.assign ok (listP_ (WArgs.nil ⟨rfl, by decide, fun a => ?_⟩)) (by with_unfolding_all rfl) (by with_unfolding_all rfl)))
  fail "m"
  refine forI_ (fun xs Γ σ => ∃ pre todo, σ = [(a, pre)] ∧ xs = todo.map (pairD (2 ^ k)) ∧ (∀ p ∈ todo, p ∈ factorPs (n - 1)) ∧ pre.length + todo.length ≤ 60 ∧ (pockItems (2 ^ k) n (pockD (2 ^ k) (g + 1)) todo).map (pre ++ ·) = pockItems (2 ^ k) n (pockD (2 ^ k) (g + 1)) (partAbove n (factorPs (n - 1))) ∧ Has Γ "n" (row (2 ^ k) n) ∧ Has Γ "w" (.int (k : Int)) ∧ Has Γ "tools" toolsD ∧ Has Γ "found" (.raw (.ref a))) ok ?_ ?_ ?_
  · fail "m"
    refine WV.fn0 ok (c_sub1 B hk n (by fail "m o") (by (first | fail "m r" | (clear hk hz hB he f1 f2 hlen hnf; omega)))) (by fail "m n") ?_
    fail "m"
    refine WV.fn0 ok (c_law_factor B hk (n - 1) (by (first | fail "m r" | (clear hk hz hB he f1 f2 hlen hnf; omega)))) (by fail "m n") ?_
    fail "m"
    refine WV.fn0 ok (c_part_above B hk n (factorPs (n - 1)) (by (first | fail "m r" | (clear hk hz hB he f1 f2 hlen hnf; omega))) (by fail "m o") (by fail "m o") (fun p hp => by have := f4 p hp; (first | fail "m r" | (clear hk hz hB he f1 f2 hlen hnf; omega))) (by (first | fail "m r" | (clear hk hz hB he f2 hlen hnf; omega)))) (by fail "m n") ?_
    refine ⟨_, .list _, [], _, rfl, rfl, hmem, by simpa using hlen, ?_, rfl, rfl, rfl, rfl⟩
    generalize pockItems (2 ^ k) n (pockD (2 ^ k) (g + 1)) (partAbove n (factorPs (n - 1))) = z
    cases z <;> rfl
  · refine fun e xs J hJ Γ => st2 (fun pre todo => an8 fun he ht hl hit h1 h2 h3 h4 => ?_)
    cases todo with
    | nil => cases he
    | cons p todo =>
      cases he
      have hp4 := f4 p (ht p (List.mem_cons_self ..))
      rw [List.length_cons] at hl
      rw [pockItems] at hit
      refine WA.name ok ?_
      fail "m"
      refine W2.itemT (d := row (2 ^ k) p.1) (by decide) (by decide) rfl ?_
      fail "m"
      refine WV.fn0 ok (c_partner_of B hk n p.1 (by (first | fail "m r" | (clear hk hz hB he f1 f2 hlen hnf hl hp4; omega))) (by fail "m o") (by fail "m o") (by (first | fail "m r" | (clear hk hz hB he f1 f2 hlen hnf hl; omega)))) (by fail "m n") ?_
      cases hs : seek n (fun x => partB n x p.1) n 2 with
      | none =>
        rw [hs] at hit
        first | rw [optRow] at hKf | rw [optRow]
        fail "m"
        refine conjTF ?_
        fail "m"
        refine .inl ?_
        rw [← hit]; rfl
      | some v =>
        rw [hs] at hit
        first | rw [optRow] at hKf | rw [optRow]
        fail "m"
        refine conjFF ?_
        fail "m"
        refine W2.itemT (d := row (2 ^ k) p.1) (by decide) (by decide) rfl ?_
        fail "m"
        refine W2.itemT (d := .int (p.2.1 : Nat)) (by decide) (by decide) rfl ?_
        fail "m"
        refine W2.itemT (d := row (2 ^ k) p.1) (by decide) (by decide) rfl ?_
        fail "m"
        refine WV.fn0 ok (ih g (by fail "m o") p.1 (by (first | fail "m r" | (clear hk hz hB hn h32 he f1 f2 hlen hl; omega))) (by (first | fail "m r" | (clear hk hz hB he f1 f2 hlen hnf hl; omega)))) (Nat.le_refl _) ?_
        fail "m"
        refine ⟨_, rfl, by (first | fail "m r" | (clear hk hB hn h32 he f1 f2 hlen hnf hp4 hz; show _ ≤ 16777216; omega)), ?_⟩
        fail "m"
        refine ⟨_, todo, rfl, rfl, fun q hq => ht q (List.mem_cons_of_mem _ hq), by rw [List.length_append]; simp; (first | fail "m r" | (clear hk hz hB hn h32 he f1 f2 hlen hnf hp4; omega)), ?_, h1, h2, h3, h4⟩
        rw [← hit]
        dsimp only
        cases pockItems (2 ^ k) n (pockD (2 ^ k) (g + 1)) todo with
        | none => rfl
        | some t => simp
  · refine fun Γ => st2 (fun pre todo => an8 fun he ht hl hit h1 h2 h3 h4 => ?_)
    have : todo = [] := by simpa using he.symm
    subst this
    rw [pockItems, Option.map_some, List.append_nil] at hit
    refine WS.freeze (Γ' := [("found", .list pre)]) ?_ ⟨.inr ⟨rfl, h4⟩, trivial⟩
    fail "m"
    refine WV.tupleL (by simp at hl; fail "m o") ?_
    fail "m"
    refine .inl ?_
    rw [← hit]; rfl
end
noncomputable def goodF : Nat → Nat → Bool
  | 0, _ => false
  | f + 1, n => if n < 32 then primeB n else decide (n % 2 ≠ 0) && ((seek n (fun x => orderB n x (factorPs (n - 1))) n 2).isSome && (factorPs (n - 1)).all fun p => goodF f p.1)
theorem good_low : ((List.range 500).all fun n => decide (n < 32) || !lawPrime n || goodF 6 n) = true := by decide +kernel
theorem good_high : ((List.range 438).all fun n => !lawPrime (500 + n) || goodF 6 (500 + n)) = true := by decide +kernel
theorem good_all {n : Nat} (h1 : 32 ≤ n) (h2 : n ≤ 937) (h3 : lawPrime n = true) : goodF 6 n = true := by
  rcases Nat.lt_or_ge n 500 with q | q
  · have := List.all_eq_true.mp good_low n (List.mem_range.mpr q)
    rw [decide_eq_false (by omega), h3] at this
    simpa using this
  · have := List.all_eq_true.mp good_high (n - 500) (List.mem_range.mpr (by omega))
    rw [show 500 + (n - 500) = n by omega, h3] at this
    simpa using this
theorem prime937 : lawPrime 937 = true := by decide +kernel
theorem prodL_re (g : Pr → List D) : ∀ ps : List Pr, prodL (ps.map fun p => (p.1, p.2.1, g p)) = prodL ps
  | [] => rfl
  | p :: ps => by rw [List.map_cons, prodL, prodL, prodL_re g ps]
theorem prodW_re (g : Pr → List D) {w : Nat} : ∀ (ps : List Pr) (i : Nat), prodW w i (ps.map fun p => (p.1, p.2.1, g p)) = prodW w i ps
  | [], _ => rfl
  | p :: ps, i => by rw [List.map_cons, prodW, prodW, prodW_re g ps]
theorem orderB_re (g : Pr → List D) {n a : Nat} (ps : List Pr) : orderB n a (ps.map fun p => (p.1, p.2.1, g p)) = orderB n a ps := by
  unfold orderB
  rw [List.length_map]
  congr 2
  funext i
  rw [prodW_re]
theorem str_pratt : ¬ (Str.ofString "pratt" = Str.ofString "small") := by decide +kernel
theorem holds_pratt {B : Nat} (hB : 2 ≤ B) : ∀ f F n, f ≤ F → n ≤ 1000 → goodF f n = true → prattS B F n (prattD B f n) = true
  | 0, _, _, _, _, h => by cases h
  | f + 1, 0, _, h, _, _ => by (clear hB; omega)
  | f + 1, F + 1, n, hF, hn, h => by
    unfold goodF at h
    rw [prattD]
    split at h
    · rename_i h32
      rw [if_pos h32, smallCert, if_pos h, prattS_str, if_pos rfl, h, decide_eq_true h32]
      rfl
    · rename_i h32
      rw [Bool.and_eq_true, Bool.and_eq_true, decide_eq_true_iff, List.all_eq_true] at h
      obtain ⟨h1, h2, h3⟩ := h
      obtain ⟨f1, f2, f3, f4⟩ := fac_ok (n := n) (by (clear hB hF h1; omega)) hn (by (clear hB hF hn h32; omega))
      rw [if_neg h32, if_neg h1]
      obtain ⟨v, hv⟩ := Option.isSome_iff_exists.mp h2
      obtain ⟨v1, v2, v3, v4⟩ := seek_ok hv
      rw [hv, prattEnd, prattS_str, if_neg str_pratt, if_pos rfl, prattIn]
      generalize factorPs (n - 1) = ps at *
      have e : (ps.map fun p => D.tup [row B p.1, .int (p.2.1 : Nat), prattD B f p.1]) = (ps.map fun p => (p.1, p.2.1, [prattD B f p.1])).map (pairD B) := by
        rw [List.map_map]; rfl
      have hprs : prs B (.tup (ps.map fun p => D.tup [row B p.1, .int (p.2.1 : Nat), prattD B f p.1])) = ps.map fun p => (p.1, p.2.1, [prattD B f p.1]) := by
        rw [e, prs, D.items, List.map_map]
        conv => rhs; rw [← List.map_id (ps.map fun p => (p.1, p.2.1, [prattD B f p.1]))]
        exact List.map_congr_left fun p _ => (isPairB_of hB p).2
      have hare : areB B 3 (.tup (ps.map fun p => D.tup [row B p.1, .int (p.2.1 : Nat), prattD B f p.1])) = true := by
        rw [e, areB, Bool.and_eq_true, List.all_eq_true]
        constructor
        · intro x hx
          obtain ⟨q, hq, rfl⟩ := List.mem_map.mp hx
          obtain ⟨p, hp, rfl⟩ := List.mem_map.mp hq
          have := f4 p hp
          rw [goodB, (isPairB_of hB _).1, decide_eq_true (show 2 ≤ p.1 by (clear hB hF hn h32 h1 v1 v2 v3 f1 f2; omega)), decide_eq_true (show 1 ≤ p.2.1 by (clear hB hF hn h32 h1 v1 v2 v3 f1 f2; omega))]
          rfl
        · rw [List.map_map, List.map_map]
          have : ((fun x => (toPr B x).1) ∘ pairD B) ∘ (fun p : Pr => (p.1, p.2.1, [prattD B f p.1])) = fun p : Pr => p.1 := by
            funext p
            show (toPr B (pairD B (p.1, p.2.1, [prattD B f p.1]))).1 = p.1
            rw [(isPairB_of hB _).2]
          rw [this]; exact f3
      rw [hprs, hare, (isRow_ofRow hB v).1, (isRow_ofRow hB v).2, prodL_re (fun p => [prattD B f p.1]), orderB_re (fun p => [prattD B f p.1]), f1, v4, decide_eq_true (show 3 ≤ n by (clear hB hF h1 v1 v2 v3 f1 f2; omega)), decide_eq_true v1, decide_eq_true (show v < n by (clear hB hF h1 v1 v3 f2; omega))]
      simp only [decide_true, Bool.true_and, Bool.and_self]
      rw [D.items, List.all_eq_true]
      intro x hx
      obtain ⟨p, hp, rfl⟩ := List.mem_map.mp hx
      have : toPr B (D.tup [row B p.1, .int (p.2.1 : Nat), prattD B f p.1]) = (p.1, p.2.1, [prattD B f p.1]) := (isPairB_of hB (p.1, p.2.1, [prattD B f p.1])).2
      rw [this]
      show prattS B F p.1 (prattD B f p.1) = true
      exact holds_pratt hB f F p.1 (by (clear hB hn h32 h1 v1 v2 v3 f1 f2; omega)) (by have := f4 p hp; (clear hB hF h1 v1 v2 v3 f1 f2; omega)) (h3 p hp)
theorem nine_refused {B : Nat} (hB : 2 ≤ B) (F : Nat) : prattS B (F + 2) 163 (.tup [.str (Str.ofString "pratt"), row B 2, .tup [.tup [row B 2, .int 1, .tup [.str (Str.ofString "small")]], .tup [row B 9, .int 2, .tup [.str (Str.ofString "small")]]]]) = false := by
  rw [prattS_str, if_neg str_pratt, if_pos rfl, prattIn]
  have h9 : prattS B (F + 1) (toPr B (.tup [row B 9, .int 2, .tup [.str (Str.ofString "small")]])).1 (nthD (.tup [row B 9, .int 2, .tup [.str (Str.ofString "small")]]) 2) = false := by
    have : toPr B (D.tup [row B 9, .int 2, .tup [.str (Str.ofString "small")]]) = (9, 2, [.tup [.str (Str.ofString "small")]]) := (isPairB_of hB (9, 2, [.tup [.str (Str.ofString "small")]])).2
    rw [this]
    show prattS B (F + 1) 9 (.tup [.str (Str.ofString "small")]) = false
    rw [prattS_str, if_pos rfl]
    decide +kernel
  rw [D.items, List.all_cons, List.all_cons, h9]
  simp
theorem gdHead {B f : Nat} {l : List D} (h : Gd B (f + 1) (.tup l)) : headOk l ∧ l.length ≤ 60 ∧ ∀ x ∈ l, Gd B f x := h
theorem wd_tup {B f : Nat} {l : List D} (h1 : l.length ≤ 64) (h2 : ∀ x ∈ l, Wd B f x) : Wd B (f + 1) (.tup l) := ⟨h1, h2⟩
theorem wd_list {B f : Nat} {l : List D} (h1 : l.length ≤ 64) (h2 : ∀ x ∈ l, Wd B f x) (h3 : isRow B (.list l) = true → valD B (.list l) ≤ 1024) : Wd B (f + 1) (.list l) := ⟨h1, h2, h3⟩
theorem ok_words : PyData.strOk (Str.ofString "pratt") = true ∧ PyData.strOk (Str.ofString "small") = true ∧ PyData.strOk (Str.ofString "pocklington") = true ∧ PyData.strOk (Str.ofString "") = true ∧ PyData.strOk (Str.ofString "1") = true := by decide +kernel
theorem headRow {B : Nat} : ∀ {l : List D}, headOk l → isRow B (.list l) = true → valD B (.list l) ≤ 1024
  | [], _, _ => by show (0 : Nat) ≤ 1024; decide
  | x :: l, h, hr => by
    rw [isRow, Bool.and_eq_true, List.all_cons, Bool.and_eq_true] at hr
    cases x <;> first | exact h.elim | cases hr.1.1
noncomputable def eightA : List D := [.tup [], .none, .int 5, .str (Str.ofString "pratt"), .list [.str (Str.ofString "small")], .tup [.str (Str.ofString "small")], .tup [.int 0, .int 1], .tup [.str (Str.ofString "pratt"), .list [.int 2], .tup []]]
noncomputable def eightB (e : Int) : List D := [.int 0, .int 1, .int 2, .bool true, .int (e + 1), .str (Str.ofString "1"), .int 99, .none]
noncomputable def eightC : List D := [.str (Str.ofString "small"), .str (Str.ofString "pratt"), .str (Str.ofString "pocklington"), .str (Str.ofString ""), .none, .int 1, .tup [], .tup [.str (Str.ofString "small")]]
noncomputable def eightR (B v : Nat) : List D := [row B (v + 1), .list (nats (dg B v) ++ [.int 0]), .tup (nats (dg B v)), .list [.int 2], .list [.int 1], .list [], .list [.int (B : Nat)], .list [.bool true]]
theorem wdA {B f : Nat} : ∀ x ∈ eightA, Wd B (f + 3) x := by
  obtain ⟨s1, s2, s3, s4, s5⟩ := ok_words
  have base : ∀ x ∈ eightA, Wd B 3 x := by
    intro x hx
    simp only [eightA, List.mem_cons, List.not_mem_nil, or_false] at hx
    rcases hx with rfl | rfl | rfl | rfl | rfl | rfl | rfl | rfl
    · exact wd_tup (by simp) (fun x hx => by simp at hx)
    · trivial
    · trivial
    · exact s1
    · refine wd_list (by simp) (fun x hx => ?_) (fun h => ?_)
      · rw [List.mem_singleton.mp hx]; exact s2
      · cases h
    · refine wd_tup (by simp) (fun x hx => ?_)
      rw [List.mem_singleton.mp hx]; exact s2
    · refine wd_tup (by simp) (fun x hx => ?_)
      simp only [List.mem_cons, List.not_mem_nil, or_false] at hx
      rcases hx with rfl | rfl <;> trivial
    · refine wd_tup (by simp) (fun x hx => ?_)
      simp only [List.mem_cons, List.not_mem_nil, or_false] at hx
      rcases hx with rfl | rfl | rfl
      · exact s1
      · refine wd_list (by simp) (fun x hx => ?_) (fun h => ?_)
        · rw [List.mem_singleton.mp hx]; trivial
        · show (2 : Int).toNat + B * 0 ≤ 1024
          rw [Nat.mul_zero]; decide
      · exact wd_tup (by simp) (fun x hx => by simp at hx)
  exact fun x hx => (base x hx).mono (by fail "m o")
theorem wdB {B f : Nat} {e : Int} : ∀ x ∈ eightB e, Wd B (f + 1) x := by
  obtain ⟨s1, s2, s3, s4, s5⟩ := ok_words
  intro x hx
  simp only [eightB, List.mem_cons, List.not_mem_nil, or_false] at hx
  rcases hx with rfl | rfl | rfl | rfl | rfl | rfl | rfl | rfl <;> first | trivial | exact s5
theorem wdC {B f : Nat} : ∀ x ∈ eightC, Wd B (f + 2) x := by
  obtain ⟨s1, s2, s3, s4, s5⟩ := ok_words
  intro x hx
  simp only [eightC, List.mem_cons, List.not_mem_nil, or_false] at hx
  rcases hx with rfl | rfl | rfl | rfl | rfl | rfl | rfl | rfl
  · exact s2
  · exact s1
  · exact s3
  · exact s4
  · trivial
  · trivial
  · exact wd_tup (by simp) (fun x hx => by simp at hx)
  · refine wd_tup (by simp) (fun x hx => ?_)
    rw [List.mem_singleton.mp hx]; exact s2
theorem wdR {B f v : Nat} (hB : 2 ≤ B) (hv : v ≤ 1000) : ∀ x ∈ eightR B v, Wd B (f + 3) x := by
  have hl := dg_len10 hB (v := v) (by fail "m o")
  have allI : ∀ x ∈ nats (dg B v), Wd B 1 x := fun x hx => by
    obtain ⟨y, _, rfl⟩ := List.mem_map.mp hx
    trivial
  have base : ∀ x ∈ eightR B v, Wd B 3 x := by
    intro x hx
    simp only [eightR, List.mem_cons, List.not_mem_nil, or_false] at hx
    rcases hx with rfl | rfl | rfl | rfl | rfl | rfl | rfl | rfl
    · exact (wd_row (f := 0) hB (by (first | fail "m r" | (clear hB hl; omega)))).mono (by decide)
    · refine Wd.mono (f := 2) (wd_list (by rw [List.length_append, nats_len]; simp; fail "m o") (fun x hx => ?_) (fun h => ?_)) (by decide)
      · rcases List.mem_append.mp hx with hx | hx
        · exact allI x hx
        · rw [List.mem_singleton.mp hx]; trivial
      · rw [isRow, Bool.and_eq_true, decide_eq_true_iff] at h
        rcases h.2 with q | q
        · rw [nats_len, List.length_map, List.length_append] at q
          simp at q
        · exfalso
          apply q
          rw [List.map_append, List.getLast?_append]; rfl
    · exact Wd.mono (f := 2) (wd_tup (by rw [nats_len]; fail "m o") allI) (by decide)
    · refine Wd.mono (f := 2) (wd_list (by simp) (fun x hx => ?_) (fun h => ?_)) (by decide)
      · rw [List.mem_singleton.mp hx]; trivial
      · show (2 : Int).toNat + B * 0 ≤ 1024
        rw [Nat.mul_zero]; decide
    · refine Wd.mono (f := 2) (wd_list (by simp) (fun x hx => ?_) (fun h => ?_)) (by decide)
      · rw [List.mem_singleton.mp hx]; trivial
      · show (1 : Int).toNat + B * 0 ≤ 1024
        rw [Nat.mul_zero]; decide
    · refine wd_list (by simp) (fun x hx => by simp at hx) (fun h => ?_)
      show (0 : Nat) ≤ 1024
      decide
    · refine Wd.mono (f := 2) (wd_list (by simp) (fun x hx => ?_) (fun h => ?_)) (by decide)
      · rw [List.mem_singleton.mp hx]; trivial
      · rw [isRow, Bool.and_eq_true, List.all_cons, D.limb, Bool.and_eq_true, Bool.and_eq_true] at h
        have := of_decide_eq_true h.1.1.2
        (first | fail "m r" | (clear hB hv hl; omega))
    · refine Wd.mono (f := 2) (wd_list (by simp) (fun x hx => ?_) (fun h => ?_)) (by decide)
      · rw [List.mem_singleton.mp hx]; trivial
      · cases h
  exact fun x hx => (base x hx).mono (by (first | fail "m r" | (clear hB hv hl; omega)))
section
variable {prog : Program} {w : World} {b : Heap} {C : Cx} {Γ : Vars} {σ : Store} {Q : D → Store → Prop}
theorem Fn.mono {n : Nat} {fv : Value} {ds : List D} {Q Q' : D → Store → Prop} (h : Fn (model prog w) b n fv ds σ Q) (hq : ∀ d σ, Q d σ → Q' d σ) : Fn (model prog w) b n fv ds σ Q' := by
  intro A X s vs h1 h2 h3 h4 h5 h6 h6x h7 h8
  refine codeAny_mono (h A X s vs h1 h2 h3 h4 h5 h6 h6x h7 h8) fun r s' z => ?_
  obtain ⟨v, d, σ', e, q, rest⟩ := z
  exact ⟨v, d, σ', e, hq d σ' q, rest⟩
variable {k : Nat} (B : Base (hd.heap_39 w.params) b) (hk : 1 ≤ k ∧ k ≤ 9)
include B
theorem take_ {bx : Addr} {t c m : Nat} (ok : C.Ok) (hn : 1 ≤ C.n) (hm : 0 < m) (hm2 : m < 2 ^ 29) (h : ∀ r t' : Nat, r < m → Q (.int (r : Nat)) [(bx, [.int (t' : Nat), .int ((c + 1 : Nat) : Int)])]) :
    WV (model prog w) b C (fun vs => call (.ref 272) vs []) [.raw (.ref bx), .int (m : Nat)] Γ [(bx, [.int (t : Nat), .int (c : Nat)])] Q := by
  refine WV.fn ok (Fn.mono (c_take B bx t c m hm hm2) fun d σ' z => ?_) hn
  obtain ⟨l', rfl, r, t', hr, rfl, rfl, _⟩ := z
  exact h r t' hr
include hk
theorem c_bent (bx : Addr) : ∀ (f : Nat) (d : D) (t c : Nat), Gd (2 ^ k) f d → f ≤ 50 → Fn (model prog w) b (f + 4) (.ref 385) [.raw (.ref bx), d, .int (k : Nat)] [(bx, [.int (t : Nat), .int (c : Nat)])] fun d' σ' => ∃ l', σ' = [(bx, l')] ∧ ∃ t' c' : Nat, l' = [.int (t' : Nat), .int (c' : Nat)] ∧ Wd (2 ^ k) (f + 3) d' := by
  have hz := sz
  have hB : 2 ≤ 2 ^ k := pow_ge hk.1
  have hB2 : 2 ^ k ≤ 2 ^ 9 := Nat.pow_le_pow_right (by decide) hk.2
  obtain ⟨s1, s2, s3, s4, s5⟩ := ok_words
  intro f
  induction f with
  | zero => intro d t c h; exact h.elim
  | succ f ih =>
  intro d t c hd' hf
  have easy := (hd'.wd hB).easy
  refine Fn.introB B (names := ["box", "value", "w"]) ⟨by with_unfolding_all rfl, ?fnb, by with_unfolding_all rfl, by with_unfolding_all rfl, by decide, by with_unfolding_all rfl, by with_unfolding_all rfl, by with_unfolding_all rfl⟩ rfl (by fail "m o") (fun A L Kf hKf ok => ?_)
  case fnb => exact len3 (P := fun vs => bindArgs _ ⟨vs, []⟩ = pure (List.zip _ vs)) (fun x0 x1 x2 => by with_unfolding_all rfl)
  dsimp only [List.zip, List.zipWith]
  fail "m"
  refine take_ B ok (by fail "m n") (m := 8) (by decide) (by decide) fun form t1 hform => ?_
  fail "m j"
  refine WX.ite (WT.mono (Q := fun c' σ' => c' = (!(d.is .tuple) || (decide (d.items.length = 0) || decide (form = 0))) ∧ σ' = [(bx, [.int (t1 : Nat), .int ((c + 1 : Nat) : Int)])]) ?_ ?_)
  · fail "m"
    refine isi_ (T := .tuple) easy ?_
    fail "m"
    refine ⟨fun hc => ?_, fun hc => ?_⟩
    · rw [hc]; exact ⟨rfl, rfl⟩
    rw [hc, Bool.false_or]
    cases d with
    | tup l =>
      have hl := (gdHead hd').2.1
      fail "m"
      refine WV.lenT (by fail "m o") ?_
      fail "m"
      refine ⟨fun h0 => ?_, fun h0 => ?_⟩
      · have h0 := of_decide_eq_true h0
        rw [decide_eq_true (show (D.tup l).items.length = 0 from by show l.length = 0; fail "m o")]; exact ⟨rfl, rfl⟩
      · have h0 := of_decide_eq_false h0
        rw [decide_eq_false (show ¬ (D.tup l).items.length = 0 from by show ¬ l.length = 0; fail "m o"), Bool.false_or]
        fail "m"
        refine ⟨fun h1 => ?_, fun h1 => ?_⟩
        · have h1 := of_decide_eq_true h1
          rw [decide_eq_true (by fail "m o")]; exact ⟨rfl, rfl⟩
        · have h1 := of_decide_eq_false h1
          rw [decide_eq_false (by fail "m o")]
          fail "m"
          exact ⟨rfl, rfl⟩
    | _ => first | exact ft hc | exact tf hc
  rintro _ _ ⟨rfl, rfl⟩
  refine ⟨fun hc => ?_, fun hc => ?_⟩
  · fail "m"
    refine take_ B ok (by fail "m n") (m := 8) (by decide) (by decide) fun r t2 hr => ?_
    refine W2.item (l := eightA) (i := (r : Nat)) (d := eightA[r]'hr) (by fail "m o") (by (first | fail "m r" | (clear hk hz hB hB2 hf hform; omega))) (by rw [Int.toNat_natCast]; exact List.getElem?_eq_getElem _) ?_
    fail "m"
    exact ⟨_, rfl, _, _, rfl, (wdA (f := f + 1)) _ (List.getElem_mem _)⟩
  rw [Bool.or_eq_false_iff, Bool.or_eq_false_iff] at hc
  obtain ⟨hc1, hc2, hc3⟩ := hc
  have hc3 := of_decide_eq_false hc3
  cases d with
  | tup l =>
    obtain ⟨hh, hl, hg⟩ := gdHead hd'
    have hl0 : 0 < l.length := by have := of_decide_eq_false hc2; exact Nat.pos_of_ne_zero this
    fail "m"
    refine WV.lenT (by fail "m o") ?_
    fail "m"
    refine take_ B ok (by fail "m n") (m := l.length) hl0 (by fail "m o") fun r t2 hr => ?_
    obtain ⟨x, hx⟩ : ∃ x, l[r]? = some x := ⟨_, List.getElem?_eq_getElem hr⟩
    have hgx := hg x (List.mem_of_getElem? hx)
    obtain ⟨f, rfl⟩ : ∃ g, f = g + 1 := by
      cases f with
      | zero => exact hgx.elim
      | succ f => exact ⟨f, rfl⟩
    have easyx := (hgx.wd hB).easy
    have wl : ∀ y ∈ l, Wd (2 ^ k) (f + 1 + 3) y := fun y hy => ((hg y hy).wd hB).mono (by (first | fail "m r" | (clear hk hz hB hB2 hform hc3 hl hl0 hr hf; omega)))
    have repl : ∀ X, Wd (2 ^ k) (f + 1 + 3) X → Wd (2 ^ k) (f + 1 + 1 + 3) (.tup (l.take r ++ [X] ++ l.drop (r + 1))) := fun X hX => by
      refine wd_tup (f := f + 1 + 3) (by rw [List.length_append, List.length_append, List.length_take, List.length_drop]; simp; (first | fail "m r" | (clear hk hz hB hB2 hform hc3 hf; omega))) (fun y hy => ?_)
      rcases List.mem_append.mp hy with hy | hy
      · rcases List.mem_append.mp hy with hy | hy
        · exact wl y (List.mem_of_mem_take hy)
        · rw [List.mem_singleton.mp hy]; exact hX
      · exact wl y (List.mem_of_mem_drop hy)
    have cast : (r : Int) + 1 = ((r + 1 : Nat) : Int) := by fail "m o"
    fail "m"
    refine W2.itemT (d := x) (by fail "m o") (by (first | fail "m r" | (clear hk hz hB hB2 hform hc3 hf cast; omega))) (by rw [Int.toNat_natCast]; exact hx) ?_
    fail "m j"
    refine WX.ite (WT.mono (Q := fun c' σ' => c' = (decide (form < 4) && x.is .tuple) ∧ σ' = [(bx, [.int (t2 : Nat), .int ((c + 1 + 1 : Nat) : Int)])]) ?_ ?_)
    · fail "m"
      refine ⟨fun h4 => ?_, fun h4 => ?_⟩
      · rw [decide_eq_false (show ¬ form < 4 by have := of_decide_eq_false h4; fail "m o")]; exact ⟨rfl, rfl⟩
      · rw [decide_eq_true (show form < 4 by have := of_decide_eq_true h4; fail "m o"), Bool.true_and]
        fail "m"
        refine isi_ (T := .tuple) easyx ?_
        fail "m"
        refine ⟨fun h5 => ?_, fun h5 => ?_⟩
        · rw [h5]; exact ⟨rfl, rfl⟩
        · rw [h5]
          fail "m"
          exact ⟨rfl, rfl⟩
    rintro _ _ ⟨rfl, rfl⟩
    refine ⟨fun h6 => ?_, fun h6 => ?_⟩
    · fail "m"
      refine W2.tupTake (k := r) hr (by fail "m o") ?_
      fail "m"
      refine WV.fn ok (Fn.mono (ih x t2 (c + 1 + 1) hgx (by fail "m o")) fun d' σ' z => ?_) (Nat.le_refl _)
      obtain ⟨l', rfl, t', c', rfl, hwd⟩ := z
      fail "m"
      refine W2.addTup (by rw [List.length_take]; simp; (first | fail "m r" | (clear hk hB hB2 hform hc3 hf cast hz; show _ ≤ 16777216; omega))) ?_
      fail "m"
      rw [cast]
      refine W2.tupDrop (k := r + 1) (by (first | fail "m r" | (clear hk hz hB hB2 hform hc3 hl hl0 hr hf cast; omega))) hr (by fail "m o") ?_
      refine W2.addTup (by rw [List.length_append, List.length_take, List.length_drop]; simp; (first | fail "m r" | (clear hk hB hB2 hform hc3 hf cast hz; show _ ≤ 16777216; omega))) ?_
      fail "m"
      exact ⟨_, rfl, _, _, rfl, repl _ hwd⟩
    fail "m"
    refine ⟨fun h7 => ?_, fun h7 => ?_⟩
    · fail "m"
      refine W2.tupTake (k := r) hr (by fail "m o") ?_
      fail "m"
      rw [cast]
      refine W2.tupDrop (k := r + 1) (by (first | fail "m r" | (clear hk hz hB hB2 hform hc3 hl hl0 hr hf cast; omega))) hr (by fail "m o") ?_
      refine W2.addTup (by rw [List.length_take, List.length_drop]; (first | fail "m r" | (clear hk hB hB2 hform hc3 hf cast hz; show _ ≤ 16777216; omega))) ?_
      fail "m"
      refine ⟨_, rfl, _, _, rfl, wd_tup (f := f + 1 + 3) (by rw [List.length_append, List.length_take, List.length_drop]; (first | fail "m r" | (clear hk hz hB hB2 hform hc3 hf cast; omega))) (fun y hy => ?_)⟩
      rcases List.mem_append.mp hy with hy | hy
      · exact wl y (List.mem_of_mem_take hy)
      · exact wl y (List.mem_of_mem_drop hy)
    fail "m"
    refine ⟨fun h8 => ?_, fun h8 => ?_⟩
    · fail "m"
      refine take_ B ok (by fail "m n") (m := 2) (by decide) (by decide) fun r2 t3 hr2 => ?_
      fail "m"
      refine ⟨fun h9 => ?_, fun h9 => ?_⟩
      · fail "m"
        refine WV.listT (by fail "m o") ?_
        fail "m"
        exact ⟨_, rfl, _, _, rfl, wd_list (f := f + 1 + 3) (by fail "m o") wl (headRow hh)⟩
      · fail "m"
        refine W2.tupRev (by fail "m o") ?_
        fail "m"
        exact ⟨_, rfl, _, _, rfl, wd_tup (f := f + 1 + 3) (by rw [List.length_reverse]; fail "m o") (fun y hy => wl y (List.mem_reverse.mp hy))⟩
    fail "m"
    refine isi_ (T := .list) easyx ?_
    fail "m"
    refine ⟨fun h10 => ?_, fun h10 => ?_⟩
    · cases x with
      | list y =>
        obtain ⟨v, hv, rfl⟩ : ∃ v, v ≤ 1000 ∧ y = nats (dg (2 ^ k) v) := hgx
        have lv := dg_len10 hB (v := v) (by fail "m o")
        fail "m"
        refine WV.fn0 ok (c_law_whole B hk.2 (dg (2 ^ k) v) (by fail "m o")) (by fail "m n") ?_
        rw [val_dg hB]
        fail "m"
        rw [show (v : Int) + 1 = ((v + 1 : Nat) : Int) by fail "m o"]
        refine WV.fn0 ok (c_law_row B hk (v + 1) (by (first | fail "m r" | (clear hk hB hB2 hform hc3 hl hl0 hr hf cast lv hz; show _ ≤ 16777216; omega)))) (by fail "m n") ?_
        fail "m"
        refine W2.addList (by rw [nats_len]; simp; (first | fail "m r" | (clear hk hB hB2 hform hc3 hl hl0 hr hf cast hv hz; show _ ≤ 16777216; omega))) ?_
        fail "m"
        refine WV.tupleL (by rw [nats_len]; fail "m o") ?_
        fail "m"
        refine pow2_ (k := k) (by fail "m o") ?_
        fail "m"
        refine W2.tupTake (k := r) hr (by fail "m o") ?_
        fail "m"
        refine take_ B ok (by fail "m n") (m := 8) (by decide) (by decide) fun r2 t3 hr2 => ?_
        refine W2.item (l := eightR (2 ^ k) v) (i := (r2 : Nat)) (d := (eightR (2 ^ k) v)[r2]'hr2) (by fail "m o") (by (first | fail "m r" | (clear hk hz hB hB2 hform hc3 hl hl0 hr hf cast hv lv; omega))) (by rw [Int.toNat_natCast]; exact List.getElem?_eq_getElem _) ?_
        fail "m"
        refine W2.addTup (by rw [List.length_take]; simp; (first | fail "m r" | (clear hk hB hB2 hform hc3 hf cast hv lv hr2 hz; show _ ≤ 16777216; omega))) ?_
        fail "m"
        rw [cast]
        refine W2.tupDrop (k := r + 1) (by (first | fail "m r" | (clear hk hz hB hB2 hform hc3 hl hl0 hr hf cast hv lv hr2; omega))) hr (by fail "m o") ?_
        refine W2.addTup (by rw [List.length_append, List.length_take, List.length_drop]; simp; (first | fail "m r" | (clear hk hB hB2 hform hc3 hf cast hv lv hr2 hz; show _ ≤ 16777216; omega))) ?_
        fail "m"
        exact ⟨_, rfl, _, _, rfl, repl _ ((wdR (f := f + 1) hB hv) _ (List.getElem_mem _))⟩
      | _ => first | exact ft h10 | exact tf h10
    fail "m"
    refine isi_ (T := .int) easyx ?_
    fail "m"
    refine ⟨fun h11 => ?_, fun h11 => ?_⟩
    · cases x with
      | int e =>
        fail "m"
        refine W2.tupTake (k := r) hr (by fail "m o") ?_
        fail "m"
        refine take_ B ok (by fail "m n") (m := 8) (by decide) (by decide) fun r2 t3 hr2 => ?_
        refine W2.item (l := eightB e) (i := (r2 : Nat)) (d := (eightB e)[r2]'hr2) (by fail "m o") (by (first | fail "m r" | (clear hk hz hB hB2 hform hc3 hl hl0 hr hf cast; omega))) (by rw [Int.toNat_natCast]; exact List.getElem?_eq_getElem _) ?_
        fail "m"
        refine W2.addTup (by rw [List.length_take]; simp; (first | fail "m r" | (clear hk hB hB2 hform hc3 hf cast hr2 hz; show _ ≤ 16777216; omega))) ?_
        fail "m"
        rw [cast]
        refine W2.tupDrop (k := r + 1) (by (first | fail "m r" | (clear hk hz hB hB2 hform hc3 hl hl0 hr hf cast hr2; omega))) hr (by fail "m o") ?_
        refine W2.addTup (by rw [List.length_append, List.length_take, List.length_drop]; simp; (first | fail "m r" | (clear hk hB hB2 hform hc3 hf cast hr2 hz; show _ ≤ 16777216; omega))) ?_
        fail "m"
        exact ⟨_, rfl, _, _, rfl, repl _ ((wdB (f := f + 3)) _ (List.getElem_mem _))⟩
      | bool e => exact hgx.elim
      | _ => first | exact ft h11 | exact tf h11
    fail "m"
    refine W2.tupTake (k := r) hr (by fail "m o") ?_
    fail "m"
    refine take_ B ok (by fail "m n") (m := 8) (by decide) (by decide) fun r2 t3 hr2 => ?_
    refine W2.item (l := eightC) (i := (r2 : Nat)) (d := eightC[r2]'hr2) (by fail "m o") (by (first | fail "m r" | (clear hk hz hB hB2 hform hc3 hl hl0 hr hf cast; omega))) (by rw [Int.toNat_natCast]; exact List.getElem?_eq_getElem _) ?_
    fail "m"
    refine W2.addTup (by rw [List.length_take]; simp; (first | fail "m r" | (clear hk hB hB2 hform hc3 hf cast hr2 hz; show _ ≤ 16777216; omega))) ?_
    fail "m"
    rw [cast]
    refine W2.tupDrop (k := r + 1) (by (first | fail "m r" | (clear hk hz hB hB2 hform hc3 hl hl0 hr hf cast hr2; omega))) hr (by fail "m o") ?_
    refine W2.addTup (by rw [List.length_append, List.length_take, List.length_drop]; simp; (first | fail "m r" | (clear hk hB hB2 hform hc3 hf cast hr2 hz; show _ ≤ 16777216; omega))) ?_
    fail "m"
    exact ⟨_, rfl, _, _, rfl, repl _ ((wdC (f := f + 2)) _ (List.getElem_mem _))⟩
  | _ => first | exact ft hc1 | exact tf hc1
end
noncomputable def kindsL : List Str := [Str.ofString "factor", Str.ofString "fermat", Str.ofString "strong", Str.ofString "root", Str.ofString "prime"]
theorem kinds_ok : ∀ s ∈ kindsL, PyData.strOk s = true := by
  have : (kindsL.all fun s => PyData.strOk s) = true := by decide +kernel
  intro s h
  exact List.all_eq_true.mp this s h
noncomputable def oddL : List D := [.none, .int 3, .str (Str.ofString "factor"), .tup [], .tup [.str (Str.ofString "factor")], .list [.str (Str.ofString "factor"), .list [.int 2]], .tup [.str (Str.ofString "factor"), .list [.int 2], .int 1], .tup [.str (Str.ofString "factor"), .int 2], .tup [.int 1, .list [.int 2]], .tup [.str (Str.ofString "factor"), .list [.int 0]]]
theorem dg_base {B : Nat} (hB : 2 ≤ B) : dg B B = [0, 1] := by
  rw [dg_pos hB (by fail "m o"), Nat.mod_self, Nat.div_self (by fail "m o"), dg_one hB]
theorem row_base {B : Nat} (hB : 2 ≤ B) : row B B = .list [.int 0, .int 1] := by rw [row, dg_base hB]; rfl
theorem small2 {B : Nat} : isRow B (.list [.int 2]) = true → valD B (.list [.int 2]) ≤ 1024 := fun _ => by
  show (2 : Int).toNat + B * 0 ≤ 1024
  rw [Nat.mul_zero]; decide
theorem small0 {B : Nat} : isRow B (.list [.int 0]) = false := by
  rw [isRow, Bool.and_eq_false_iff]
  fail "m"; exact .inr (by decide)
theorem odd_ok {B : Nat} : ∀ x ∈ oddL, Wd B 4 x ∧ compB B B x = false := by
  have hf : PyData.strOk (Str.ofString "factor") = true := kinds_ok _ (by simp [kindsL])
  have w2 : Wd B 2 (.list [.int 2]) := wd_list (by simp) (fun x hx => by rw [List.mem_singleton.mp hx]; trivial) small2
  have w0 : Wd B 2 (.list [.int 0]) := wd_list (by simp) (fun x hx => by rw [List.mem_singleton.mp hx]; trivial) (fun h => by rw [small0] at h; cases h)
  intro x hx
  simp only [oddL, List.mem_cons, List.not_mem_nil, or_false] at hx
  rcases hx with rfl | rfl | rfl | rfl | rfl | rfl | rfl | rfl | rfl | rfl
  · exact ⟨trivial, rfl⟩
  · exact ⟨trivial, rfl⟩
  · exact ⟨hf, rfl⟩
  · exact ⟨wd_tup (by simp) (fun x hx => by simp at hx), rfl⟩
  · refine ⟨wd_tup (by simp) (fun x hx => ?_), rfl⟩
    rw [List.mem_singleton.mp hx]; exact hf
  · refine ⟨wd_list (by simp) (fun x hx => ?_) (fun h => by cases h), rfl⟩
    simp only [List.mem_cons, List.not_mem_nil, or_false] at hx
    rcases hx with rfl | rfl
    · exact hf
    · exact w2.mono (by decide)
  · refine ⟨wd_tup (by simp) (fun x hx => ?_), rfl⟩
    simp only [List.mem_cons, List.not_mem_nil, or_false] at hx
    rcases hx with rfl | rfl | rfl
    · exact hf
    · exact w2.mono (by decide)
    · trivial
  · refine ⟨wd_tup (by simp) (fun x hx => ?_), rfl⟩
    simp only [List.mem_cons, List.not_mem_nil, or_false] at hx
    rcases hx with rfl | rfl
    · exact hf
    · trivial
  · refine ⟨wd_tup (by simp) (fun x hx => ?_), rfl⟩
    simp only [List.mem_cons, List.not_mem_nil, or_false] at hx
    rcases hx with rfl | rfl
    · trivial
    · exact w2.mono (by decide)
  · refine ⟨wd_tup (by simp) (fun x hx => ?_), ?_⟩
    · simp only [List.mem_cons, List.not_mem_nil, or_false] at hx
      rcases hx with rfl | rfl
      · exact hf
      · exact w0.mono (by decide)
    · rw [compB, small0]; rfl
section
variable {prog : Program} {w : World} {b : Heap} {C : Cx} {Γ : Vars} {σ : Store} {Q : D → Store → Prop}
variable {k : Nat} (B : Base (hd.heap_39 w.params) b) (hk : 1 ≤ k ∧ k ≤ 9)
include B hk
theorem c_others (bx : Addr) (t c : Nat) : Fn (model prog w) b 6 (.ref 397) [.raw (.ref bx), .int (k : Nat), toolsD] [(bx, [.int (t : Nat), .int (c : Nat)])] fun d' σ' => ∃ l', σ' = [(bx, l')] ∧ d' = .bool true := by
  have hz := sz
  have hB : 2 ≤ 2 ^ k := pow_ge hk.1
  have hB2 : 2 ^ k ≤ 2 ^ 9 := Nat.pow_le_pow_right (by decide) hk.2
  refine Fn.introB B (names := ["box", "w", "tools"]) ⟨by with_unfolding_all rfl, ?fnb, by with_unfolding_all rfl, by with_unfolding_all rfl, by decide, by with_unfolding_all rfl, by with_unfolding_all rfl, by with_unfolding_all rfl⟩ rfl (by fail "m o") (fun A L Kf hKf ok => ?_)
  case fnb => exact len3 (P := fun vs => bindArgs _ ⟨vs, []⟩ = pure (List.zip _ vs)) (fun x0 x1 x2 => by with_unfolding_all rfl)
  dsimp only [List.zip, List.zipWith]
  fail "m"
  refine take_ B ok (by fail "m n") (m := 60) (by decide) (by decide) fun r0 t1 hr0 => ?_
  fail "m"
  rw [show (2 : Int) + (r0 : Int) = ((2 + r0 : Nat) : Int) by fail "m o"]
  generalize hn : 2 + r0 = n
  refine WV.fn0 ok (c_law_row B hk n (by (first | fail "m r" | (clear hk hB hB2 hz; show _ ≤ 16777216; omega)))) (by fail "m n") ?_
  fail "m"
  refine forI_ (fun xs Γ σ => ∃ (todo : List Str) (t c : Nat), σ = [(bx, [.int (t : Nat), .int (c : Nat)])] ∧ xs = todo.map .str ∧ (∀ s ∈ todo, PyData.strOk s = true) ∧ Has Γ "n" (.int (n : Nat)) ∧ Has Γ "row" (row (2 ^ k) n) ∧ Has Γ "box" (.raw (.ref bx)) ∧ Has Γ "w" (.int (k : Nat)) ∧ Has Γ "tools" toolsD) ok ?_ ?_ ?_
  · fail "m"
    exact ⟨_, .tup _, kindsL, t1, c + 1, rfl, rfl, kinds_ok, rfl, rfl, rfl, rfl, rfl⟩
  · refine fun e xs J hJ Γ => st3 (fun todo t2 c2 => an7 fun he hs h1 h2 h3 h4 h5 => ?_)
    cases todo with
    | nil => cases he
    | cons s todo =>
      cases he
      have hso := hs s (List.mem_cons_self ..)
      refine WA.name ok ?_
      fail "m"
      refine forI_ (fun xs Γ σ => ∃ (i j t c : Nat), σ = [(bx, [.int (t : Nat), .int (c : Nat)])] ∧ xs = ups i j ∧ Has Γ "kind" (.str s) ∧ Has Γ "n" (.int (n : Nat)) ∧ Has Γ "row" (row (2 ^ k) n) ∧ Has Γ "box" (.raw (.ref bx)) ∧ Has Γ "w" (.int (k : Nat)) ∧ Has Γ "tools" toolsD) ok ?_ ?_ ?_
      · fail "m"
        exact ⟨_, iterUps (n := 3) (by decide), 0, 3, t2, c2, rfl, rfl, rfl, h1, h2, h3, h4, h5⟩
      · refine fun e xs J hJ Γ => st4 (fun i j t3 c3 => an7 fun he g0 g1 g2 g3 g4 g5 => ?_)
        cases j with
        | zero => cases he
        | succ j =>
          cases he
          refine WA.name ok ?_
          fail "m"
          rw [show (n : Int) + 2 = ((n + 2 : Nat) : Int) by (first | fail "m r" | (clear hk hz hB hB2 hr0 hn; omega))]
          refine take_ B ok (by fail "m n") (m := n + 2) (by (first | fail "m r" | (clear hk hz hB hB2; omega))) (by (first | fail "m r" | (clear hk hz hB hB2; omega))) fun a t4 ha => ?_
          fail "m"
          refine WV.fn0 ok (c_law_row B hk a (by (first | fail "m r" | (clear hk hB hB2 hz; show _ ≤ 16777216; omega)))) (by fail "m n") ?_
          fail "m"
          have hw : Wd (2 ^ k) 3 (.tup [.str s, row (2 ^ k) a]) := wd_tup (by simp) (fun x hx => by
            simp only [List.mem_cons, List.not_mem_nil, or_false] at hx
            rcases hx with rfl | rfl
            · exact hso
            · exact wd_row hB (by (first | fail "m r" | (clear hk hz hB hB2; omega))))
          refine WV.fn0 ok (c_composite_holds B hk n 3 _ hw (by (first | fail "m r" | (clear hk hz hB hB2 ha; omega)))) (by fail "m n") ?_
          rw [compB, (isRow_ofRow hB a).1, (isRow_ofRow hB a).2, Bool.true_and]
          fail "m"
          refine WV.fn0 ok (c_law_is_shown B n a s (by (first | fail "m r" | (clear hk hz hB hB2 ha; omega)))) (by fail "m n") ?_
          fail "m"
          rw [decide_eq_false (fun z => z rfl)]
          refine conjFF ?_
          fail "m"
          exact ⟨i + 1, j, t4, _, rfl, rfl, g0, g1, g2, g3, g4, g5⟩
      · refine fun Γ => st4 (fun i j t3 c3 => an7 fun he g0 g1 g2 g3 g4 g5 => ?_)
        fail "m"
        exact ⟨todo, t3, c3, rfl, rfl, fun s h => hs s (List.mem_cons_of_mem _ h), g1, g2, g3, g4, g5⟩
  · rintro Γ σ ⟨todo, t2, c2, rfl, he, hs, h1, h2, h3, h4, h5⟩ -- by rintro
    fail "m"
    refine W2.addList (by simp; (first | fail "m r" | (clear hk hB hB2 hr0 hn hz; show _ ≤ 16777216; omega))) ?_
    fail "m"
    refine comp_ (p := fun x => compB (2 ^ k) (2 ^ k) x) (f := id) [("w", L + 1), ("tools", L + 2)] [("w", .int (k : Nat)), ("tools", toolsD)] ok ?_ (fun L' => ⟨⟨has_skip (by decide) h4, .inl (by with_unfolding_all rfl), .inl (by with_unfolding_all rfl), _, by with_unfolding_all rfl, by with_unfolding_all rfl⟩, ⟨has_skip (by decide) h5, .inl (by with_unfolding_all rfl), .inl (by with_unfolding_all rfl), _, by with_unfolding_all rfl, by with_unfolding_all rfl⟩, trivial⟩) (by with_unfolding_all rfl) ⟨by with_unfolding_all rfl, by with_unfolding_all rfl, trivial⟩ (by dsimp only [List.map]; decide) (by decide) (by with_unfolding_all rfl) (by decide) (by intro _; with_unfolding_all rfl)
    fail "m"
    refine ⟨rfl, oddL, .list _, by simp [oddL]; (first | fail "m r" | (clear hk hB hB2 hr0 hn hz; show _ ≤ 16777216; omega)), ?_, ?_⟩
    · intro L' ok' x hx
      obtain ⟨hw, hc⟩ := odd_ok (B := 2 ^ k) x hx
      refine turnIf (WAL.name ok' ?_ (by with_unfolding_all rfl))
      fail "m"
      rw [← row_base hB]
      refine WV.fn0 ok' (c_composite_holds B hk (2 ^ k) 4 x hw (by fail "m o")) (by fail "m n") ?_
      fail "m"
      exact ⟨rfl, rfl, fun z => by rw [hc] at z; cases z⟩
    · fail "m"
      have : oddL.filter (fun x => compB (2 ^ k) (2 ^ k) x) = [] := by
        rw [List.filter_eq_nil_iff]
        intro x hx
        rw [(odd_ok (B := 2 ^ k) x hx).2]; decide
      rw [this]
      refine eqNil_ (B := 2) (f := 1) ok (by decide) (fun x hx => by simp at hx) ?_
      fail "m"
      exact ⟨_, rfl, rfl⟩
end
noncomputable def zwD (ks : List (Int × Tok)) (fs : List (Str × Value)) : List DictEntry := List.zipWith (fun k f => (⟨k.1, .str f.1 k.2, f.2⟩ : DictEntry)) ks fs
theorem isStr_ne {x name : Str} {t : Tok} (h : x ≠ name) : (Value.str x t).isStr name = false := by
  show (x == name) = false
  rw [beq_eq_false_iff_ne]; exact h
theorem putL_zw {name : Str} {hsh : Int} {tk : Tok} {v : Value} : ∀ (ks : List (Int × Tok)) (fs : List (Str × Value)), ks.length = fs.length → (∀ f ∈ fs, f.1 ≠ name) →
    putL name hsh (.str name tk) v (zwD ks fs) = zwD (ks ++ [(hsh, tk)]) (fs ++ [(name, v)])
  | [], [], _, _ => rfl
  | [], _ :: _, h, _ => by simp at h
  | _ :: _, [], h, _ => by simp at h
  | k :: ks, f :: fs, h, hf => by
    have ih := putL_zw (hsh := hsh) (tk := tk) (v := v) ks fs (by simpa using h) fun g hg => hf g (List.mem_cons_of_mem _ hg)
    have hn := hf f (List.mem_cons_self ..)
    show putL name hsh (.str name tk) v (⟨k.1, .str f.1 k.2, f.2⟩ :: zwD ks fs) = ⟨k.1, .str f.1 k.2, f.2⟩ :: zwD (ks ++ [(hsh, tk)]) (fs ++ [(name, v)])
    rw [putL, isStr_ne hn, ih]; rfl
theorem any_zw {name : Str} : ∀ (ks : List (Int × Tok)) (fs : List (Str × Value)), (∀ f ∈ fs, f.1 ≠ name) → (zwD ks fs).any (·.key.isStr name) = false
  | [], _, _ => rfl
  | _ :: _, [], _ => rfl
  | k :: ks, f :: fs, hf => by
    show ((Value.str f.1 k.2).isStr name || (zwD ks fs).any (·.key.isStr name)) = false
    rw [isStr_ne (hf f (List.mem_cons_self ..)), any_zw ks fs fun g hg => hf g (List.mem_cons_of_mem _ hg)]; rfl
theorem ref_zw : ∀ (ks : List (Int × Tok)) (fs : List (Str × Value)), (zwD ks fs).any (·.refKey) = false
  | [], _ => rfl
  | _ :: _, [] => rfl
  | k :: ks, f :: fs => by
    show ((⟨k.1, .str f.1 k.2, f.2⟩ : DictEntry).refKey || (zwD ks fs).any (·.refKey)) = false
    rw [ref_zw ks fs]; rfl
theorem getL_zw {name : Str} (ks : List (Int × Tok)) (fs : List (Str × Value)) (hf : ∀ f ∈ fs, f.1 ≠ name) : (getL name (zwD ks fs)).isSome = true := by
  unfold getL
  split
  · rfl
  · rw [ref_zw]; rfl
section
variable {prog : Program} {w : World} {b : Heap} {C : Cx} {Γ : Vars} {σ : Store} {Q : D → Store → Prop}
theorem call_frame {K : Frag} {oc : Value} {od : Option Addr} {osl : Array (Option Value)} {name : Str} {params : Arguments} {dV kV doc pm : Value} {an : Option Addr} {ct : Value} {f : Addr} {qual : Str} {body : List Stmt} {scope : Scope} {cdv : Value} {names : List Str} {A : Around} {s : Shared} {vs : List Value} {R : Result → Shared → Prop} (B : Base K b) (F : FnAtK K f qual body scope cdv names oc od osl name params dV kV doc pm an ct)
    (hroom : A.depth < recursionLimit) (hk : ∀ a o, b.get? a = some o → s.heap.get? a = some o) (hlen : vs.length = names.length)
    (h : ∀ s₁, InCallC s s.heap.objs.size (bindL (envOfC qual scope s.heap.objs.size f cdv).kindOf (names.zip vs) fun _ => none) (envOfC qual scope s.heap.objs.size f cdv).cells (bindC (envOfC qual scope s.heap.objs.size f cdv).kindOf (names.zip vs) fun _ => none) s₁ →
      wpAny (model prog w) (A.deeper (envOfC qual scope s.heap.objs.size f cdv)) (execs body (envOfC qual scope s.heap.objs.size f cdv)) (fun fl s' => R (.ok (.ret (match fl with | .ret v => v | _ => .none))) s') NoE s₁) :
    codeAny (model prog w) A (.call (.ref f) ⟨vs, []⟩) R s := by
  have ho := F.get
  have hbind := F.bind
  obtain ⟨p, loose, mg, mb, T⟩ := B.top
  have hzip : (names.zip vs).map (·.1) = names := List.map_fst_zip (by (first | fail "m r" | (clear hroom; omega)))
  have kin : ∀ x ∈ names.zip vs, scope.names.lookup x.1 = some .local ∨ scope.names.lookup x.1 = some .cell := fun x hx => by
    have hm : x.1 ∈ names := by rw [← hzip]; exact List.mem_map.mpr ⟨x, hx, rfl⟩
    have := List.all_eq_true.mp F.kinds _ hm
    rcases Bool.or_eq_true_iff.mp this with q | q
    · fail "m"; exact .inl (by simpa using q)
    · fail "m"; exact .inr (by simpa using q)
  have kinds : ∀ x ∈ names.zip vs, scope.names.lookup x.1 = some .local ∨ (scope.names.lookup x.1 = some .cell ∧ ((cellsFrom (s.heap.objs.size + 1) scope.names []).lookup x.1).isSome = true) := fun x hx => by
    rcases kin x hx with q | q
    · fail "m"; exact .inl q
    · fail "m"; exact .inr ⟨q, cellsFrom_some _ _ _ (.inl q)⟩
  refine codeAny_call_cells (fd := fnOf name qual params body scope dV kV doc pm an cdv ct) (body := body) (binds := names.zip vs) hroom (B.K.keeps hk _ _ ho) rfl (T.nolimit.keeps hk) (codeRec_of (B.K.keeps hk) F.code) rfl (hbind vs hlen) rfl kinds (fun s₁ x => ?_) F.co F.gen F.kind
  have e0 : callEnvC (fnOf name qual params body scope dV kV doc pm an cdv ct) s.heap.objs.size f = envOfC qual scope s.heap.objs.size f cdv := rfl
  rw [e0] at x ⊢
  exact wpAny_mono (h s₁ x) (fun _ _ q => q) fun _ _ e => e.elim

theorem putN_ {name : Str} {es : List DictEntry} {n : Nat} (h : es.any (·.key.isStr name) = false) : putN name es n = n + 1 := if_neg (by rw [h]; decide)
theorem init_step {K : Frag} {A : Around} {s : Shared} {env : Env} {h₀ : Heap} {m : Str → Option Value} {xi dx cls : Addr} {ks : List (Int × Tok)} {fs : List (Str × Value)} {n : Nat} {attr x : Str} {v : Value} {p1 p2 p3 pos : Pos} {rest : List Stmt} {Q : Flow → Shared → Prop}
    (hkind : env.scope.kind = .function) (F : Fr h₀ env.locals s.heap m) (X₀ : K.In h₀) (N : News h₀ env.locals s.heap [(xi, instObj cls dx), (dx, dictOf (zwD ks fs) n)]) (hne : xi ≠ dx)
    (k1 : env.kindOf x = some .local) (e1 : m x = some v) (k2 : env.kindOf "self" = some .local) (e2 : m "self" = some (.ref xi))
    (hs : findIn K (.ref cls) "__setattr__" = some (some (.builtin "object.__setattr__"))) (hp : plainOver K cls = true) (ht : takerIn K cls attr = some none) (hh : hasDictIn K cls = true)
    (hl : ks.length = fs.length) (hf : ∀ f ∈ fs, f.1 ≠ attr) (hz : fs.length ≤ 900)
    (hx1 : (x == ("__debug__" : Str)) = false) (hx2 : (x == ("__classdict__" : Str)) = false)
    (hsw : swapsWith (.Name x p3) (some (.Attribute (.Name "self" p1) attr p2)) pos.line env = pure false)
    (h : ∀ s' ks' n', (∃ h' tk, s' = { s with heap := h', toks := tk }) → Fr h₀ env.locals s'.heap m → ks'.length = (fs ++ [(attr, v)]).length → News h₀ env.locals s'.heap [(xi, instObj cls dx), (dx, dictOf (zwD ks' (fs ++ [(attr, v)])) n')] → wpAny (model prog w) A (execs rest env) Q NoE s') :
    wpAny (model prog w) A (execs (.Assign [.Attribute (.Name "self" p1) attr p2] (.Name x p3) pos :: rest) env) Q NoE s := by
  refine wpAny_execs_cons (plainObj_wpAny_Assign_Attribute ?_ hsw)
  refine wpAny_Name (wp_bound hkind F.ns (.inl ⟨k1, e1⟩) ?_ hx2) hx1
  refine wpAny_Name (wp_bound hkind F.ns (.inl ⟨k2, e2⟩) ?_ (by decide)) (by decide)
  refine set_dict F X₀ N (InstAt.of_news N (.head _) (.tail _ (.head _))) rfl hs hp ht hh (getL_zw ks fs hf) (es' := zwD (ks ++ [(PyData.keyHash w.params attr, s.toks + 1)]) (fs ++ [(attr, v)])) (n' := n + 1) ?_ (.tail hne (.head (fun _ h => nomatch h))) ?_ fun h' F' N' => ?_
  · rw [putL_zw ks fs hl hf, putN_ (any_zw ks fs hf)]
  · unfold zwD; rw [List.length_zipWith, List.length_append, List.length_append]; simp; (first | fail "m r" | (clear hne; omega))
  · exact h _ _ _ ⟨_, _, rfl⟩ F' (by rw [List.length_append, List.length_append, hl]; rfl) N'
theorem c_tools (B : Base (hd.heap_39 w.params) b) : Fn0 (model prog w) b 3 (.ref 112) [.raw (.ref 305), .raw (.ref 312), .raw (.ref 319), .raw (.ref 333), .raw (.ref 352)] toolsD := by
  intro A X s vs h1 h2 h3 h4 h5 h6 h6x h7 h8
  obtain ⟨v1, _, rfl, q1, v2, _, rfl, q2, v3, _, rfl, q3, v4, _, rfl, q4, v5, _, rfl, q5, q⟩ := h8
  have q1 : v1 = _ := q1
  have q2 : v2 = _ := q2
  have q3 : v3 = _ := q3
  have q4 : v4 = _ := q4
  have q5 : v5 = _ := q5
  have q : _ = [] := q
  subst q1 q2 q3 q4 q5 q
  obtain ⟨hh, g, d, t, os⟩ := s
  have XK : (hd.heap_39 w.params).In hh := B.K.keeps h4
  refine make_core (init := .ref 109) (makes_of XK (by with_unfolding_all rfl)) (looks_findIn XK (by with_unfolding_all rfl)) (fun self => bind_fn XK self (by with_unfolding_all rfl)) (.inl (by with_unfolding_all rfl)) ?_
  have k2 : ∀ a o, hh.get? a = some o → ((hh.push emptyDict).push (instObj 112 hh.objs.size)).get? a = some o := fun a o e => Heap.get?_push_of_some _ (Heap.get?_push_of_some _ e)
  have none_of : ∀ a, hh.objs.size ≤ a → hh.get? a = none := fun a ha => by
    cases e : hh.get? a with
    | none => rfl
    | some o => exact absurd (Heap.lt_size e) (Nat.not_lt.mpr ha)
  have szEq : ((hh.push emptyDict).push (instObj 112 hh.objs.size)).objs.size = hh.objs.size + 2 := by rw [Heap.size_push, Heap.size_push]
  have g1 : ((hh.push emptyDict).push (instObj 112 hh.objs.size)).get? (hh.objs.size + 1) = some (instObj 112 hh.objs.size) := by
    have := Heap.get?_push_size (hh.push emptyDict) (o := instObj 112 hh.objs.size) rfl
    rwa [Heap.size_push] at this
  have g2 : ((hh.push emptyDict).push (instObj 112 hh.objs.size)).get? hh.objs.size = some (dictOf (zwD [] []) 0) := Heap.get?_push_of_some _ (Heap.get?_push_size hh (o := emptyDict) rfl)
  have hdep : (A.under (.builtin "type.__call__" ⟨[.ref 112, .ref 305, .ref 312, .ref 319, .ref 333, .ref 352], []⟩)).depth < recursionLimit := by
    show A.depth + 1 < recursionLimit
    (first | fail "m r" | (clear h2 szEq; omega))
  refine call_frame B (names := ["self", "mul", "divrem", "power", "gcd", "factor"]) ⟨by with_unfolding_all rfl, ?fnb, by with_unfolding_all rfl, by with_unfolding_all rfl, by decide, by with_unfolding_all rfl, by with_unfolding_all rfl, by with_unfolding_all rfl⟩ hdep (fun a o e => k2 a o (h4 a o e)) rfl fun s₁ x => ?_
  case fnb => exact len6 (P := fun vs => bindArgs _ ⟨vs, []⟩ = pure (List.zip _ vs)) (fun x0 x1 x2 x3 x4 x5 => by with_unfolding_all rfl)
  have hL : hh.objs.size + 2 ≤ ((hh.push emptyDict).push (instObj 112 hh.objs.size)).objs.size := by rw [szEq]; exact Nat.le_refl _
  obtain ⟨⟨sh, sn, sk, sf⟩, _, _, _⟩ := x
  dsimp only at sn sk sf ⊢
  generalize ((hh.push emptyDict).push (instObj 112 hh.objs.size)).objs.size = L at *
  have hL2 : hh.objs.size + 2 ≤ L := hL
  have ne1 : hh.objs.size + 1 ≠ L := Nat.ne_of_lt hL2
  have ne0 : hh.objs.size ≠ L := Nat.ne_of_lt (Nat.lt_of_lt_of_le (Nat.lt_succ_self _) (Nat.le_of_lt hL2))
  have F0 : Fr hh L s₁.heap _ := ⟨sn, fun a o e => sk a o (k2 a o e), by (first | fail "m r" | (clear h1 h2 hdep hL sf hL2 ne1 ne0; omega))⟩
  have N0 : News hh L s₁.heap [(hh.objs.size + 1, instObj 112 hh.objs.size), (hh.objs.size, dictOf (zwD [] []) 0)] := fun p hp => by
    simp only [List.mem_cons, List.not_mem_nil, or_false] at hp
    rcases hp with rfl | rfl
    · exact ⟨sk _ _ g1, ne1, none_of _ (Nat.le_succ _)⟩
    · exact ⟨sk _ _ g2, ne0, none_of _ (Nat.le_refl _)⟩
  refine init_step (K := hd.heap_39 w.params) (v := .ref 305) (by rfl) F0 XK N0 (Nat.succ_ne_self _) (by with_unfolding_all rfl) (by with_unfolding_all rfl) (by with_unfolding_all rfl) (by with_unfolding_all rfl) (by with_unfolding_all rfl) (by with_unfolding_all rfl) (by with_unfolding_all rfl) (by with_unfolding_all rfl) rfl (by decide) (by decide) (by decide) (by decide) (by with_unfolding_all rfl) fun s₂ ks1 n1 e1 F1 l1 N1 => ?_
  refine init_step (K := hd.heap_39 w.params) (v := .ref 312) (by rfl) F1 XK N1 (Nat.succ_ne_self _) (by with_unfolding_all rfl) (by with_unfolding_all rfl) (by with_unfolding_all rfl) (by with_unfolding_all rfl) (by with_unfolding_all rfl) (by with_unfolding_all rfl) (by with_unfolding_all rfl) (by with_unfolding_all rfl) l1 (by simp <;> decide) (by simp) (by decide) (by decide) (by with_unfolding_all rfl) fun s₃ ks2 n2 e2 F2 l2 N2 => ?_
  refine init_step (K := hd.heap_39 w.params) (v := .ref 319) (by rfl) F2 XK N2 (Nat.succ_ne_self _) (by with_unfolding_all rfl) (by with_unfolding_all rfl) (by with_unfolding_all rfl) (by with_unfolding_all rfl) (by with_unfolding_all rfl) (by with_unfolding_all rfl) (by with_unfolding_all rfl) (by with_unfolding_all rfl) l2 (by simp <;> decide) (by simp) (by decide) (by decide) (by with_unfolding_all rfl) fun s₄ ks3 n3 e3 F3 l3 N3 => ?_
  refine init_step (K := hd.heap_39 w.params) (v := .ref 333) (by rfl) F3 XK N3 (Nat.succ_ne_self _) (by with_unfolding_all rfl) (by with_unfolding_all rfl) (by with_unfolding_all rfl) (by with_unfolding_all rfl) (by with_unfolding_all rfl) (by with_unfolding_all rfl) (by with_unfolding_all rfl) (by with_unfolding_all rfl) l3 (by simp <;> decide) (by simp) (by decide) (by decide) (by with_unfolding_all rfl) fun s₅ ks4 n4 e4 F4 l4 N4 => ?_
  refine init_step (K := hd.heap_39 w.params) (v := .ref 352) (by rfl) F4 XK N4 (Nat.succ_ne_self _) (by with_unfolding_all rfl) (by with_unfolding_all rfl) (by with_unfolding_all rfl) (by with_unfolding_all rfl) (by with_unfolding_all rfl) (by with_unfolding_all rfl) (by with_unfolding_all rfl) (by with_unfolding_all rfl) l4 (by simp <;> decide) (by simp) (by decide) (by decide) (by with_unfolding_all rfl) fun s₆ ks5 n5 e5 F5 l5 N5 => ?_
  refine wpAny_execs_nil ?_
  have sm : ∃ h' tk, s₆ = { (⟨hh, g, d, t, os⟩ : Shared) with heap := h', toks := tk } := by
    obtain ⟨a1, b1, rfl⟩ := sh
    obtain ⟨a2, b2, rfl⟩ := e1
    obtain ⟨a3, b3, rfl⟩ := e2
    obtain ⟨a4, b4, rfl⟩ := e3
    obtain ⟨a5, b5, rfl⟩ := e4
    obtain ⟨a6, b6, rfl⟩ := e5
    exact ⟨a6, b6, rfl⟩
  have notX : ∀ a, hh.objs.size ≤ a → ¬ (Store.has [] a ∨ X a) := fun a ha z => by
    obtain ⟨o, e⟩ := h6 a z
    have e : hh.get? a = some o := e
    rw [none_of a ha] at e; cases e
  refine ⟨rfl, .ref (hh.objs.size + 1), toolsD, [], rfl, ⟨rfl, rfl⟩, ?_, ⟨fun a l e => by simp at e, by simp⟩, ⟨sm, fun a o _ e => F5.keep a o e, fun _ z => .inl z⟩, fun _ => Iff.rfl⟩
  exact ⟨hh.objs.size + 1, hh.objs.size, zwD ks5 _, n5, rfl, notX _ (Nat.le_succ _), notX _ (Nat.le_refl _), (N5 _ (.head _)).1, (N5 _ (.tail _ (.head _))).1, ks5, rfl, l5⟩
end
noncomputable def nineD (B : Nat) : D := .tup [.str (Str.ofString "pratt"), row B 2, .tup [.tup [row B 2, .int 1, .tup [.str (Str.ofString "small")]], .tup [row B 9, .int 2, .tup [.str (Str.ofString "small")]]]]
theorem wd_nine {B : Nat} (hB : 2 ≤ B) : Wd B 5 (nineD B) := by
  obtain ⟨s1, s2, s3, s4, s5⟩ := ok_words
  have sm : Wd B 2 (.tup [.str (Str.ofString "small")]) := wd_tup (by simp) (fun x hx => by rw [List.mem_singleton.mp hx]; exact s2)
  have pr : ∀ v e, v ≤ 1000 → Wd B 3 (.tup [row B v, .int e, .tup [.str (Str.ofString "small")]]) := fun v e hv => wd_tup (by simp) (fun x hx => by
    simp only [List.mem_cons, List.not_mem_nil, or_false] at hx
    rcases hx with rfl | rfl | rfl
    · exact wd_row hB (by fail "m o")
    · trivial
    · exact sm)
  refine wd_tup (by simp) (fun x hx => ?_)
  simp only [List.mem_cons, List.not_mem_nil, or_false] at hx
  rcases hx with rfl | rfl | rfl
  · exact s1
  · exact wd_row hB (by (first | fail "m r" | (clear hB; omega)))
  · refine wd_tup (by simp) (fun x hx => ?_)
    simp only [List.mem_cons, List.not_mem_nil, or_false] at hx
    rcases hx with rfl | rfl
    · exact pr 2 1 (by decide)
    · exact pr 9 2 (by decide)
section
variable {prog : Program} {w : World} {b : Heap} {C : Cx} {Γ : Vars} {σ : Store} {Q : D → Store → Prop}
theorem c_law (B : Base (hd.heap_39 w.params) b) (l : List Int) (hl : l.length ≤ 2 ^ 20) : Fn0 (model prog w) b 50 (.ref 404) [.list (l.map .int)] (.bool true) := by
  have hz := sz
  refine Fn0.intro B (names := ["script"]) ⟨by with_unfolding_all rfl, ?fnb, by with_unfolding_all rfl, by with_unfolding_all rfl, by decide, by with_unfolding_all rfl, by with_unfolding_all rfl, by with_unfolding_all rfl⟩ rfl (by fail "m o") (fun A L Kf hKf ok => ?_)
  case fnb => exact len1 (P := fun vs => bindArgs _ ⟨vs, []⟩ = pure (List.zip _ vs)) (fun x0 => by with_unfolding_all rfl)
  dsimp only [List.zip, List.zipWith]
  refine WS.cons (WX.assign ok (listP_ ?_) (by with_unfolding_all rfl) (by with_unfolding_all rfl))
  fail "m"
  refine WV.fn0 ok (c_total B l hl) (by fail "m n") ?_
  fail "m"
  refine ⟨rfl, by fail "m n", fun bx => ?_⟩
  generalize totalN (l.take 24).reverse 0 = t0
  fail "m"
  refine take_ B ok (by fail "m n") (c := 0) (m := 8) (by decide) (by decide) fun r0 t1 hr0 => ?_
  fail "m"
  rw [show (2 : Int) + (r0 : Int) = ((2 + r0 : Nat) : Int) by fail "m o"]
  obtain ⟨k, hk0⟩ : ∃ k, 2 + r0 = k := ⟨_, rfl⟩
  rw [hk0]
  have hk : 1 ≤ k ∧ k ≤ 9 := by (first | fail "m r" | (clear hl hz; omega))
  clear hk0
  have hB : 2 ≤ 2 ^ k := pow_ge hk.1
  refine WV.fn0 ok (c_tools B) (by fail "m n") ?_
  fail "m"
  refine take_ B ok (by fail "m n") (m := 900) (by decide) (by decide) fun r1 t2 hr1 => ?_
  fail "m"
  rw [show (32 : Int) + (r1 : Int) = ((32 + r1 : Nat) : Int) by (first | fail "m r" | (clear hl hz hr0 hk hB hr1; omega))]
  refine whileI_ (fun m Γ σ => ∃ n, 32 ≤ n ∧ n + m = 937 ∧ σ = [(bx, [.int (t2 : Nat), .int ((0 + 1 + 1 : Nat) : Int)])] ∧ Has Γ "n" (.int (n : Nat)) ∧ Has Γ "box" (.raw (.ref bx)) ∧ Has Γ "w" (.int (k : Nat)) ∧ Has Γ "tools" toolsD) ⟨937 - (32 + r1), 32 + r1, by (first | fail "m r" | (clear hl hz hr0 hk hB; omega)), by (first | fail "m r" | (clear hl hz hr0 hk hB; omega)), rfl, rfl, rfl, rfl, rfl⟩ ?_
  rintro m J hJ Γ σ ⟨n, hn32, hnm, rfl, h1, h2, h3, h4⟩
  fail "m"
  refine WV.fn0 ok (c_law_is_prime B n (by (first | fail "m r" | (clear hl hz hr0 hk hB hr1; omega)))) (by fail "m n") ?_
  fail "m"
  refine ⟨fun hp => ?_, fun hp => ?_⟩
  · rw [Bool.not_eq_true'] at hp
    have : n ≠ 937 := by rintro rfl; rw [prime937] at hp; cases hp
    fail "m"
    rw [show (n : Int) + 1 = ((n + 1 : Nat) : Int) by fail "m o"]
    exact ⟨m - 1, by (first | fail "m r" | (clear hl hz hr0 hk hB hr1; omega)), n + 1, by (first | fail "m r" | (clear hl hz hr0 hk hB hr1 this; omega)), by (first | fail "m r" | (clear hl hz hr0 hk hB hr1; omega)), rfl, rfl, h2, h3, h4⟩
  rw [Bool.not_eq_false'] at hp
  have hn937 : n ≤ 937 := by (first | fail "m r" | (clear hl hz hr0 hk hB hr1; omega))
  have hgood := good_all hn32 hn937 hp
  have gw := gd_pratt (B := 2 ^ k) 6 n (by fail "m o")
  have gp := gd_pock (B := 2 ^ k) 6 n (by fail "m o")
  have hholds := holds_pratt hB 6 22 n (by decide) (by fail "m o") hgood
  have ww : Wd (2 ^ k) 22 (prattD (2 ^ k) 6 n) := (gw.wd hB).mono (by decide)
  fail "m"
  refine WV.fn0 ok (c_law_row B hk n (by fail "m o")) (by fail "m n") ?_
  fail "m"
  fail "m t"
  fail "m"
  refine WV.fn0 ok (c_pratt B hk 5 n (by fail "m o") (by fail "m o")) (by fail "m n") ?_
  fail "m"
  refine WV.fn0 ok (c_pock B hk 5 n (by fail "m o") (by fail "m o")) (by fail "m n") ?_
  fail "m"
  refine ⟨_, rfl, rfl, ?_⟩
  dsimp only [bindAll, List.reverse, List.reverseAux]
  have sixth : prattD (2 ^ k) (5 + 1) n = prattD (2 ^ k) 6 n := rfl
  have sixth2 : pockD (2 ^ k) (5 + 1) n = pockD (2 ^ k) 6 n := rfl
  rw [sixth, sixth2]
  generalize prattD (2 ^ k) 6 n = whole at *
  generalize pockD (2 ^ k) 6 n = part at *
  clear sixth sixth2
  fail "m"
  refine forI_ (fun xs Γ σ => ∃ i j t c : Nat, σ = [(bx, [.int (t : Nat), .int (c : Nat)])] ∧ xs = ups i j ∧ Has Γ "n" (.int (n : Nat)) ∧ Has Γ "box" (.raw (.ref bx)) ∧ Has Γ "w" (.int (k : Nat)) ∧ Has Γ "tools" toolsD ∧ Has Γ "row" (row (2 ^ k) n) ∧ Has Γ "whole" whole ∧ Has Γ "part" part) ok ?_ ?_ ?_
  · fail "m"
    exact ⟨_, iterUps (n := 4) (by decide), 0, 4, t2, _, rfl, rfl, has_skip (by decide) (has_skip (by decide) (has_skip (by decide) h1)), has_skip (by decide) (has_skip (by decide) (has_skip (by decide) h2)), has_skip (by decide) (has_skip (by decide) (has_skip (by decide) h3)), has_skip (by decide) (has_skip (by decide) (has_skip (by decide) h4)), rfl, rfl, rfl⟩
  · refine fun e xs J hJ Γ => st4 (fun i j t3 c3 => an8 fun he g1 g2 g3 g4 g5 g6 g7 => ?_)
    cases j with
    | zero => cases he
    | succ j =>
      cases he
      refine WA.name ok ?_
      fail "m"
      refine WV.fn ok (Fn.mono (c_bent B hk bx 19 whole t3 c3 (gw.mono (by decide)) (by decide)) fun told σ' z => ?_) (by fail "m n")
      obtain ⟨l', rfl, t4, c4, rfl, hwd⟩ := z
      fail "m"
      refine forI_ (fun xs Γ σ => ∃ todo : List Nat, σ = [(bx, [.int (t4 : Nat), .int (c4 : Nat)])] ∧ xs = nats todo ∧ (∀ x ∈ todo, x ≤ 1024) ∧ Has Γ "told" told ∧ Has Γ "n" (.int (n : Nat)) ∧ Has Γ "box" (.raw (.ref bx)) ∧ Has Γ "w" (.int (k : Nat)) ∧ Has Γ "tools" toolsD ∧ Has Γ "row" (row (2 ^ k) n) ∧ Has Γ "whole" whole ∧ Has Γ "part" part) ok ?_ ?_ ?_
      · fail "m"
        refine ⟨_, .tup _, [n, n + 2], rfl, rfl, fun x hx => ?_, rfl, has_skip (by decide) (has_skip (by decide) g1), has_skip (by decide) (has_skip (by decide) g2), has_skip (by decide) (has_skip (by decide) g3), has_skip (by decide) (has_skip (by decide) g4), has_skip (by decide) (has_skip (by decide) g5), has_skip (by decide) (has_skip (by decide) g6), has_skip (by decide) (has_skip (by decide) g7)⟩
        simp only [List.mem_cons, List.not_mem_nil, or_false] at hx
        rcases hx with rfl | rfl <;> (first | fail "m r" | (clear hl hz hr0 hk hB hr1 hn937; omega))
      · refine fun e xs J hJ Γ => st1 (fun todo => an10 fun he hto f0 f1 f2 f3 f4 f5 f6 f7 => ?_)
        cases todo with
        | nil => cases he
        | cons o todo =>
          cases he
          have ho := hto o (List.mem_cons_self ..)
          refine WA.name ok ?_
          fail "m"
          refine WV.fn0 ok (c_law_row B hk o (by fail "m o")) (by fail "m n") ?_
          fail "m"
          refine WV.fn0 ok (c_pratt_holds B hk 22 o told hwd ho (by decide)) (by fail "m n") ?_
          fail "m"
          refine WV.fn0 ok (c_law_pratt B hk 22 o told hwd ho (by decide)) (by fail "m n") ?_
          fail "m"
          rw [decide_eq_false (fun z => z rfl)]
          refine conjFF ?_
          fail "m"
          exact ⟨todo, rfl, rfl, fun x hx => hto x (List.mem_cons_of_mem _ hx), f0, f1, f2, f3, f4, f5, f6, f7⟩
      · refine fun Γ => st1 (fun todo => an10 fun he hto f0 f1 f2 f3 f4 f5 f6 f7 => ?_)
        fail "m"
        refine WV.fn ok (Fn.mono (c_bent B hk bx 19 part t4 c4 (gp.mono (by decide)) (by decide)) fun told2 σ' z => ?_) (by fail "m n")
        obtain ⟨l', rfl, t5, c5, rfl, hwd2⟩ := z
        fail "m"
        refine forI_ (fun xs Γ σ => ∃ todo : List Nat, σ = [(bx, [.int (t5 : Nat), .int (c5 : Nat)])] ∧ xs = nats todo ∧ (∀ x ∈ todo, x ≤ 1024) ∧ Has Γ "told" told2 ∧ Has Γ "n" (.int (n : Nat)) ∧ Has Γ "box" (.raw (.ref bx)) ∧ Has Γ "w" (.int (k : Nat)) ∧ Has Γ "tools" toolsD ∧ Has Γ "row" (row (2 ^ k) n) ∧ Has Γ "whole" whole ∧ Has Γ "part" part) ok ?_ ?_ ?_
        · fail "m"
          refine ⟨_, .tup _, [n, n + 2], rfl, rfl, fun x hx => ?_, rfl, has_skip (by decide) f1, has_skip (by decide) f2, has_skip (by decide) f3, has_skip (by decide) f4, has_skip (by decide) f5, has_skip (by decide) f6, has_skip (by decide) f7⟩
          simp only [List.mem_cons, List.not_mem_nil, or_false] at hx
          rcases hx with rfl | rfl <;> (first | fail "m r" | (clear hl hz hr0 hk hB hr1 hn937; omega))
        · refine fun e xs J hJ Γ => st1 (fun todo => an10 fun he hto f0 f1 f2 f3 f4 f5 f6 f7 => ?_)
          cases todo with
          | nil => cases he
          | cons o todo =>
            cases he
            have ho := hto o (List.mem_cons_self ..)
            refine WA.name ok ?_
            fail "m"
            refine WV.fn0 ok (c_law_row B hk o (by fail "m o")) (by fail "m n") ?_
            fail "m"
            refine WV.fn0 ok (c_pock_holds B hk 22 o told2 hwd2 ho (by decide)) (by fail "m n") ?_
            fail "m"
            refine WV.fn0 ok (c_law_pock B hk 22 o told2 hwd2 ho (by decide)) (by fail "m n") ?_
            fail "m"
            rw [decide_eq_false (fun z => z rfl)]
            refine conjFF ?_
            fail "m"
            exact ⟨todo, rfl, rfl, fun x hx => hto x (List.mem_cons_of_mem _ hx), f0, f1, f2, f3, f4, f5, f6, f7⟩
        · refine fun Γ => st1 (fun todo => an10 fun he hto f0 f1 f2 f3 f4 f5 f6 f7 => ?_)
          fail "m"
          exact ⟨i + 1, j, t5, c5, rfl, rfl, f1, f2, f3, f4, f5, f6, f7⟩
  · refine fun Γ => st4 (fun i j t3 c3 => an8 fun he g1 g2 g3 g4 g5 g6 g7 => ?_)
    fail "m"
    refine WV.fn0 ok (c_law_row B hk 2 (by (first | fail "m r" | (clear hl hr0 hk hB hr1 hn32 hnm hn937 hz; show _ ≤ 16777216; omega)))) (by fail "m n") ?_
    fail "m"
    refine WV.fn0 ok (c_law_row B hk 2 (by (first | fail "m r" | (clear hl hr0 hk hB hr1 hn32 hnm hn937 hz; show _ ≤ 16777216; omega)))) (by fail "m n") ?_
    fail "m"
    refine WV.fn0 ok (c_law_row B hk 9 (by (first | fail "m r" | (clear hl hr0 hk hB hr1 hn32 hnm hn937 hz; show _ ≤ 16777216; omega)))) (by fail "m n") ?_
    fail "m"
    refine WV.fn0 ok (c_law_row B hk 163 (by (first | fail "m r" | (clear hl hr0 hk hB hr1 hn32 hnm hn937 hz; show _ ≤ 16777216; omega)))) (by fail "m n") ?_
    fail "m"
    refine WV.fn0 ok (c_pratt_holds B hk 22 163 (nineD (2 ^ k)) ((wd_nine hB).mono (by decide)) (by decide) (by decide)) (by fail "m n") ?_
    have hnine : prattS (2 ^ k) 22 163 (nineD (2 ^ k)) = false := nine_refused hB 20
    rw [hnine]
    fail "m"
    refine WV.fn0 ok (c_pratt_holds B hk 22 n whole ww (by fail "m o") (by decide)) (by fail "m n") ?_
    rw [hholds]
    fail "m"
    refine WV.fn ok (Fn.mono (c_others B hk bx t3 c3) fun d σ' z => ?_) (by fail "m n")
    obtain ⟨l', rfl, rfl⟩ := z
    fail "m"
    exact Ends0.ret
end
theorem reps_well {P : Params} {h : Heap} {N : Addr → Prop} : ∀ (l : List Int) (vs : List Value), WellAll P h vs (ofPys (l.map PyData.int)) → Reps h N (l.map .int) vs
  | [], vs, w => by cases w; rfl
  | i :: l, vs, w => by
    rw [List.map_cons] at w
    cases w with
    | cons w1 w2 =>
      cases w1
      exact ⟨_, _, rfl, ⟨_, rfl⟩, reps_well l _ w2⟩
theorem law_name : lawDef.1.name = Str.ofString "law" := by kernel_rfl
theorem law_at (P : Params) : nsIn (hd.heap_39 P) mainGlobals lawDef.1.name = some (some (.ref 404)) := by
  rw [law_name]; with_unfolding_all rfl
theorem fin : PySem.Challenge.rw_nn0035_01.Holds := head_ok (by
  intro w s₀ s₁ mg mb G Y fa o pm cd doc dV kV ho hd' hcd hD hmg hg args vals as hpre hlay hrd hwl hlo
  have KX : (hd.heap_39 w.params).In s₁.heap := Y
  refine Ground.open G ?_
  intro T B D TE TW
  clear hD hcd hd'
  wrow_args hpre hlay hrd hwl hlo
  refine enter_call ?_
  refine codeAny_mono ?_ (fun _ _ g => GoodW.toG g)
  rename_i ns hs hlay0 hLay hr1 hl2 as1 as2 a vs as3 hL ra w1 r0 hI hr hc1 hc2
  have hfa : some (Value.ref fa) = some (Value.ref 404) := hmg.symm.trans (mg_of KX T.g (law_at _))
  cases hfa
  have Bs : Base (hd.heap_39 w.params) s₁.heap := ⟨KX, _, _, _, _, topRead_of T⟩
  have hlen : ns.length ≤ 63 := by omega
  have key := c_law (prog := Challenge.rw_nn0035_01.row.prog) (w := w) Bs ns (by (clear hlen; omega))
  have rep : Reps s₁.heap (fun a => Store.has [] a ∨ False) [.list (ns.map .int)] [.ref a] := by
    cases w1 with
    | list h1 h2 => exact ⟨_, _, rfl, ⟨a, _, rfl, fun z => z.elim (Store.nil_has a) id, ⟨_, h1⟩, reps_well ns _ h2⟩, rfl⟩
  refine codeAny_mono (key callerA (fun _ => False) s₁ [.ref a] (by decide) (by decide) rfl (fun _ _ e => e) (fun a z => absurd z (Store.nil_has a)) (fun a z => z.elim (fun z => absurd z (Store.nil_has a)) False.elim) (fun a z => absurd z (Store.nil_has a)) ⟨fun a ds z => by simp at z, by simp⟩ rep) fun r s' z => ?_
  obtain ⟨v, d, σ', rfl, ⟨rfl, rfl⟩, rv, _, x, _⟩ := z
  have rv : v = .bool true := rv
  subst rv
  refine ⟨.inl ⟨_, .bool true, [], rfl, fun _ => rfl, .bool true, by first | with_unfolding_all rfl | kernel_rfl, fun _ => ⟨List.nodup_nil, fun a h => nomatch h⟩⟩, fun b o e => x.ext b o (Store.nil_has b) e, ?_, ?_⟩
  · obtain ⟨h', tk, e⟩ := x.same
    rw [e]
  · obtain ⟨h', tk, e⟩ := x.same
    rw [e]; exact hg)
end Mine

theorem PySem.Challenge.cw_nn0035_01_holds : PySem.Challenge.rw_nn0035_01.Holds := by
  exact Mine.fin
