import PyProof.Rows.All
import Wide.All
import OpenK.AllK
import Wide.FinOn
import Lean
import PySem.Challenge.RW_rh0041_02
set_option linter.all false
open PySem PySem.W PyProof.Rows PySem.Calls
set_option Elab.async false
set_option maxRecDepth 100000
set_option maxHeartbeats 0
set_option rowWalk.seconds 0
namespace Mine
noncomputable def stAt (i : Nat) : List Stmt := PySem.Challenge.pw_rh0041_02.main.body.drop i
noncomputable def initAt : List Stmt := match stAt 1 with
  | .ClassDef _ _ _ b _ _ _ _ _ _ _ :: _ => b
  | _ => []
noncomputable def fnO (l : List Stmt) (q : Str) (dV kV doc pm : Value) (an : Option Addr) (cdv ct : Value) (od : Option Addr) (sl : Array (Option Value)) : Obj := match l with
  | .FunctionDef n a b _ _ _ sc _ _ _ :: _ => { cls := .type "function", dict := od, data := .func (fnOf n q a b sc dV kV doc pm an cdv ct), slots := sl }
  | _ => { cls := .none, data := .plain }
noncomputable def fnG (cl : Value) (g bl : Addr) (l : List Stmt) (q : Str) (dV kV doc pm : Value) (an : Option Addr) (cdv ct : Value) (od : Option Addr) (sl : Array (Option Value)) : Obj := match l with
  | .FunctionDef n a b _ _ _ sc _ _ _ :: _ => { cls := cl, dict := od, data := .func { name := n, qualname := q, params := a, body := .stmts b, scope := sc, globals := g, closure := [], defaults := dV, kwdefaults := kV, doc := doc, pyModule := pm, annotations := an, code := cdv, closureTuple := ct, builtins := bl }, slots := sl }
  | _ => { cls := .none, data := .plain }
-- the part of the heap that the walk knows (printed by Gen.lean)
noncomputable def part (P : Params) : Frag :=
  (nat_lit 2, { cls := Value.none, data := Data.dict #[{ hash := PyData.keyHash P (Str.ofString "type.__subclasses__.Exception.0"), key := Value.str (Str.ofString "type.__subclasses__.Exception.0") 216, val := Value.int 31 0 }, { hash := PyData.keyHash P (Str.ofString "type.__subclasses__.Exception.n"), key := Value.str (Str.ofString "type.__subclasses__.Exception.n") 217, val := Value.int 1 0 }] 2 }) ::
  (nat_lit 3, { cls := Value.type "dict", data := Data.dict #[{ hash := PyData.keyHash P (Str.ofString "__name__"), key := Value.str (Str.ofString "__name__") 165, val := Value.str (Str.ofString "law_rh0041_02") 853 }, { hash := PyData.keyHash P (Str.ofString "__doc__"), key := Value.str (Str.ofString "__doc__") 166, val := Value.none }, { hash := PyData.keyHash P (Str.ofString "__package__"), key := Value.str (Str.ofString "__package__") 167, val := Value.none }, { hash := PyData.keyHash P (Str.ofString "__loader__"), key := Value.str (Str.ofString "__loader__") 168, val := Value.builtin "__main__.__loader__#opaque" }, { hash := PyData.keyHash P (Str.ofString "__spec__"), key := Value.str (Str.ofString "__spec__") 169, val := Value.none }, { hash := PyData.keyHash P (Str.ofString "__annotations__"), key := Value.str (Str.ofString "__annotations__") 170, val := Value.ref 6 }, { hash := PyData.keyHash P (Str.ofString "__builtins__"), key := Value.str (Str.ofString "__builtins__") 171, val := Value.ref 4 }, { hash := PyData.keyHash P (Str.ofString "__file__"), key := Value.str (Str.ofString "__file__") 173, val := Value.str (Str.ofString "/claim/cut.py") 172 }, { hash := PyData.keyHash P (Str.ofString "__cached__"), key := Value.str (Str.ofString "__cached__") 174, val := Value.none }, { hash := PyData.keyHash P (Str.ofString "CasFail"), key := Value.str (Str.ofString "CasFail") 219, val := Value.ref 31 }, { hash := PyData.keyHash P (Str.ofString "gcd"), key := Value.str (Str.ofString "gcd") 229, val := Value.ref 41 }, { hash := PyData.keyHash P (Str.ofString "bits_of"), key := Value.str (Str.ofString "bits_of") 239, val := Value.ref 48 }, { hash := PyData.keyHash P (Str.ofString "least_divisor"), key := Value.str (Str.ofString "least_divisor") 248, val := Value.ref 55 }, { hash := PyData.keyHash P (Str.ofString "prime_factors"), key := Value.str (Str.ofString "prime_factors") 258, val := Value.ref 62 }, { hash := PyData.keyHash P (Str.ofString "MOST_BITS"), key := Value.str (Str.ofString "MOST_BITS") 262, val := Value.int 200000 261 }, { hash := PyData.keyHash P (Str.ofString "rat"), key := Value.str (Str.ofString "rat") 271, val := Value.ref 69 }, { hash := PyData.keyHash P (Str.ofString "radd"), key := Value.str (Str.ofString "radd") 279, val := Value.ref 76 }, { hash := PyData.keyHash P (Str.ofString "rmul"), key := Value.str (Str.ofString "rmul") 287, val := Value.ref 83 }, { hash := PyData.keyHash P (Str.ofString "rinv"), key := Value.str (Str.ofString "rinv") 294, val := Value.ref 90 }, { hash := PyData.keyHash P (Str.ofString "rpower"), key := Value.str (Str.ofString "rpower") 303, val := Value.ref 97 }, { hash := PyData.keyHash P (Str.ofString "rfloor"), key := Value.str (Str.ofString "rfloor") 310, val := Value.ref 104 }, { hash := PyData.keyHash P (Str.ofString "T_ONE"), key := Value.str (Str.ofString "T_ONE") 316, val := Value.ref 105 }, { hash := PyData.keyHash P (Str.ofString "MOST_NARROW"), key := Value.str (Str.ofString "MOST_NARROW") 318, val := Value.int 100 317 }, { hash := PyData.keyHash P (Str.ofString "is_num"), key := Value.str (Str.ofString "is_num") 325, val := Value.ref 112 }, { hash := PyData.keyHash P (Str.ofString "num_of"), key := Value.str (Str.ofString "num_of") 332, val := Value.ref 119 }, { hash := PyData.keyHash P (Str.ofString "is_whole_num"), key := Value.str (Str.ofString "is_whole_num") 339, val := Value.ref 126 }, { hash := PyData.keyHash P (Str.ofString "inner_terms"), key := Value.str (Str.ofString "inner_terms") 347, val := Value.ref 133 }, { hash := PyData.keyHash P (Str.ofString "with_inner"), key := Value.str (Str.ofString "with_inner") 356, val := Value.ref 140 }, { hash := PyData.keyHash P (Str.ofString "is_too_great"), key := Value.str (Str.ofString "is_too_great") 362, val := Value.ref 145 }, { hash := PyData.keyHash P (Str.ofString "RANKS"), key := Value.str (Str.ofString "RANKS") 389, val := Value.ref 146 }, { hash := PyData.keyHash P (Str.ofString "sign_between"), key := Value.str (Str.ofString "sign_between") 397, val := Value.ref 153 }, { hash := PyData.keyHash P (Str.ofString "compare_values"), key := Value.str (Str.ofString "compare_values") 405, val := Value.ref 160 }, { hash := PyData.keyHash P (Str.ofString "bare_factors"), key := Value.str (Str.ofString "bare_factors") 411, val := Value.ref 165 }, { hash := PyData.keyHash P (Str.ofString "front_value"), key := Value.str (Str.ofString "front_value") 418, val := Value.ref 172 }, { hash := PyData.keyHash P (Str.ofString "base_and_exponent"), key := Value.str (Str.ofString "base_and_exponent") 425, val := Value.ref 179 }, { hash := PyData.keyHash P (Str.ofString "compare_rows"), key := Value.str (Str.ofString "compare_rows") 435, val := Value.ref 186 }, { hash := PyData.keyHash P (Str.ofString "compare_exponents"), key := Value.str (Str.ofString "compare_exponents") 443, val := Value.ref 193 }, { hash := PyData.keyHash P (Str.ofString "compare_bases"), key := Value.str (Str.ofString "compare_bases") 453, val := Value.ref 200 }, { hash := PyData.keyHash P (Str.ofString "compare_factors"), key := Value.str (Str.ofString "compare_factors") 466, val := Value.ref 207 }, { hash := PyData.keyHash P (Str.ofString "compare_terms"), key := Value.str (Str.ofString "compare_terms") 478, val := Value.ref 214 }, { hash := PyData.keyHash P (Str.ofString "merged_terms"), key := Value.str (Str.ofString "merged_terms") 490, val := Value.ref 221 }, { hash := PyData.keyHash P (Str.ofString "sort_terms"), key := Value.str (Str.ofString "sort_terms") 498, val := Value.ref 228 }, { hash := PyData.keyHash P (Str.ofString "ZERO"), key := Value.str (Str.ofString "ZERO") 504, val := Value.ref 229 }, { hash := PyData.keyHash P (Str.ofString "ONE"), key := Value.str (Str.ofString "ONE") 508, val := Value.ref 230 }, { hash := PyData.keyHash P (Str.ofString "MINUS_ONE"), key := Value.str (Str.ofString "MINUS_ONE") 513, val := Value.ref 231 }, { hash := PyData.keyHash P (Str.ofString "HALF"), key := Value.str (Str.ofString "HALF") 517, val := Value.ref 232 }, { hash := PyData.keyHash P (Str.ofString "EXP_ONE"), key := Value.str (Str.ofString "EXP_ONE") 520, val := Value.ref 234 }, { hash := PyData.keyHash P (Str.ofString "MOST_FACTORED"), key := Value.str (Str.ofString "MOST_FACTORED") 524, val := Value.int 1000000 523 }, { hash := PyData.keyHash P (Str.ofString "MOST_FACTORIAL"), key := Value.str (Str.ofString "MOST_FACTORIAL") 526, val := Value.int 200 525 }, { hash := PyData.keyHash P (Str.ofString "ODD_CALLS"), key := Value.str (Str.ofString "ODD_CALLS") 530, val := Value.ref 235 }, { hash := PyData.keyHash P (Str.ofString "number_term"), key := Value.str (Str.ofString "number_term") 537, val := Value.ref 242 }, { hash := PyData.keyHash P (Str.ofString "number_and_rest"), key := Value.str (Str.ofString "number_and_rest") 545, val := Value.ref 249 }, { hash := PyData.keyHash P (Str.ofString "with_number"), key := Value.str (Str.ofString "with_number") 553, val := Value.ref 256 }, { hash := PyData.keyHash P (Str.ofString "flat_parts"), key := Value.str (Str.ofString "flat_parts") 563, val := Value.ref 263 }, { hash := PyData.keyHash P (Str.ofString "gathered_sum"), key := Value.str (Str.ofString "gathered_sum") 569, val := Value.ref 268 }, { hash := PyData.keyHash P (Str.ofString "is_one_call"), key := Value.str (Str.ofString "is_one_call") 577, val := Value.ref 275 }, { hash := PyData.keyHash P (Str.ofString "as_power"), key := Value.str (Str.ofString "as_power") 584, val := Value.ref 282 }, { hash := PyData.keyHash P (Str.ofString "gathered_product"), key := Value.str (Str.ofString "gathered_product") 599, val := Value.ref 289 }, { hash := PyData.keyHash P (Str.ofString "power_of"), key := Value.str (Str.ofString "power_of") 605, val := Value.ref 294 }, { hash := PyData.keyHash P (Str.ofString "split_power"), key := Value.str (Str.ofString "split_power") 616, val := Value.ref 301 }, { hash := PyData.keyHash P (Str.ofString "number_power"), key := Value.str (Str.ofString "number_power") 624, val := Value.ref 308 }, { hash := PyData.keyHash P (Str.ofString "radical_of"), key := Value.str (Str.ofString "radical_of") 641, val := Value.ref 315 }, { hash := PyData.keyHash P (Str.ofString "begins_below"), key := Value.str (Str.ofString "begins_below") 649, val := Value.ref 322 }, { hash := PyData.keyHash P (Str.ofString "negated_term"), key := Value.str (Str.ofString "negated_term") 655, val := Value.ref 327 }, { hash := PyData.keyHash P (Str.ofString "exp_of"), key := Value.str (Str.ofString "exp_of") 667, val := Value.ref 334 }, { hash := PyData.keyHash P (Str.ofString "log_of"), key := Value.str (Str.ofString "log_of") 674, val := Value.ref 341 }, { hash := PyData.keyHash P (Str.ofString "factorial_of"), key := Value.str (Str.ofString "factorial_of") 683, val := Value.ref 348 }, { hash := PyData.keyHash P (Str.ofString "call_of"), key := Value.str (Str.ofString "call_of") 692, val := Value.ref 355 }, { hash := PyData.keyHash P (Str.ofString "simplify"), key := Value.str (Str.ofString "simplify") 698, val := Value.ref 360 }, { hash := PyData.keyHash P (Str.ofString "has_ratio"), key := Value.str (Str.ofString "has_ratio") 706, val := Value.ref 365 }, { hash := PyData.keyHash P (Str.ofString "settled"), key := Value.str (Str.ofString "settled") 712, val := Value.ref 370 }, { hash := PyData.keyHash P (Str.ofString "MOST_PARTS"), key := Value.str (Str.ofString "MOST_PARTS") 716, val := Value.int 6 715 }, { hash := PyData.keyHash P (Str.ofString "MOST_TRIES"), key := Value.str (Str.ofString "MOST_TRIES") 718, val := Value.int 100000 717 }, { hash := PyData.keyHash P (Str.ofString "MOST_LEVELS"), key := Value.str (Str.ofString "MOST_LEVELS") 720, val := Value.int 120 719 }, { hash := PyData.keyHash P (Str.ofString "MOST_TERMS"), key := Value.str (Str.ofString "MOST_TERMS") 722, val := Value.int 20000 721 }, { hash := PyData.keyHash P (Str.ofString "is_blank"), key := Value.str (Str.ofString "is_blank") 729, val := Value.ref 377 }, { hash := PyData.keyHash P (Str.ofString "put_together"), key := Value.str (Str.ofString "put_together") 737, val := Value.ref 384 }, { hash := PyData.keyHash P (Str.ofString "bind_blank"), key := Value.str (Str.ofString "bind_blank") 747, val := Value.ref 391 }, { hash := PyData.keyHash P (Str.ofString "match_rows"), key := Value.str (Str.ofString "match_rows") 762, val := Value.ref 398 }, { hash := PyData.keyHash P (Str.ofString "match_parts"), key := Value.str (Str.ofString "match_parts") 777, val := Value.ref 405 }, { hash := PyData.keyHash P (Str.ofString "blanks_last"), key := Value.str (Str.ofString "blanks_last") 783, val := Value.ref 410 }, { hash := PyData.keyHash P (Str.ofString "match_with"), key := Value.str (Str.ofString "match_with") 794, val := Value.ref 417 }, { hash := PyData.keyHash P (Str.ofString "match"), key := Value.str (Str.ofString "match") 803, val := Value.ref 424 }, { hash := PyData.keyHash P (Str.ofString "put_blanks"), key := Value.str (Str.ofString "put_blanks") 809, val := Value.ref 429 }, { hash := PyData.keyHash P (Str.ofString "not_too_great"), key := Value.str (Str.ofString "not_too_great") 816, val := Value.ref 436 }, { hash := PyData.keyHash P (Str.ofString "rule_at"), key := Value.str (Str.ofString "rule_at") 827, val := Value.ref 443 }, { hash := PyData.keyHash P (Str.ofString "rule_once"), key := Value.str (Str.ofString "rule_once") 841, val := Value.ref 450 }, { hash := PyData.keyHash P (Str.ofString "apply_rules"), key := Value.str (Str.ofString "apply_rules") 852, val := Value.ref 457 }, { hash := PyData.keyHash P (Str.ofString "_law_take"), key := Value.str (Str.ofString "_law_take") 862, val := Value.ref 464 }, { hash := PyData.keyHash P (Str.ofString "_law_within"), key := Value.str (Str.ofString "_law_within") 872, val := Value.ref 471 }, { hash := PyData.keyHash P (Str.ofString "_law_told"), key := Value.str (Str.ofString "_law_told") 882, val := Value.ref 478 }, { hash := PyData.keyHash P (Str.ofString "law"), key := Value.str (Str.ofString "law") 902, val := Value.ref 485 }] 92 }) ::
  (nat_lit 15, { cls := Value.type "tuple", data := Data.seq #[Value.type "Exception"] }) ::
  (nat_lit 22, { cls := Value.type "tuple", data := Data.seq #[] }) ::
  (nat_lit 24, { cls := Value.type "tuple", data := Data.seq #[Value.str (Str.ofString "self") 204, Value.str (Str.ofString "kind") 205, Value.str (Str.ofString "text") 206] }) ::
  (nat_lit 25, { cls := Value.type "tuple", data := Data.seq #[] }) ::
  (nat_lit 27, { cls := Value.type "code", data := Data.fields #[Value.str (Str.ofString "__init__") 201, Value.str (Str.ofString "CasFail.__init__") 202, Value.str (Str.ofString "/claim/cut.py") 203, Value.int 4 0, Value.int 3 0, Value.int 0 0, Value.int 0 0, Value.int 3 0, Value.ref 22, Value.bool true, Value.int 181 0, Value.ref 23, Value.none, Value.ref 24, Value.ref 25, Value.ref 26, Value.int 207 0, Value.int 4 0, Value.str (Str.ofString "/claim/cut.py") 208] }) ::
  (nat_lit 28, fnO initAt (Str.ofString "CasFail.__init__") (Value.none) (Value.none) (Value.none) (Value.str (Str.ofString "cas.errors") 187) (none) (Value.ref 27) (Value.none) (none) (#[])) ::
  (nat_lit 29, { cls := Value.type "tuple", data := Data.seq #[Value.str (Str.ofString "kind") 210, Value.str (Str.ofString "text") 211] }) ::
  (nat_lit 30, { cls := Value.type "dict", data := Data.dict #[{ hash := PyData.keyHash P (Str.ofString "__module__"), key := Value.str (Str.ofString "__module__") 196, val := Value.str (Str.ofString "cas.errors") 187 }, { hash := PyData.keyHash P (Str.ofString "__firstlineno__"), key := Value.str (Str.ofString "__firstlineno__") 200, val := Value.int 2 199 }, { hash := PyData.keyHash P (Str.ofString "__init__"), key := Value.str (Str.ofString "__init__") 209, val := Value.ref 28 }, { hash := PyData.keyHash P (Str.ofString "__static_attributes__"), key := Value.str (Str.ofString "__static_attributes__") 212, val := Value.ref 29 }, { hash := PyData.keyHash P (Str.ofString "__weakref__"), key := Value.str (Str.ofString "__weakref__") 214, val := Value.ref 32 }, { hash := PyData.keyHash P (Str.ofString "__doc__"), key := Value.str (Str.ofString "__doc__") 215, val := Value.none }] 3 }) ::
  (nat_lit 31, { cls := Value.type "type", data := Data.cls { name := Str.ofString "CasFail", bases := [Value.type "Exception"], mro := [Value.ref 31, Value.type "Exception", Value.type "BaseException", Value.type "object"], ns := 30, qualname := Str.ofString "CasFail" }, slots := #[some (Value.ref 15), none, some (Value.str (Str.ofString "CasFail") 189), some (Value.str (Str.ofString "CasFail") 197), some (Value.builtin "Exception.__new__"), some (Value.bool true)] }) ::
  (nat_lit 32, { cls := Value.type "getset_descriptor", data := Data.fields #[Value.str (Str.ofString "__weakref__") 213, Value.ref 31, Value.builtin "ExceptionGroup.__weakref__", Value.none] }) ::
  (nat_lit 105, { cls := Value.type "tuple", data := Data.seq #[Value.str (Str.ofString "num") 313, Value.int 1 314, Value.int 1 315] }) ::
  (nat_lit 127, { cls := Value.type "tuple", data := Data.seq #[] }) ::
  (nat_lit 129, { cls := Value.type "tuple", data := Data.seq #[Value.str (Str.ofString "term") 343, Value.str (Str.ofString "kind") 344] }) ::
  (nat_lit 130, { cls := Value.type "tuple", data := Data.seq #[] }) ::
  (nat_lit 132, { cls := Value.type "code", data := Data.fields #[Value.str (Str.ofString "inner_terms") 340, Value.str (Str.ofString "inner_terms") 341, Value.str (Str.ofString "/claim/cut.py") 342, Value.int 68 0, Value.int 1 0, Value.int 0 0, Value.int 0 0, Value.int 3 0, Value.ref 127, Value.bool true, Value.int 181 0, Value.ref 128, Value.none, Value.ref 129, Value.ref 130, Value.ref 131, Value.int 345 0, Value.int 68 0, Value.str (Str.ofString "/claim/cut.py") 346] }) ::
  (nat_lit 133, fnO (stAt 21) (Str.ofString "inner_terms") (Value.none) (Value.none) (Value.none) (Value.str (Str.ofString "cas.terms") 311) (none) (Value.ref 132) (Value.none) (none) (#[])) ::
  (nat_lit 134, { cls := Value.type "tuple", data := Data.seq #[] }) ::
  (nat_lit 136, { cls := Value.type "tuple", data := Data.seq #[Value.str (Str.ofString "term") 351, Value.str (Str.ofString "some_terms") 352, Value.str (Str.ofString "kind") 353] }) ::
  (nat_lit 137, { cls := Value.type "tuple", data := Data.seq #[] }) ::
  (nat_lit 139, { cls := Value.type "code", data := Data.fields #[Value.str (Str.ofString "with_inner") 348, Value.str (Str.ofString "with_inner") 349, Value.str (Str.ofString "/claim/cut.py") 350, Value.int 75 0, Value.int 2 0, Value.int 0 0, Value.int 0 0, Value.int 3 0, Value.ref 134, Value.bool true, Value.int 181 0, Value.ref 135, Value.none, Value.ref 136, Value.ref 137, Value.ref 138, Value.int 354 0, Value.int 75 0, Value.str (Str.ofString "/claim/cut.py") 355] }) ::
  (nat_lit 140, fnO (stAt 22) (Str.ofString "with_inner") (Value.none) (Value.none) (Value.none) (Value.str (Str.ofString "cas.terms") 311) (none) (Value.ref 139) (Value.none) (none) (#[])) ::
  (nat_lit 141, { cls := Value.type "tuple", data := Data.seq #[] }) ::
  (nat_lit 144, { cls := Value.type "code", data := Data.fields #[Value.str (Str.ofString "is_too_great") 357, Value.str (Str.ofString "is_too_great") 358, Value.str (Str.ofString "/claim/cut.py") 359, Value.int 82 0, Value.int 3 0, Value.int 0 0, Value.int 0 0, Value.int 3 0, Value.ref 141, Value.bool true, Value.int 181 0, Value.ref 142, Value.none, Value.none, Value.none, Value.ref 143, Value.int 360 0, Value.int 82 0, Value.str (Str.ofString "/claim/cut.py") 361] }) ::
  (nat_lit 145, fnO (stAt 23) (Str.ofString "is_too_great") (Value.none) (Value.none) (Value.none) (Value.str (Str.ofString "cas.terms") 311) (none) (Value.ref 144) (Value.none) (none) (#[])) ::
  (nat_lit 146, { cls := Value.type "dict", data := Data.dict #[{ hash := PyData.keyHash P (Str.ofString "sym"), key := Value.str (Str.ofString "sym") 365, val := Value.int 0 366 }, { hash := PyData.keyHash P (Str.ofString "call"), key := Value.str (Str.ofString "call") 367, val := Value.int 1 368 }, { hash := PyData.keyHash P (Str.ofString "sum"), key := Value.str (Str.ofString "sum") 369, val := Value.int 2 370 }, { hash := PyData.keyHash P (Str.ofString "prod"), key := Value.str (Str.ofString "prod") 371, val := Value.int 3 372 }, { hash := PyData.keyHash P (Str.ofString "num"), key := Value.str (Str.ofString "num") 373, val := Value.int 4 374 }, { hash := PyData.keyHash P (Str.ofString "pow"), key := Value.str (Str.ofString "pow") 375, val := Value.int 5 376 }, { hash := PyData.keyHash P (Str.ofString "eq"), key := Value.str (Str.ofString "eq") 377, val := Value.int 6 378 }, { hash := PyData.keyHash P (Str.ofString "list"), key := Value.str (Str.ofString "list") 379, val := Value.int 7 380 }] 8 }) ::
  (nat_lit 229, { cls := Value.type "tuple", data := Data.seq #[Value.str (Str.ofString "num") 501, Value.int 0 502, Value.int 1 503] }) ::
  (nat_lit 230, { cls := Value.type "tuple", data := Data.seq #[Value.str (Str.ofString "num") 505, Value.int 1 506, Value.int 1 507] }) ::
  (nat_lit 231, { cls := Value.type "tuple", data := Data.seq #[Value.str (Str.ofString "num") 509, Value.int (-1) 511, Value.int 1 512] }) ::
  (nat_lit 232, { cls := Value.type "tuple", data := Data.seq #[Value.str (Str.ofString "num") 514, Value.int 1 515, Value.int 2 516] }) ::
  (nat_lit 233, { cls := Value.type "tuple", data := Data.seq #[Value.ref 230] }) ::
  (nat_lit 234, { cls := Value.type "tuple", data := Data.seq #[Value.str (Str.ofString "call") 518, Value.str (Str.ofString "exp") 519, Value.ref 233] }) ::
  (nat_lit 235, { cls := Value.type "tuple", data := Data.seq #[Value.str (Str.ofString "sin") 527, Value.str (Str.ofString "tan") 528, Value.str (Str.ofString "atan") 529] }) ::
  (nat_lit 349, { cls := Value.type "tuple", data := Data.seq #[] }) ::
  (nat_lit 351, { cls := Value.type "tuple", data := Data.seq #[Value.str (Str.ofString "name") 687, Value.str (Str.ofString "args") 688, Value.str (Str.ofString "arg") 689] }) ::
  (nat_lit 352, { cls := Value.type "tuple", data := Data.seq #[] }) ::
  (nat_lit 354, { cls := Value.type "code", data := Data.fields #[Value.str (Str.ofString "call_of") 684, Value.str (Str.ofString "call_of") 685, Value.str (Str.ofString "/claim/cut.py") 686, Value.int 336 0, Value.int 2 0, Value.int 0 0, Value.int 0 0, Value.int 3 0, Value.ref 349, Value.bool true, Value.int 181 0, Value.ref 350, Value.none, Value.ref 351, Value.ref 352, Value.ref 353, Value.int 690 0, Value.int 336 0, Value.str (Str.ofString "/claim/cut.py") 691] }) ::
  (nat_lit 355, fnO (stAt 64) (Str.ofString "call_of") (Value.none) (Value.none) (Value.none) (Value.str (Str.ofString "cas.simp") 499) (none) (Value.ref 354) (Value.none) (none) (#[])) ::
  (nat_lit 356, { cls := Value.type "tuple", data := Data.seq #[] }) ::
  (nat_lit 359, { cls := Value.type "code", data := Data.fields #[Value.str (Str.ofString "simplify") 693, Value.str (Str.ofString "simplify") 694, Value.str (Str.ofString "/claim/cut.py") 695, Value.int 359 0, Value.int 1 0, Value.int 0 0, Value.int 0 0, Value.int 3 0, Value.ref 356, Value.bool true, Value.int 181 0, Value.ref 357, Value.none, Value.none, Value.none, Value.ref 358, Value.int 696 0, Value.int 359 0, Value.str (Str.ofString "/claim/cut.py") 697] }) ::
  (nat_lit 360, fnO (stAt 65) (Str.ofString "simplify") (Value.none) (Value.none) (Value.none) (Value.str (Str.ofString "cas.simp") 499) (none) (Value.ref 359) (Value.none) (none) (#[])) ::
  (nat_lit 366, { cls := Value.type "tuple", data := Data.seq #[] }) ::
  (nat_lit 369, { cls := Value.type "code", data := Data.fields #[Value.str (Str.ofString "settled") 707, Value.str (Str.ofString "settled") 708, Value.str (Str.ofString "/claim/cut.py") 709, Value.int 379 0, Value.int 3 0, Value.int 0 0, Value.int 0 0, Value.int 3 0, Value.ref 366, Value.bool true, Value.int 181 0, Value.ref 367, Value.none, Value.none, Value.none, Value.ref 368, Value.int 710 0, Value.int 379 0, Value.str (Str.ofString "/claim/cut.py") 711] }) ::
  (nat_lit 370, fnO (stAt 68) (Str.ofString "settled") (Value.none) (Value.none) (Value.none) (Value.str (Str.ofString "cas.subst") 699) (none) (Value.ref 369) (Value.none) (none) (#[])) ::
  (nat_lit 371, { cls := Value.type "tuple", data := Data.seq #[] }) ::
  (nat_lit 373, { cls := Value.type "tuple", data := Data.seq #[Value.str (Str.ofString "t") 726] }) ::
  (nat_lit 374, { cls := Value.type "tuple", data := Data.seq #[] }) ::
  (nat_lit 376, { cls := Value.type "code", data := Data.fields #[Value.str (Str.ofString "is_blank") 723, Value.str (Str.ofString "is_blank") 724, Value.str (Str.ofString "/claim/cut.py") 725, Value.int 399 0, Value.int 1 0, Value.int 0 0, Value.int 0 0, Value.int 3 0, Value.ref 371, Value.bool true, Value.int 181 0, Value.ref 372, Value.none, Value.ref 373, Value.ref 374, Value.ref 375, Value.int 727 0, Value.int 399 0, Value.str (Str.ofString "/claim/cut.py") 728] }) ::
  (nat_lit 377, fnO (stAt 74) (Str.ofString "is_blank") (Value.none) (Value.none) (Value.none) (Value.str (Str.ofString "cas.match") 713) (none) (Value.ref 376) (Value.none) (none) (#[])) ::
  (nat_lit 385, { cls := Value.type "tuple", data := Data.seq #[] }) ::
  (nat_lit 387, { cls := Value.type "tuple", data := Data.seq #[Value.str (Str.ofString "found") 741, Value.str (Str.ofString "name") 742, Value.str (Str.ofString "t") 743, Value.str (Str.ofString "later") 744] }) ::
  (nat_lit 388, { cls := Value.type "tuple", data := Data.seq #[] }) ::
  (nat_lit 390, { cls := Value.type "code", data := Data.fields #[Value.str (Str.ofString "bind_blank") 738, Value.str (Str.ofString "bind_blank") 739, Value.str (Str.ofString "/claim/cut.py") 740, Value.int 403 0, Value.int 3 0, Value.int 0 0, Value.int 0 0, Value.int 3 0, Value.ref 385, Value.bool true, Value.int 181 0, Value.ref 386, Value.none, Value.ref 387, Value.ref 388, Value.ref 389, Value.int 745 0, Value.int 403 0, Value.str (Str.ofString "/claim/cut.py") 746] }) ::
  (nat_lit 391, fnO (stAt 76) (Str.ofString "bind_blank") (Value.none) (Value.none) (Value.none) (Value.str (Str.ofString "cas.match") 713) (none) (Value.ref 390) (Value.none) (none) (#[])) ::
  (nat_lit 392, { cls := Value.type "tuple", data := Data.seq #[] }) ::
  (nat_lit 394, { cls := Value.type "tuple", data := Data.seq #[Value.str (Str.ofString "patterns") 751, Value.str (Str.ofString "terms") 752, Value.str (Str.ofString "found") 753, Value.str (Str.ofString "tries") 754, Value.str (Str.ofString "rows") 755, Value.str (Str.ofString "at") 756, Value.str (Str.ofString "pattern") 757, Value.str (Str.ofString "later") 758, Value.str (Str.ofString "row") 759] }) ::
  (nat_lit 395, { cls := Value.type "tuple", data := Data.seq #[] }) ::
  (nat_lit 397, { cls := Value.type "code", data := Data.fields #[Value.str (Str.ofString "match_rows") 748, Value.str (Str.ofString "match_rows") 749, Value.str (Str.ofString "/claim/cut.py") 750, Value.int 409 0, Value.int 4 0, Value.int 0 0, Value.int 0 0, Value.int 3 0, Value.ref 392, Value.bool true, Value.int 181 0, Value.ref 393, Value.none, Value.ref 394, Value.ref 395, Value.ref 396, Value.int 760 0, Value.int 409 0, Value.str (Str.ofString "/claim/cut.py") 761] }) ::
  (nat_lit 398, fnO (stAt 77) (Str.ofString "match_rows") (Value.none) (Value.none) (Value.none) (Value.str (Str.ofString "cas.match") 713) (none) (Value.ref 397) (Value.none) (none) (#[])) ::
  (nat_lit 411, { cls := Value.type "tuple", data := Data.seq #[] }) ::
  (nat_lit 413, { cls := Value.type "tuple", data := Data.seq #[Value.str (Str.ofString "pattern") 787, Value.str (Str.ofString "t") 788, Value.str (Str.ofString "found") 789, Value.str (Str.ofString "tries") 790, Value.str (Str.ofString "kind") 791] }) ::
  (nat_lit 414, { cls := Value.type "tuple", data := Data.seq #[] }) ::
  (nat_lit 416, { cls := Value.type "code", data := Data.fields #[Value.str (Str.ofString "match_with") 784, Value.str (Str.ofString "match_with") 785, Value.str (Str.ofString "/claim/cut.py") 786, Value.int 433 0, Value.int 4 0, Value.int 0 0, Value.int 0 0, Value.int 3 0, Value.ref 411, Value.bool true, Value.int 181 0, Value.ref 412, Value.none, Value.ref 413, Value.ref 414, Value.ref 415, Value.int 792 0, Value.int 433 0, Value.str (Str.ofString "/claim/cut.py") 793] }) ::
  (nat_lit 417, fnO (stAt 80) (Str.ofString "match_with") (Value.none) (Value.none) (Value.none) (Value.str (Str.ofString "cas.match") 713) (none) (Value.ref 416) (Value.none) (none) (#[])) ::
  (nat_lit 418, { cls := Value.type "tuple", data := Data.seq #[] }) ::
  (nat_lit 420, { cls := Value.type "tuple", data := Data.seq #[Value.str (Str.ofString "pattern") 798, Value.str (Str.ofString "t") 799, Value.str (Str.ofString "rows") 800] }) ::
  (nat_lit 421, { cls := Value.type "tuple", data := Data.seq #[] }) ::
  (nat_lit 423, { cls := Value.type "code", data := Data.fields #[Value.str (Str.ofString "match") 795, Value.str (Str.ofString "match") 796, Value.str (Str.ofString "/claim/cut.py") 797, Value.int 453 0, Value.int 2 0, Value.int 0 0, Value.int 0 0, Value.int 3 0, Value.ref 418, Value.bool true, Value.int 181 0, Value.ref 419, Value.none, Value.ref 420, Value.ref 421, Value.ref 422, Value.int 801 0, Value.int 453 0, Value.str (Str.ofString "/claim/cut.py") 802] }) ::
  (nat_lit 424, fnO (stAt 81) (Str.ofString "match") (Value.none) (Value.none) (Value.none) (Value.str (Str.ofString "cas.match") 713) (none) (Value.ref 423) (Value.none) (none) (#[])) ::
  (nat_lit 425, { cls := Value.type "tuple", data := Data.seq #[] }) ::
  (nat_lit 428, { cls := Value.type "code", data := Data.fields #[Value.str (Str.ofString "put_blanks") 804, Value.str (Str.ofString "put_blanks") 805, Value.str (Str.ofString "/claim/cut.py") 806, Value.int 456 0, Value.int 2 0, Value.int 0 0, Value.int 0 0, Value.int 3 0, Value.ref 425, Value.bool true, Value.int 181 0, Value.ref 426, Value.none, Value.none, Value.none, Value.ref 427, Value.int 807 0, Value.int 456 0, Value.str (Str.ofString "/claim/cut.py") 808] }) ::
  (nat_lit 429, fnO (stAt 82) (Str.ofString "put_blanks") (Value.none) (Value.none) (Value.none) (Value.str (Str.ofString "cas.match") 713) (none) (Value.ref 428) (Value.none) (none) (#[])) ::
  (nat_lit 430, { cls := Value.type "tuple", data := Data.seq #[] }) ::
  (nat_lit 432, { cls := Value.type "tuple", data := Data.seq #[Value.str (Str.ofString "t") 813] }) ::
  (nat_lit 433, { cls := Value.type "tuple", data := Data.seq #[] }) ::
  (nat_lit 435, { cls := Value.type "code", data := Data.fields #[Value.str (Str.ofString "not_too_great") 810, Value.str (Str.ofString "not_too_great") 811, Value.str (Str.ofString "/claim/cut.py") 812, Value.int 460 0, Value.int 1 0, Value.int 0 0, Value.int 0 0, Value.int 3 0, Value.ref 430, Value.bool true, Value.int 181 0, Value.ref 431, Value.none, Value.ref 432, Value.ref 433, Value.ref 434, Value.int 814 0, Value.int 460 0, Value.str (Str.ofString "/claim/cut.py") 815] }) ::
  (nat_lit 436, fnO (stAt 83) (Str.ofString "not_too_great") (Value.none) (Value.none) (Value.none) (Value.str (Str.ofString "cas.match") 713) (none) (Value.ref 435) (Value.none) (none) (#[])) ::
  (nat_lit 437, { cls := Value.type "tuple", data := Data.seq #[] }) ::
  (nat_lit 439, { cls := Value.type "tuple", data := Data.seq #[Value.str (Str.ofString "t") 820, Value.str (Str.ofString "rules") 821, Value.str (Str.ofString "pattern") 822, Value.str (Str.ofString "result") 823, Value.str (Str.ofString "found") 824] }) ::
  (nat_lit 440, { cls := Value.type "tuple", data := Data.seq #[] }) ::
  (nat_lit 442, { cls := Value.type "code", data := Data.fields #[Value.str (Str.ofString "rule_at") 817, Value.str (Str.ofString "rule_at") 818, Value.str (Str.ofString "/claim/cut.py") 819, Value.int 464 0, Value.int 2 0, Value.int 0 0, Value.int 0 0, Value.int 3 0, Value.ref 437, Value.bool true, Value.int 181 0, Value.ref 438, Value.none, Value.ref 439, Value.ref 440, Value.ref 441, Value.int 825 0, Value.int 464 0, Value.str (Str.ofString "/claim/cut.py") 826] }) ::
  (nat_lit 443, fnO (stAt 84) (Str.ofString "rule_at") (Value.none) (Value.none) (Value.none) (Value.str (Str.ofString "cas.match") 713) (none) (Value.ref 442) (Value.none) (none) (#[])) ::
  (nat_lit 444, { cls := Value.type "tuple", data := Data.seq #[] }) ::
  (nat_lit 446, { cls := Value.type "tuple", data := Data.seq #[Value.str (Str.ofString "t") 831, Value.str (Str.ofString "rules") 832, Value.str (Str.ofString "made") 833, Value.str (Str.ofString "parts") 834, Value.str (Str.ofString "at") 835, Value.str (Str.ofString "part") 836, Value.str (Str.ofString "later") 837, Value.str (Str.ofString "is_done") 838] }) ::
  (nat_lit 447, { cls := Value.type "tuple", data := Data.seq #[] }) ::
  (nat_lit 449, { cls := Value.type "code", data := Data.fields #[Value.str (Str.ofString "rule_once") 828, Value.str (Str.ofString "rule_once") 829, Value.str (Str.ofString "/claim/cut.py") 830, Value.int 470 0, Value.int 2 0, Value.int 0 0, Value.int 0 0, Value.int 3 0, Value.ref 444, Value.bool true, Value.int 181 0, Value.ref 445, Value.none, Value.ref 446, Value.ref 447, Value.ref 448, Value.int 839 0, Value.int 470 0, Value.str (Str.ofString "/claim/cut.py") 840] }) ::
  (nat_lit 450, fnO (stAt 85) (Str.ofString "rule_once") (Value.none) (Value.none) (Value.none) (Value.str (Str.ofString "cas.match") 713) (none) (Value.ref 449) (Value.none) (none) (#[])) ::
  (nat_lit 451, { cls := Value.type "tuple", data := Data.seq #[] }) ::
  (nat_lit 453, { cls := Value.type "tuple", data := Data.seq #[Value.str (Str.ofString "t") 845, Value.str (Str.ofString "rules") 846, Value.str (Str.ofString "most") 847, Value.str (Str.ofString "step") 848, Value.str (Str.ofString "is_done") 849] }) ::
  (nat_lit 454, { cls := Value.type "tuple", data := Data.seq #[] }) ::
  (nat_lit 456, { cls := Value.type "code", data := Data.fields #[Value.str (Str.ofString "apply_rules") 842, Value.str (Str.ofString "apply_rules") 843, Value.str (Str.ofString "/claim/cut.py") 844, Value.int 480 0, Value.int 3 0, Value.int 0 0, Value.int 0 0, Value.int 3 0, Value.ref 451, Value.bool true, Value.int 181 0, Value.ref 452, Value.none, Value.ref 453, Value.ref 454, Value.ref 455, Value.int 850 0, Value.int 480 0, Value.str (Str.ofString "/claim/cut.py") 851] }) ::
  (nat_lit 457, fnO (stAt 86) (Str.ofString "apply_rules") (Value.none) (Value.none) (Value.none) (Value.str (Str.ofString "cas.match") 713) (none) (Value.ref 456) (Value.none) (none) (#[])) ::
  (nat_lit 458, { cls := Value.type "tuple", data := Data.seq #[] }) ::
  (nat_lit 460, { cls := Value.type "tuple", data := Data.seq #[Value.str (Str.ofString "box") 858, Value.str (Str.ofString "many") 859] }) ::
  (nat_lit 461, { cls := Value.type "tuple", data := Data.seq #[] }) ::
  (nat_lit 463, { cls := Value.type "code", data := Data.fields #[Value.str (Str.ofString "_law_take") 855, Value.str (Str.ofString "_law_take") 856, Value.str (Str.ofString "/claim/cut.py") 857, Value.int 489 0, Value.int 2 0, Value.int 0 0, Value.int 0 0, Value.int 3 0, Value.ref 458, Value.bool true, Value.int 181 0, Value.ref 459, Value.none, Value.ref 460, Value.ref 461, Value.ref 462, Value.int 860 0, Value.int 489 0, Value.str (Str.ofString "/claim/cut.py") 861] }) ::
  (nat_lit 464, fnO (stAt 88) (Str.ofString "_law_take") (Value.none) (Value.none) (Value.none) (Value.str (Str.ofString "law_rh0041_02") 853) (none) (Value.ref 463) (Value.none) (none) (#[])) ::
  (nat_lit 465, { cls := Value.type "tuple", data := Data.seq #[] }) ::
  (nat_lit 467, { cls := Value.type "tuple", data := Data.seq #[Value.str (Str.ofString "name") 866, Value.str (Str.ofString "many") 867, Value.str (Str.ofString "t") 868, Value.str (Str.ofString "turn") 869] }) ::
  (nat_lit 468, { cls := Value.type "tuple", data := Data.seq #[] }) ::
  (nat_lit 470, { cls := Value.type "code", data := Data.fields #[Value.str (Str.ofString "_law_within") 863, Value.str (Str.ofString "_law_within") 864, Value.str (Str.ofString "/claim/cut.py") 865, Value.int 494 0, Value.int 3 0, Value.int 0 0, Value.int 0 0, Value.int 3 0, Value.ref 465, Value.bool true, Value.int 181 0, Value.ref 466, Value.none, Value.ref 467, Value.ref 468, Value.ref 469, Value.int 870 0, Value.int 494 0, Value.str (Str.ofString "/claim/cut.py") 871] }) ::
  (nat_lit 471, fnO (stAt 89) (Str.ofString "_law_within") (Value.none) (Value.none) (Value.none) (Value.str (Str.ofString "law_rh0041_02") 853) (none) (Value.ref 470) (Value.none) (none) (#[])) ::
  (nat_lit 472, { cls := Value.type "tuple", data := Data.seq #[] }) ::
  (nat_lit 474, { cls := Value.type "tuple", data := Data.seq #[Value.str (Str.ofString "t") 876, Value.str (Str.ofString "rules") 877, Value.str (Str.ofString "most") 878, Value.str (Str.ofString "wrong") 879] }) ::
  (nat_lit 475, { cls := Value.type "tuple", data := Data.seq #[] }) ::
  (nat_lit 477, { cls := Value.type "code", data := Data.fields #[Value.str (Str.ofString "_law_told") 873, Value.str (Str.ofString "_law_told") 874, Value.str (Str.ofString "/claim/cut.py") 875, Value.int 498 0, Value.int 3 0, Value.int 0 0, Value.int 0 0, Value.int 3 0, Value.ref 472, Value.bool true, Value.int 181 0, Value.ref 473, Value.none, Value.ref 474, Value.ref 475, Value.ref 476, Value.int 880 0, Value.int 498 0, Value.str (Str.ofString "/claim/cut.py") 881] }) ::
  (nat_lit 478, fnO (stAt 90) (Str.ofString "_law_told") (Value.none) (Value.none) (Value.none) (Value.str (Str.ofString "law_rh0041_02") 853) (none) (Value.ref 477) (Value.none) (none) (#[])) ::
  (nat_lit 479, { cls := Value.type "tuple", data := Data.seq #[] }) ::
  (nat_lit 481, { cls := Value.type "tuple", data := Data.seq #[Value.str (Str.ofString "script") 886, Value.str (Str.ofString "box") 887, Value.str (Str.ofString "form") 888, Value.str (Str.ofString "size") 889, Value.str (Str.ofString "apart") 890, Value.str (Str.ofString "most") 891, Value.str (Str.ofString "blank") 892, Value.str (Str.ofString "inner") 893, Value.str (Str.ofString "levels") 894, Value.str (Str.ofString "wide") 895, Value.str (Str.ofString "rule") 896, Value.str (Str.ofString "turn") 897, Value.str (Str.ofString "due") 898, Value.str (Str.ofString "t") 899] }) ::
  (nat_lit 482, { cls := Value.type "tuple", data := Data.seq #[] }) ::
  (nat_lit 484, { cls := Value.type "code", data := Data.fields #[Value.str (Str.ofString "law") 883, Value.str (Str.ofString "law") 884, Value.str (Str.ofString "/claim/cut.py") 885, Value.int 503 0, Value.int 1 0, Value.int 0 0, Value.int 0 0, Value.int 3 0, Value.ref 479, Value.bool true, Value.int 181 0, Value.ref 480, Value.none, Value.ref 481, Value.ref 482, Value.ref 483, Value.int 900 0, Value.int 503 0, Value.str (Str.ofString "/claim/cut.py") 901] }) ::
  (nat_lit 485, fnO (stAt 91) (Str.ofString "law") (Value.none) (Value.none) (Value.none) (Value.str (Str.ofString "law_rh0041_02") 853) (none) (Value.ref 484) (Value.none) (none) (#[])) :: []
def partAs : List Addr := [2, 3, 15, 22, 24, 25, 27, 28, 29, 30, 31, 32, 105, 127, 129, 130, 132, 133, 134, 136, 137, 139, 140, 141, 144, 145, 146, 229, 230, 231, 232, 233, 234, 235, 349, 351, 352, 354, 355, 356, 359, 360, 366, 369, 370, 371, 373, 374, 376, 377, 385, 387, 388, 390, 391, 392, 394, 395, 397, 398, 411, 413, 414, 416, 417, 418, 420, 421, 423, 424, 425, 428, 429, 430, 432, 433, 435, 436, 437, 439, 440, 442, 443, 444, 446, 447, 449, 450, 451, 453, 454, 456, 457, 458, 460, 461, 463, 464, 465, 467, 468, 470, 471, 472, 474, 475, 477, 478, 479, 481, 482, 484, 485]
noncomputable def view : Program := PySem.W.view PySem.Challenge.pw_rh0041_02 [1, 3, 4, 5, 6, 8, 9, 10, 11, 12, 13, 14, 16, 17, 18, 19, 20, 21, 22, 23, 25, 26, 27, 28, 29, 30, 31, 32, 33, 34, 35, 36, 37, 39, 40, 41, 42, 43, 44, 45, 46, 47, 48, 49, 50, 51, 52, 53, 54, 55, 56, 57, 58, 59, 60, 61, 62, 63, 64, 65, 67, 68, 70, 71, 72, 73, 74, 75, 76, 77, 78, 79, 80, 81, 82, 83, 84, 85, 86, 88, 89, 90, 91]

-- the heap at the top's end (printed by Gen2.lean)
noncomputable def heapEnd (P : Params) : Heap := { objs := Array.mk (
  ({ cls := Value.type "dict", data := Data.dict #[{ hash := PyData.keyHash P (Str.ofString "__name__"), key := Value.str (Str.ofString "__name__") 1, val := Value.str (Str.ofString "builtins") 160 }, { hash := PyData.keyHash P (Str.ofString "__doc__"), key := Value.str (Str.ofString "__doc__") 2, val := Value.builtin "builtins.__doc__:str#opaque" }, { hash := PyData.keyHash P (Str.ofString "__package__"), key := Value.str (Str.ofString "__package__") 3, val := Value.builtin "builtins.__package__:str#opaque" }, { hash := PyData.keyHash P (Str.ofString "__loader__"), key := Value.str (Str.ofString "__loader__") 4, val := Value.builtin "builtins.__loader__:shared#opaque" }, { hash := PyData.keyHash P (Str.ofString "__spec__"), key := Value.str (Str.ofString "__spec__") 5, val := Value.builtin "builtins.__spec__#opaque" }, { hash := PyData.keyHash P (Str.ofString "__build_class__"), key := Value.str (Str.ofString "__build_class__") 6, val := Value.builtin "__build_class__" }, { hash := PyData.keyHash P (Str.ofString "__import__"), key := Value.str (Str.ofString "__import__") 7, val := Value.builtin "__import__" }, { hash := PyData.keyHash P (Str.ofString "abs"), key := Value.str (Str.ofString "abs") 8, val := Value.builtin "abs" }, { hash := PyData.keyHash P (Str.ofString "all"), key := Value.str (Str.ofString "all") 9, val := Value.builtin "all" }, { hash := PyData.keyHash P (Str.ofString "any"), key := Value.str (Str.ofString "any") 10, val := Value.builtin "any" }, { hash := PyData.keyHash P (Str.ofString "ascii"), key := Value.str (Str.ofString "ascii") 11, val := Value.builtin "ascii" }, { hash := PyData.keyHash P (Str.ofString "bin"), key := Value.str (Str.ofString "bin") 12, val := Value.builtin "bin" }, { hash := PyData.keyHash P (Str.ofString "breakpoint"), key := Value.str (Str.ofString "breakpoint") 13, val := Value.builtin "breakpoint" }, { hash := PyData.keyHash P (Str.ofString "callable"), key := Value.str (Str.ofString "callable") 14, val := Value.builtin "callable" }, { hash := PyData.keyHash P (Str.ofString "chr"), key := Value.str (Str.ofString "chr") 15, val := Value.builtin "chr" }, { hash := PyData.keyHash P (Str.ofString "compile"), key := Value.str (Str.ofString "compile") 16, val := Value.builtin "compile" }, { hash := PyData.keyHash P (Str.ofString "delattr"), key := Value.str (Str.ofString "delattr") 17, val := Value.builtin "delattr" }, { hash := PyData.keyHash P (Str.ofString "dir"), key := Value.str (Str.ofString "dir") 18, val := Value.builtin "dir" }, { hash := PyData.keyHash P (Str.ofString "divmod"), key := Value.str (Str.ofString "divmod") 19, val := Value.builtin "divmod" }, { hash := PyData.keyHash P (Str.ofString "eval"), key := Value.str (Str.ofString "eval") 20, val := Value.builtin "eval" }, { hash := PyData.keyHash P (Str.ofString "exec"), key := Value.str (Str.ofString "exec") 21, val := Value.builtin "exec" }, { hash := PyData.keyHash P (Str.ofString "format"), key := Value.str (Str.ofString "format") 22, val := Value.builtin "format" }, { hash := PyData.keyHash P (Str.ofString "getattr"), key := Value.str (Str.ofString "getattr") 23, val := Value.builtin "getattr" }, { hash := PyData.keyHash P (Str.ofString "globals"), key := Value.str (Str.ofString "globals") 24, val := Value.builtin "globals" }, { hash := PyData.keyHash P (Str.ofString "hasattr"), key := Value.str (Str.ofString "hasattr") 25, val := Value.builtin "hasattr" }, { hash := PyData.keyHash P (Str.ofString "hash"), key := Value.str (Str.ofString "hash") 26, val := Value.builtin "hash" }, { hash := PyData.keyHash P (Str.ofString "hex"), key := Value.str (Str.ofString "hex") 27, val := Value.builtin "hex" }, { hash := PyData.keyHash P (Str.ofString "id"), key := Value.str (Str.ofString "id") 28, val := Value.builtin "id" }, { hash := PyData.keyHash P (Str.ofString "input"), key := Value.str (Str.ofString "input") 29, val := Value.builtin "input" }, { hash := PyData.keyHash P (Str.ofString "isinstance"), key := Value.str (Str.ofString "isinstance") 30, val := Value.builtin "isinstance" }, { hash := PyData.keyHash P (Str.ofString "issubclass"), key := Value.str (Str.ofString "issubclass") 31, val := Value.builtin "issubclass" }, { hash := PyData.keyHash P (Str.ofString "iter"), key := Value.str (Str.ofString "iter") 32, val := Value.builtin "iter" }, { hash := PyData.keyHash P (Str.ofString "aiter"), key := Value.str (Str.ofString "aiter") 33, val := Value.builtin "aiter" }, { hash := PyData.keyHash P (Str.ofString "len"), key := Value.str (Str.ofString "len") 34, val := Value.builtin "len" }, { hash := PyData.keyHash P (Str.ofString "locals"), key := Value.str (Str.ofString "locals") 35, val := Value.builtin "locals" }, { hash := PyData.keyHash P (Str.ofString "max"), key := Value.str (Str.ofString "max") 36, val := Value.builtin "max" }, { hash := PyData.keyHash P (Str.ofString "min"), key := Value.str (Str.ofString "min") 37, val := Value.builtin "min" }, { hash := PyData.keyHash P (Str.ofString "next"), key := Value.str (Str.ofString "next") 38, val := Value.builtin "next" }, { hash := PyData.keyHash P (Str.ofString "anext"), key := Value.str (Str.ofString "anext") 39, val := Value.builtin "anext" }, { hash := PyData.keyHash P (Str.ofString "oct"), key := Value.str (Str.ofString "oct") 40, val := Value.builtin "oct" }, { hash := PyData.keyHash P (Str.ofString "ord"), key := Value.str (Str.ofString "ord") 41, val := Value.builtin "ord" }, { hash := PyData.keyHash P (Str.ofString "pow"), key := Value.str (Str.ofString "pow") 42, val := Value.builtin "pow" }, { hash := PyData.keyHash P (Str.ofString "print"), key := Value.str (Str.ofString "print") 43, val := Value.builtin "print" }, { hash := PyData.keyHash P (Str.ofString "repr"), key := Value.str (Str.ofString "repr") 44, val := Value.builtin "repr" }, { hash := PyData.keyHash P (Str.ofString "round"), key := Value.str (Str.ofString "round") 45, val := Value.builtin "round" }, { hash := PyData.keyHash P (Str.ofString "setattr"), key := Value.str (Str.ofString "setattr") 46, val := Value.builtin "setattr" }, { hash := PyData.keyHash P (Str.ofString "sorted"), key := Value.str (Str.ofString "sorted") 47, val := Value.builtin "sorted" }, { hash := PyData.keyHash P (Str.ofString "sum"), key := Value.str (Str.ofString "sum") 48, val := Value.builtin "sum" }, { hash := PyData.keyHash P (Str.ofString "vars"), key := Value.str (Str.ofString "vars") 49, val := Value.builtin "vars" }, { hash := PyData.keyHash P (Str.ofString "None"), key := Value.str (Str.ofString "None") 50, val := Value.none }, { hash := PyData.keyHash P (Str.ofString "Ellipsis"), key := Value.str (Str.ofString "Ellipsis") 51, val := Value.ellipsis }, { hash := PyData.keyHash P (Str.ofString "NotImplemented"), key := Value.str (Str.ofString "NotImplemented") 52, val := Value.notImplemented }, { hash := PyData.keyHash P (Str.ofString "False"), key := Value.str (Str.ofString "False") 53, val := Value.bool false }, { hash := PyData.keyHash P (Str.ofString "True"), key := Value.str (Str.ofString "True") 54, val := Value.bool true }, { hash := PyData.keyHash P (Str.ofString "bool"), key := Value.str (Str.ofString "bool") 55, val := Value.type "bool" }, { hash := PyData.keyHash P (Str.ofString "memoryview"), key := Value.str (Str.ofString "memoryview") 56, val := Value.type "memoryview" }, { hash := PyData.keyHash P (Str.ofString "bytearray"), key := Value.str (Str.ofString "bytearray") 57, val := Value.type "bytearray" }, { hash := PyData.keyHash P (Str.ofString "bytes"), key := Value.str (Str.ofString "bytes") 58, val := Value.type "bytes" }, { hash := PyData.keyHash P (Str.ofString "classmethod"), key := Value.str (Str.ofString "classmethod") 59, val := Value.type "classmethod" }, { hash := PyData.keyHash P (Str.ofString "complex"), key := Value.str (Str.ofString "complex") 60, val := Value.type "complex" }, { hash := PyData.keyHash P (Str.ofString "dict"), key := Value.str (Str.ofString "dict") 61, val := Value.type "dict" }, { hash := PyData.keyHash P (Str.ofString "enumerate"), key := Value.str (Str.ofString "enumerate") 62, val := Value.type "enumerate" }, { hash := PyData.keyHash P (Str.ofString "filter"), key := Value.str (Str.ofString "filter") 63, val := Value.type "filter" }, { hash := PyData.keyHash P (Str.ofString "float"), key := Value.str (Str.ofString "float") 64, val := Value.type "float" }, { hash := PyData.keyHash P (Str.ofString "frozenset"), key := Value.str (Str.ofString "frozenset") 65, val := Value.type "frozenset" }, { hash := PyData.keyHash P (Str.ofString "property"), key := Value.str (Str.ofString "property") 66, val := Value.type "property" }, { hash := PyData.keyHash P (Str.ofString "int"), key := Value.str (Str.ofString "int") 67, val := Value.type "int" }, { hash := PyData.keyHash P (Str.ofString "list"), key := Value.str (Str.ofString "list") 68, val := Value.type "list" }, { hash := PyData.keyHash P (Str.ofString "map"), key := Value.str (Str.ofString "map") 69, val := Value.type "map" }, { hash := PyData.keyHash P (Str.ofString "object"), key := Value.str (Str.ofString "object") 70, val := Value.type "object" }, { hash := PyData.keyHash P (Str.ofString "range"), key := Value.str (Str.ofString "range") 71, val := Value.type "range" }, { hash := PyData.keyHash P (Str.ofString "reversed"), key := Value.str (Str.ofString "reversed") 72, val := Value.type "reversed" }, { hash := PyData.keyHash P (Str.ofString "set"), key := Value.str (Str.ofString "set") 73, val := Value.type "set" }, { hash := PyData.keyHash P (Str.ofString "slice"), key := Value.str (Str.ofString "slice") 74, val := Value.type "slice" }, { hash := PyData.keyHash P (Str.ofString "staticmethod"), key := Value.str (Str.ofString "staticmethod") 75, val := Value.type "staticmethod" }, { hash := PyData.keyHash P (Str.ofString "str"), key := Value.str (Str.ofString "str") 76, val := Value.type "str" }, { hash := PyData.keyHash P (Str.ofString "super"), key := Value.str (Str.ofString "super") 77, val := Value.type "super" }, { hash := PyData.keyHash P (Str.ofString "tuple"), key := Value.str (Str.ofString "tuple") 78, val := Value.type "tuple" }, { hash := PyData.keyHash P (Str.ofString "type"), key := Value.str (Str.ofString "type") 79, val := Value.type "type" }, { hash := PyData.keyHash P (Str.ofString "zip"), key := Value.str (Str.ofString "zip") 80, val := Value.type "zip" }, { hash := PyData.keyHash P (Str.ofString "__debug__"), key := Value.str (Str.ofString "__debug__") 81, val := Value.bool true }, { hash := PyData.keyHash P (Str.ofString "BaseException"), key := Value.str (Str.ofString "BaseException") 82, val := Value.type "BaseException" }, { hash := PyData.keyHash P (Str.ofString "BaseExceptionGroup"), key := Value.str (Str.ofString "BaseExceptionGroup") 83, val := Value.type "BaseExceptionGroup" }, { hash := PyData.keyHash P (Str.ofString "Exception"), key := Value.str (Str.ofString "Exception") 84, val := Value.type "Exception" }, { hash := PyData.keyHash P (Str.ofString "GeneratorExit"), key := Value.str (Str.ofString "GeneratorExit") 85, val := Value.type "GeneratorExit" }, { hash := PyData.keyHash P (Str.ofString "KeyboardInterrupt"), key := Value.str (Str.ofString "KeyboardInterrupt") 86, val := Value.type "KeyboardInterrupt" }, { hash := PyData.keyHash P (Str.ofString "SystemExit"), key := Value.str (Str.ofString "SystemExit") 87, val := Value.type "SystemExit" }, { hash := PyData.keyHash P (Str.ofString "ArithmeticError"), key := Value.str (Str.ofString "ArithmeticError") 88, val := Value.type "ArithmeticError" }, { hash := PyData.keyHash P (Str.ofString "AssertionError"), key := Value.str (Str.ofString "AssertionError") 89, val := Value.type "AssertionError" }, { hash := PyData.keyHash P (Str.ofString "AttributeError"), key := Value.str (Str.ofString "AttributeError") 90, val := Value.type "AttributeError" }, { hash := PyData.keyHash P (Str.ofString "BufferError"), key := Value.str (Str.ofString "BufferError") 91, val := Value.type "BufferError" }, { hash := PyData.keyHash P (Str.ofString "EOFError"), key := Value.str (Str.ofString "EOFError") 92, val := Value.type "EOFError" }, { hash := PyData.keyHash P (Str.ofString "ImportError"), key := Value.str (Str.ofString "ImportError") 93, val := Value.type "ImportError" }, { hash := PyData.keyHash P (Str.ofString "LookupError"), key := Value.str (Str.ofString "LookupError") 94, val := Value.type "LookupError" }, { hash := PyData.keyHash P (Str.ofString "MemoryError"), key := Value.str (Str.ofString "MemoryError") 95, val := Value.type "MemoryError" }, { hash := PyData.keyHash P (Str.ofString "NameError"), key := Value.str (Str.ofString "NameError") 96, val := Value.type "NameError" }, { hash := PyData.keyHash P (Str.ofString "OSError"), key := Value.str (Str.ofString "OSError") 97, val := Value.type "OSError" }, { hash := PyData.keyHash P (Str.ofString "ReferenceError"), key := Value.str (Str.ofString "ReferenceError") 98, val := Value.type "ReferenceError" }, { hash := PyData.keyHash P (Str.ofString "RuntimeError"), key := Value.str (Str.ofString "RuntimeError") 99, val := Value.type "RuntimeError" }, { hash := PyData.keyHash P (Str.ofString "StopAsyncIteration"), key := Value.str (Str.ofString "StopAsyncIteration") 100, val := Value.type "StopAsyncIteration" }, { hash := PyData.keyHash P (Str.ofString "StopIteration"), key := Value.str (Str.ofString "StopIteration") 101, val := Value.type "StopIteration" }, { hash := PyData.keyHash P (Str.ofString "SyntaxError"), key := Value.str (Str.ofString "SyntaxError") 102, val := Value.type "SyntaxError" }, { hash := PyData.keyHash P (Str.ofString "SystemError"), key := Value.str (Str.ofString "SystemError") 103, val := Value.type "SystemError" }, { hash := PyData.keyHash P (Str.ofString "TypeError"), key := Value.str (Str.ofString "TypeError") 104, val := Value.type "TypeError" }, { hash := PyData.keyHash P (Str.ofString "ValueError"), key := Value.str (Str.ofString "ValueError") 105, val := Value.type "ValueError" }, { hash := PyData.keyHash P (Str.ofString "Warning"), key := Value.str (Str.ofString "Warning") 106, val := Value.type "Warning" }, { hash := PyData.keyHash P (Str.ofString "FloatingPointError"), key := Value.str (Str.ofString "FloatingPointError") 107, val := Value.type "FloatingPointError" }, { hash := PyData.keyHash P (Str.ofString "OverflowError"), key := Value.str (Str.ofString "OverflowError") 108, val := Value.type "OverflowError" }, { hash := PyData.keyHash P (Str.ofString "ZeroDivisionError"), key := Value.str (Str.ofString "ZeroDivisionError") 109, val := Value.type "ZeroDivisionError" }, { hash := PyData.keyHash P (Str.ofString "BytesWarning"), key := Value.str (Str.ofString "BytesWarning") 110, val := Value.type "BytesWarning" }, { hash := PyData.keyHash P (Str.ofString "DeprecationWarning"), key := Value.str (Str.ofString "DeprecationWarning") 111, val := Value.type "DeprecationWarning" }, { hash := PyData.keyHash P (Str.ofString "EncodingWarning"), key := Value.str (Str.ofString "EncodingWarning") 112, val := Value.type "EncodingWarning" }, { hash := PyData.keyHash P (Str.ofString "FutureWarning"), key := Value.str (Str.ofString "FutureWarning") 113, val := Value.type "FutureWarning" }, { hash := PyData.keyHash P (Str.ofString "ImportWarning"), key := Value.str (Str.ofString "ImportWarning") 114, val := Value.type "ImportWarning" }, { hash := PyData.keyHash P (Str.ofString "PendingDeprecationWarning"), key := Value.str (Str.ofString "PendingDeprecationWarning") 115, val := Value.type "PendingDeprecationWarning" }, { hash := PyData.keyHash P (Str.ofString "ResourceWarning"), key := Value.str (Str.ofString "ResourceWarning") 116, val := Value.type "ResourceWarning" }, { hash := PyData.keyHash P (Str.ofString "RuntimeWarning"), key := Value.str (Str.ofString "RuntimeWarning") 117, val := Value.type "RuntimeWarning" }, { hash := PyData.keyHash P (Str.ofString "SyntaxWarning"), key := Value.str (Str.ofString "SyntaxWarning") 118, val := Value.type "SyntaxWarning" }, { hash := PyData.keyHash P (Str.ofString "UnicodeWarning"), key := Value.str (Str.ofString "UnicodeWarning") 119, val := Value.type "UnicodeWarning" }, { hash := PyData.keyHash P (Str.ofString "UserWarning"), key := Value.str (Str.ofString "UserWarning") 120, val := Value.type "UserWarning" }, { hash := PyData.keyHash P (Str.ofString "BlockingIOError"), key := Value.str (Str.ofString "BlockingIOError") 121, val := Value.type "BlockingIOError" }, { hash := PyData.keyHash P (Str.ofString "ChildProcessError"), key := Value.str (Str.ofString "ChildProcessError") 122, val := Value.type "ChildProcessError" }, { hash := PyData.keyHash P (Str.ofString "ConnectionError"), key := Value.str (Str.ofString "ConnectionError") 123, val := Value.type "ConnectionError" }, { hash := PyData.keyHash P (Str.ofString "FileExistsError"), key := Value.str (Str.ofString "FileExistsError") 124, val := Value.type "FileExistsError" }, { hash := PyData.keyHash P (Str.ofString "FileNotFoundError"), key := Value.str (Str.ofString "FileNotFoundError") 125, val := Value.type "FileNotFoundError" }, { hash := PyData.keyHash P (Str.ofString "InterruptedError"), key := Value.str (Str.ofString "InterruptedError") 126, val := Value.type "InterruptedError" }, { hash := PyData.keyHash P (Str.ofString "IsADirectoryError"), key := Value.str (Str.ofString "IsADirectoryError") 127, val := Value.type "IsADirectoryError" }, { hash := PyData.keyHash P (Str.ofString "NotADirectoryError"), key := Value.str (Str.ofString "NotADirectoryError") 128, val := Value.type "NotADirectoryError" }, { hash := PyData.keyHash P (Str.ofString "PermissionError"), key := Value.str (Str.ofString "PermissionError") 129, val := Value.type "PermissionError" }, { hash := PyData.keyHash P (Str.ofString "ProcessLookupError"), key := Value.str (Str.ofString "ProcessLookupError") 130, val := Value.type "ProcessLookupError" }, { hash := PyData.keyHash P (Str.ofString "TimeoutError"), key := Value.str (Str.ofString "TimeoutError") 131, val := Value.type "TimeoutError" }, { hash := PyData.keyHash P (Str.ofString "IndentationError"), key := Value.str (Str.ofString "IndentationError") 132, val := Value.type "IndentationError" }, { hash := PyData.keyHash P (Str.ofString "_IncompleteInputError"), key := Value.str (Str.ofString "_IncompleteInputError") 133, val := Value.type "_IncompleteInputError" }, { hash := PyData.keyHash P (Str.ofString "IndexError"), key := Value.str (Str.ofString "IndexError") 134, val := Value.type "IndexError" }, { hash := PyData.keyHash P (Str.ofString "KeyError"), key := Value.str (Str.ofString "KeyError") 135, val := Value.type "KeyError" }, { hash := PyData.keyHash P (Str.ofString "ModuleNotFoundError"), key := Value.str (Str.ofString "ModuleNotFoundError") 136, val := Value.type "ModuleNotFoundError" }, { hash := PyData.keyHash P (Str.ofString "NotImplementedError"), key := Value.str (Str.ofString "NotImplementedError") 137, val := Value.type "NotImplementedError" }, { hash := PyData.keyHash P (Str.ofString "PythonFinalizationError"), key := Value.str (Str.ofString "PythonFinalizationError") 138, val := Value.type "PythonFinalizationError" }, { hash := PyData.keyHash P (Str.ofString "RecursionError"), key := Value.str (Str.ofString "RecursionError") 139, val := Value.type "RecursionError" }, { hash := PyData.keyHash P (Str.ofString "UnboundLocalError"), key := Value.str (Str.ofString "UnboundLocalError") 140, val := Value.type "UnboundLocalError" }, { hash := PyData.keyHash P (Str.ofString "UnicodeError"), key := Value.str (Str.ofString "UnicodeError") 141, val := Value.type "UnicodeError" }, { hash := PyData.keyHash P (Str.ofString "BrokenPipeError"), key := Value.str (Str.ofString "BrokenPipeError") 142, val := Value.type "BrokenPipeError" }, { hash := PyData.keyHash P (Str.ofString "ConnectionAbortedError"), key := Value.str (Str.ofString "ConnectionAbortedError") 143, val := Value.type "ConnectionAbortedError" }, { hash := PyData.keyHash P (Str.ofString "ConnectionRefusedError"), key := Value.str (Str.ofString "ConnectionRefusedError") 144, val := Value.type "ConnectionRefusedError" }, { hash := PyData.keyHash P (Str.ofString "ConnectionResetError"), key := Value.str (Str.ofString "ConnectionResetError") 145, val := Value.type "ConnectionResetError" }, { hash := PyData.keyHash P (Str.ofString "TabError"), key := Value.str (Str.ofString "TabError") 146, val := Value.type "TabError" }, { hash := PyData.keyHash P (Str.ofString "UnicodeDecodeError"), key := Value.str (Str.ofString "UnicodeDecodeError") 147, val := Value.type "UnicodeDecodeError" }, { hash := PyData.keyHash P (Str.ofString "UnicodeEncodeError"), key := Value.str (Str.ofString "UnicodeEncodeError") 148, val := Value.type "UnicodeEncodeError" }, { hash := PyData.keyHash P (Str.ofString "UnicodeTranslateError"), key := Value.str (Str.ofString "UnicodeTranslateError") 149, val := Value.type "UnicodeTranslateError" }, { hash := PyData.keyHash P (Str.ofString "ExceptionGroup"), key := Value.str (Str.ofString "ExceptionGroup") 150, val := Value.type "ExceptionGroup" }, { hash := PyData.keyHash P (Str.ofString "EnvironmentError"), key := Value.str (Str.ofString "EnvironmentError") 151, val := Value.type "OSError" }, { hash := PyData.keyHash P (Str.ofString "IOError"), key := Value.str (Str.ofString "IOError") 152, val := Value.type "OSError" }, { hash := PyData.keyHash P (Str.ofString "open"), key := Value.str (Str.ofString "open") 153, val := Value.builtin "open" }, { hash := PyData.keyHash P (Str.ofString "quit"), key := Value.str (Str.ofString "quit") 154, val := Value.builtin "builtins.quit#opaque" }, { hash := PyData.keyHash P (Str.ofString "exit"), key := Value.str (Str.ofString "exit") 155, val := Value.builtin "builtins.exit#opaque" }, { hash := PyData.keyHash P (Str.ofString "copyright"), key := Value.str (Str.ofString "copyright") 156, val := Value.builtin "builtins.copyright#opaque" }, { hash := PyData.keyHash P (Str.ofString "credits"), key := Value.str (Str.ofString "credits") 157, val := Value.builtin "builtins.credits#opaque" }, { hash := PyData.keyHash P (Str.ofString "license"), key := Value.str (Str.ofString "license") 158, val := Value.builtin "builtins.license#opaque" }, { hash := PyData.keyHash P (Str.ofString "help"), key := Value.str (Str.ofString "help") 159, val := Value.builtin "builtins.help#opaque" }] 159 } : Obj) ::
  ({ cls := Value.type "dict", data := Data.dict #[{ hash := PyData.keyHash P (Str.ofString "builtins"), key := Value.str (Str.ofString "builtins") 162, val := Value.ref 4 }, { hash := PyData.keyHash P (Str.ofString "__main__"), key := Value.str (Str.ofString "__main__") 163, val := Value.ref 5 }] 2 } : Obj) ::
  ({ cls := Value.none, data := Data.dict #[{ hash := PyData.keyHash P (Str.ofString "type.__subclasses__.Exception.0"), key := Value.str (Str.ofString "type.__subclasses__.Exception.0") 216, val := Value.int 31 0 }, { hash := PyData.keyHash P (Str.ofString "type.__subclasses__.Exception.n"), key := Value.str (Str.ofString "type.__subclasses__.Exception.n") 217, val := Value.int 1 0 }] 2 } : Obj) ::
  ({ cls := Value.type "dict", data := Data.dict #[{ hash := PyData.keyHash P (Str.ofString "__name__"), key := Value.str (Str.ofString "__name__") 165, val := Value.str (Str.ofString "law_rh0041_02") 853 }, { hash := PyData.keyHash P (Str.ofString "__doc__"), key := Value.str (Str.ofString "__doc__") 166, val := Value.none }, { hash := PyData.keyHash P (Str.ofString "__package__"), key := Value.str (Str.ofString "__package__") 167, val := Value.none }, { hash := PyData.keyHash P (Str.ofString "__loader__"), key := Value.str (Str.ofString "__loader__") 168, val := Value.builtin "__main__.__loader__#opaque" }, { hash := PyData.keyHash P (Str.ofString "__spec__"), key := Value.str (Str.ofString "__spec__") 169, val := Value.none }, { hash := PyData.keyHash P (Str.ofString "__annotations__"), key := Value.str (Str.ofString "__annotations__") 170, val := Value.ref 6 }, { hash := PyData.keyHash P (Str.ofString "__builtins__"), key := Value.str (Str.ofString "__builtins__") 171, val := Value.ref 4 }, { hash := PyData.keyHash P (Str.ofString "__file__"), key := Value.str (Str.ofString "__file__") 173, val := Value.str (Str.ofString "/claim/cut.py") 172 }, { hash := PyData.keyHash P (Str.ofString "__cached__"), key := Value.str (Str.ofString "__cached__") 174, val := Value.none }, { hash := PyData.keyHash P (Str.ofString "CasFail"), key := Value.str (Str.ofString "CasFail") 219, val := Value.ref 31 }, { hash := PyData.keyHash P (Str.ofString "gcd"), key := Value.str (Str.ofString "gcd") 229, val := Value.ref 41 }, { hash := PyData.keyHash P (Str.ofString "bits_of"), key := Value.str (Str.ofString "bits_of") 239, val := Value.ref 48 }, { hash := PyData.keyHash P (Str.ofString "least_divisor"), key := Value.str (Str.ofString "least_divisor") 248, val := Value.ref 55 }, { hash := PyData.keyHash P (Str.ofString "prime_factors"), key := Value.str (Str.ofString "prime_factors") 258, val := Value.ref 62 }, { hash := PyData.keyHash P (Str.ofString "MOST_BITS"), key := Value.str (Str.ofString "MOST_BITS") 262, val := Value.int 200000 261 }, { hash := PyData.keyHash P (Str.ofString "rat"), key := Value.str (Str.ofString "rat") 271, val := Value.ref 69 }, { hash := PyData.keyHash P (Str.ofString "radd"), key := Value.str (Str.ofString "radd") 279, val := Value.ref 76 }, { hash := PyData.keyHash P (Str.ofString "rmul"), key := Value.str (Str.ofString "rmul") 287, val := Value.ref 83 }, { hash := PyData.keyHash P (Str.ofString "rinv"), key := Value.str (Str.ofString "rinv") 294, val := Value.ref 90 }, { hash := PyData.keyHash P (Str.ofString "rpower"), key := Value.str (Str.ofString "rpower") 303, val := Value.ref 97 }, { hash := PyData.keyHash P (Str.ofString "rfloor"), key := Value.str (Str.ofString "rfloor") 310, val := Value.ref 104 }, { hash := PyData.keyHash P (Str.ofString "T_ONE"), key := Value.str (Str.ofString "T_ONE") 316, val := Value.ref 105 }, { hash := PyData.keyHash P (Str.ofString "MOST_NARROW"), key := Value.str (Str.ofString "MOST_NARROW") 318, val := Value.int 100 317 }, { hash := PyData.keyHash P (Str.ofString "is_num"), key := Value.str (Str.ofString "is_num") 325, val := Value.ref 112 }, { hash := PyData.keyHash P (Str.ofString "num_of"), key := Value.str (Str.ofString "num_of") 332, val := Value.ref 119 }, { hash := PyData.keyHash P (Str.ofString "is_whole_num"), key := Value.str (Str.ofString "is_whole_num") 339, val := Value.ref 126 }, { hash := PyData.keyHash P (Str.ofString "inner_terms"), key := Value.str (Str.ofString "inner_terms") 347, val := Value.ref 133 }, { hash := PyData.keyHash P (Str.ofString "with_inner"), key := Value.str (Str.ofString "with_inner") 356, val := Value.ref 140 }, { hash := PyData.keyHash P (Str.ofString "is_too_great"), key := Value.str (Str.ofString "is_too_great") 362, val := Value.ref 145 }, { hash := PyData.keyHash P (Str.ofString "RANKS"), key := Value.str (Str.ofString "RANKS") 389, val := Value.ref 146 }, { hash := PyData.keyHash P (Str.ofString "sign_between"), key := Value.str (Str.ofString "sign_between") 397, val := Value.ref 153 }, { hash := PyData.keyHash P (Str.ofString "compare_values"), key := Value.str (Str.ofString "compare_values") 405, val := Value.ref 160 }, { hash := PyData.keyHash P (Str.ofString "bare_factors"), key := Value.str (Str.ofString "bare_factors") 411, val := Value.ref 165 }, { hash := PyData.keyHash P (Str.ofString "front_value"), key := Value.str (Str.ofString "front_value") 418, val := Value.ref 172 }, { hash := PyData.keyHash P (Str.ofString "base_and_exponent"), key := Value.str (Str.ofString "base_and_exponent") 425, val := Value.ref 179 }, { hash := PyData.keyHash P (Str.ofString "compare_rows"), key := Value.str (Str.ofString "compare_rows") 435, val := Value.ref 186 }, { hash := PyData.keyHash P (Str.ofString "compare_exponents"), key := Value.str (Str.ofString "compare_exponents") 443, val := Value.ref 193 }, { hash := PyData.keyHash P (Str.ofString "compare_bases"), key := Value.str (Str.ofString "compare_bases") 453, val := Value.ref 200 }, { hash := PyData.keyHash P (Str.ofString "compare_factors"), key := Value.str (Str.ofString "compare_factors") 466, val := Value.ref 207 }, { hash := PyData.keyHash P (Str.ofString "compare_terms"), key := Value.str (Str.ofString "compare_terms") 478, val := Value.ref 214 }, { hash := PyData.keyHash P (Str.ofString "merged_terms"), key := Value.str (Str.ofString "merged_terms") 490, val := Value.ref 221 }, { hash := PyData.keyHash P (Str.ofString "sort_terms"), key := Value.str (Str.ofString "sort_terms") 498, val := Value.ref 228 }, { hash := PyData.keyHash P (Str.ofString "ZERO"), key := Value.str (Str.ofString "ZERO") 504, val := Value.ref 229 }, { hash := PyData.keyHash P (Str.ofString "ONE"), key := Value.str (Str.ofString "ONE") 508, val := Value.ref 230 }, { hash := PyData.keyHash P (Str.ofString "MINUS_ONE"), key := Value.str (Str.ofString "MINUS_ONE") 513, val := Value.ref 231 }, { hash := PyData.keyHash P (Str.ofString "HALF"), key := Value.str (Str.ofString "HALF") 517, val := Value.ref 232 }, { hash := PyData.keyHash P (Str.ofString "EXP_ONE"), key := Value.str (Str.ofString "EXP_ONE") 520, val := Value.ref 234 }, { hash := PyData.keyHash P (Str.ofString "MOST_FACTORED"), key := Value.str (Str.ofString "MOST_FACTORED") 524, val := Value.int 1000000 523 }, { hash := PyData.keyHash P (Str.ofString "MOST_FACTORIAL"), key := Value.str (Str.ofString "MOST_FACTORIAL") 526, val := Value.int 200 525 }, { hash := PyData.keyHash P (Str.ofString "ODD_CALLS"), key := Value.str (Str.ofString "ODD_CALLS") 530, val := Value.ref 235 }, { hash := PyData.keyHash P (Str.ofString "number_term"), key := Value.str (Str.ofString "number_term") 537, val := Value.ref 242 }, { hash := PyData.keyHash P (Str.ofString "number_and_rest"), key := Value.str (Str.ofString "number_and_rest") 545, val := Value.ref 249 }, { hash := PyData.keyHash P (Str.ofString "with_number"), key := Value.str (Str.ofString "with_number") 553, val := Value.ref 256 }, { hash := PyData.keyHash P (Str.ofString "flat_parts"), key := Value.str (Str.ofString "flat_parts") 563, val := Value.ref 263 }, { hash := PyData.keyHash P (Str.ofString "gathered_sum"), key := Value.str (Str.ofString "gathered_sum") 569, val := Value.ref 268 }, { hash := PyData.keyHash P (Str.ofString "is_one_call"), key := Value.str (Str.ofString "is_one_call") 577, val := Value.ref 275 }, { hash := PyData.keyHash P (Str.ofString "as_power"), key := Value.str (Str.ofString "as_power") 584, val := Value.ref 282 }, { hash := PyData.keyHash P (Str.ofString "gathered_product"), key := Value.str (Str.ofString "gathered_product") 599, val := Value.ref 289 }, { hash := PyData.keyHash P (Str.ofString "power_of"), key := Value.str (Str.ofString "power_of") 605, val := Value.ref 294 }, { hash := PyData.keyHash P (Str.ofString "split_power"), key := Value.str (Str.ofString "split_power") 616, val := Value.ref 301 }, { hash := PyData.keyHash P (Str.ofString "number_power"), key := Value.str (Str.ofString "number_power") 624, val := Value.ref 308 }, { hash := PyData.keyHash P (Str.ofString "radical_of"), key := Value.str (Str.ofString "radical_of") 641, val := Value.ref 315 }, { hash := PyData.keyHash P (Str.ofString "begins_below"), key := Value.str (Str.ofString "begins_below") 649, val := Value.ref 322 }, { hash := PyData.keyHash P (Str.ofString "negated_term"), key := Value.str (Str.ofString "negated_term") 655, val := Value.ref 327 }, { hash := PyData.keyHash P (Str.ofString "exp_of"), key := Value.str (Str.ofString "exp_of") 667, val := Value.ref 334 }, { hash := PyData.keyHash P (Str.ofString "log_of"), key := Value.str (Str.ofString "log_of") 674, val := Value.ref 341 }, { hash := PyData.keyHash P (Str.ofString "factorial_of"), key := Value.str (Str.ofString "factorial_of") 683, val := Value.ref 348 }, { hash := PyData.keyHash P (Str.ofString "call_of"), key := Value.str (Str.ofString "call_of") 692, val := Value.ref 355 }, { hash := PyData.keyHash P (Str.ofString "simplify"), key := Value.str (Str.ofString "simplify") 698, val := Value.ref 360 }, { hash := PyData.keyHash P (Str.ofString "has_ratio"), key := Value.str (Str.ofString "has_ratio") 706, val := Value.ref 365 }, { hash := PyData.keyHash P (Str.ofString "settled"), key := Value.str (Str.ofString "settled") 712, val := Value.ref 370 }, { hash := PyData.keyHash P (Str.ofString "MOST_PARTS"), key := Value.str (Str.ofString "MOST_PARTS") 716, val := Value.int 6 715 }, { hash := PyData.keyHash P (Str.ofString "MOST_TRIES"), key := Value.str (Str.ofString "MOST_TRIES") 718, val := Value.int 100000 717 }, { hash := PyData.keyHash P (Str.ofString "MOST_LEVELS"), key := Value.str (Str.ofString "MOST_LEVELS") 720, val := Value.int 120 719 }, { hash := PyData.keyHash P (Str.ofString "MOST_TERMS"), key := Value.str (Str.ofString "MOST_TERMS") 722, val := Value.int 20000 721 }, { hash := PyData.keyHash P (Str.ofString "is_blank"), key := Value.str (Str.ofString "is_blank") 729, val := Value.ref 377 }, { hash := PyData.keyHash P (Str.ofString "put_together"), key := Value.str (Str.ofString "put_together") 737, val := Value.ref 384 }, { hash := PyData.keyHash P (Str.ofString "bind_blank"), key := Value.str (Str.ofString "bind_blank") 747, val := Value.ref 391 }, { hash := PyData.keyHash P (Str.ofString "match_rows"), key := Value.str (Str.ofString "match_rows") 762, val := Value.ref 398 }, { hash := PyData.keyHash P (Str.ofString "match_parts"), key := Value.str (Str.ofString "match_parts") 777, val := Value.ref 405 }, { hash := PyData.keyHash P (Str.ofString "blanks_last"), key := Value.str (Str.ofString "blanks_last") 783, val := Value.ref 410 }, { hash := PyData.keyHash P (Str.ofString "match_with"), key := Value.str (Str.ofString "match_with") 794, val := Value.ref 417 }, { hash := PyData.keyHash P (Str.ofString "match"), key := Value.str (Str.ofString "match") 803, val := Value.ref 424 }, { hash := PyData.keyHash P (Str.ofString "put_blanks"), key := Value.str (Str.ofString "put_blanks") 809, val := Value.ref 429 }, { hash := PyData.keyHash P (Str.ofString "not_too_great"), key := Value.str (Str.ofString "not_too_great") 816, val := Value.ref 436 }, { hash := PyData.keyHash P (Str.ofString "rule_at"), key := Value.str (Str.ofString "rule_at") 827, val := Value.ref 443 }, { hash := PyData.keyHash P (Str.ofString "rule_once"), key := Value.str (Str.ofString "rule_once") 841, val := Value.ref 450 }, { hash := PyData.keyHash P (Str.ofString "apply_rules"), key := Value.str (Str.ofString "apply_rules") 852, val := Value.ref 457 }, { hash := PyData.keyHash P (Str.ofString "_law_take"), key := Value.str (Str.ofString "_law_take") 862, val := Value.ref 464 }, { hash := PyData.keyHash P (Str.ofString "_law_within"), key := Value.str (Str.ofString "_law_within") 872, val := Value.ref 471 }, { hash := PyData.keyHash P (Str.ofString "_law_told"), key := Value.str (Str.ofString "_law_told") 882, val := Value.ref 478 }, { hash := PyData.keyHash P (Str.ofString "law"), key := Value.str (Str.ofString "law") 902, val := Value.ref 485 }] 92 } : Obj) ::
  ({ cls := Value.type "module", dict := some 0 } : Obj) ::
  ({ cls := Value.type "module", dict := some 3 } : Obj) ::
  ({ cls := Value.type "dict", data := Data.dict #[] } : Obj) ::
  ({ cls := Value.type "tuple", data := Data.seq #[] } : Obj) ::
  ({ cls := Value.none, data := Data.fields #[] } : Obj) ::
  ({ cls := Value.type "code", data := Data.fields #[Value.str (Str.ofString "<module>") 176, Value.str (Str.ofString "<module>") 177, Value.str (Str.ofString "/claim/cut.py") 178, Value.int 1 0, Value.int 0 0, Value.int 0 0, Value.int 0 0, Value.int 0 0, Value.ref 7, Value.bool false, Value.int 175 0, Value.ref 8, Value.none, Value.none, Value.none, Value.none, Value.int 179 0, Value.int 1 0, Value.str (Str.ofString "/claim/cut.py") 180] } : Obj) ::
  ({ cls := Value.type "frame", slots := #[some (Value.ref 9), some (Value.ref 3), some (Value.ref 3), none, some (Value.str (Str.ofString "__main__") 164), none, some (Value.ref 0)] } : Obj) ::
  ({ cls := Value.type "tuple", data := Data.seq #[] } : Obj) ::
  ({ cls := Value.none, data := Data.fields #[Value.int 2 0, Value.int 0 0, Value.ref 20, Value.int 9 0, Value.int 0 0, Value.ref 40, Value.int 14 0, Value.int 0 0, Value.ref 47, Value.int 21 0, Value.int 0 0, Value.ref 54, Value.int 28 0, Value.int 0 0, Value.ref 61, Value.int 39 0, Value.int 0 0, Value.ref 68, Value.int 44 0, Value.int 0 0, Value.ref 75, Value.int 46 0, Value.int 0 0, Value.ref 82, Value.int 48 0, Value.int 0 0, Value.ref 89, Value.int 50 0, Value.int 0 0, Value.ref 96, Value.int 57 0, Value.int 0 0, Value.ref 103, Value.int 62 0, Value.int 0 0, Value.ref 111, Value.int 64 0, Value.int 0 0, Value.ref 118, Value.int 66 0, Value.int 0 0, Value.ref 125, Value.int 68 0, Value.int 0 0, Value.ref 132, Value.int 75 0, Value.int 0 0, Value.ref 139, Value.int 82 0, Value.int 0 0, Value.ref 144, Value.int 96 0, Value.int 0 0, Value.ref 152, Value.int 100 0, Value.int 0 0, Value.ref 159, Value.int 102 0, Value.int 0 0, Value.ref 164, Value.int 106 0, Value.int 0 0, Value.ref 171, Value.int 110 0, Value.int 0 0, Value.ref 178, Value.int 112 0, Value.int 0 0, Value.ref 185, Value.int 118 0, Value.int 0 0, Value.ref 192, Value.int 124 0, Value.int 0 0, Value.ref 199, Value.int 139 0, Value.int 0 0, Value.ref 206, Value.int 144 0, Value.int 0 0, Value.ref 213, Value.int 156 0, Value.int 0 0, Value.ref 220, Value.int 167 0, Value.int 0 0, Value.ref 227, Value.int 181 0, Value.int 0 0, Value.ref 241, Value.int 183 0, Value.int 0 0, Value.ref 248, Value.int 190 0, Value.int 0 0, Value.ref 255, Value.int 196 0, Value.int 0 0, Value.ref 262, Value.int 201 0, Value.int 0 0, Value.ref 267, Value.int 214 0, Value.int 0 0, Value.ref 274, Value.int 216 0, Value.int 0 0, Value.ref 281, Value.int 222 0, Value.int 0 0, Value.ref 288, Value.int 246 0, Value.int 0 0, Value.ref 293, Value.int 266 0, Value.int 0 0, Value.ref 300, Value.int 271 0, Value.int 0 0, Value.ref 307, Value.int 285 0, Value.int 0 0, Value.ref 314, Value.int 299 0, Value.int 0 0, Value.ref 321, Value.int 302 0, Value.int 0 0, Value.ref 326, Value.int 306 0, Value.int 0 0, Value.ref 333, Value.int 319 0, Value.int 0 0, Value.ref 340, Value.int 327 0, Value.int 0 0, Value.ref 347, Value.int 336 0, Value.int 0 0, Value.ref 354, Value.int 359 0, Value.int 0 0, Value.ref 359, Value.int 376 0, Value.int 0 0, Value.ref 364, Value.int 379 0, Value.int 0 0, Value.ref 369, Value.int 399 0, Value.int 0 0, Value.ref 376, Value.int 401 0, Value.int 0 0, Value.ref 383, Value.int 403 0, Value.int 0 0, Value.ref 390, Value.int 409 0, Value.int 0 0, Value.ref 397, Value.int 419 0, Value.int 0 0, Value.ref 404, Value.int 431 0, Value.int 0 0, Value.ref 409, Value.int 433 0, Value.int 0 0, Value.ref 416, Value.int 453 0, Value.int 0 0, Value.ref 423, Value.int 456 0, Value.int 0 0, Value.ref 428, Value.int 460 0, Value.int 0 0, Value.ref 435, Value.int 464 0, Value.int 0 0, Value.ref 442, Value.int 470 0, Value.int 0 0, Value.ref 449, Value.int 480 0, Value.int 0 0, Value.ref 456, Value.int 489 0, Value.int 0 0, Value.ref 463, Value.int 494 0, Value.int 0 0, Value.ref 470, Value.int 498 0, Value.int 0 0, Value.ref 477, Value.int 503 0, Value.int 0 0, Value.ref 484] } : Obj) ::
  ({ cls := Value.type "code", data := Data.fields #[Value.str (Str.ofString "<module>") 182, Value.str (Str.ofString "<module>") 183, Value.str (Str.ofString "/claim/cut.py") 184, Value.int 1 0, Value.int 0 0, Value.int 0 0, Value.int 0 0, Value.int 0 0, Value.ref 11, Value.bool false, Value.int 181 0, Value.ref 12, Value.none, Value.none, Value.none, Value.none, Value.int 185 0, Value.int 1 0, Value.str (Str.ofString "/claim/cut.py") 186] } : Obj) ::
  ({ cls := Value.type "frame", slots := #[some (Value.ref 13), some (Value.ref 3), some (Value.ref 3), none, some (Value.str (Str.ofString "__main__") 164), none, some (Value.ref 0)] } : Obj) ::
  ({ cls := Value.type "tuple", data := Data.seq #[Value.type "Exception"] } : Obj) ::
  ({ cls := Value.type "builtin_function_or_method", data := Data.fields #[Value.builtin "type.__prepare__", Value.type "type"] } : Obj) ::
  ({ cls := Value.type "dict", data := Data.dict #[{ hash := PyData.keyHash P (Str.ofString "__module__"), key := Value.str (Str.ofString "__module__") 196, val := Value.str (Str.ofString "cas.errors") 187 }, { hash := PyData.keyHash P (Str.ofString "__qualname__"), key := Value.str (Str.ofString "__qualname__") 198, val := Value.str (Str.ofString "CasFail") 197 }, { hash := PyData.keyHash P (Str.ofString "__firstlineno__"), key := Value.str (Str.ofString "__firstlineno__") 200, val := Value.int 2 199 }, { hash := PyData.keyHash P (Str.ofString "__init__"), key := Value.str (Str.ofString "__init__") 209, val := Value.ref 28 }, { hash := PyData.keyHash P (Str.ofString "__static_attributes__"), key := Value.str (Str.ofString "__static_attributes__") 212, val := Value.ref 29 }] 5 } : Obj) ::
  ({ cls := Value.type "tuple", data := Data.seq #[] } : Obj) ::
  ({ cls := Value.none, data := Data.fields #[Value.int 4 0, Value.int 4 0, Value.ref 27] } : Obj) ::
  ({ cls := Value.type "code", data := Data.fields #[Value.str (Str.ofString "CasFail") 191, Value.str (Str.ofString "CasFail") 192, Value.str (Str.ofString "/claim/cut.py") 193, Value.int 2 0, Value.int 0 0, Value.int 0 0, Value.int 0 0, Value.int 0 0, Value.ref 18, Value.bool false, Value.int 181 0, Value.ref 19, Value.none, Value.none, Value.none, Value.none, Value.int 194 0, Value.int 2 0, Value.str (Str.ofString "/claim/cut.py") 195] } : Obj) ::
  ({ cls := Value.type "frame", slots := #[some (Value.ref 20), some (Value.ref 3), some (Value.ref 17), none, some (Value.str (Str.ofString "cas.errors") 187), none, some (Value.ref 0)] } : Obj) ::
  ({ cls := Value.type "tuple", data := Data.seq #[] } : Obj) ::
  ({ cls := Value.none, data := Data.fields #[] } : Obj) ::
  ({ cls := Value.type "tuple", data := Data.seq #[Value.str (Str.ofString "self") 204, Value.str (Str.ofString "kind") 205, Value.str (Str.ofString "text") 206] } : Obj) ::
  ({ cls := Value.type "tuple", data := Data.seq #[] } : Obj) ::
  fnG (Value.none) 0 0 initAt (Str.ofString "CasFail.__init__") (Value.none) (Value.none) (Value.none) (Value.none) (none) (Value.none) (Value.none) (none) (#[]) ::
  ({ cls := Value.type "code", data := Data.fields #[Value.str (Str.ofString "__init__") 201, Value.str (Str.ofString "CasFail.__init__") 202, Value.str (Str.ofString "/claim/cut.py") 203, Value.int 4 0, Value.int 3 0, Value.int 0 0, Value.int 0 0, Value.int 3 0, Value.ref 22, Value.bool true, Value.int 181 0, Value.ref 23, Value.none, Value.ref 24, Value.ref 25, Value.ref 26, Value.int 207 0, Value.int 4 0, Value.str (Str.ofString "/claim/cut.py") 208] } : Obj) ::
  fnG (Value.type "function") 3 0 initAt (Str.ofString "CasFail.__init__") (Value.none) (Value.none) (Value.none) (Value.str (Str.ofString "cas.errors") 187) (none) (Value.ref 27) (Value.none) (none) (#[]) ::
  ({ cls := Value.type "tuple", data := Data.seq #[Value.str (Str.ofString "kind") 210, Value.str (Str.ofString "text") 211] } : Obj) ::
  ({ cls := Value.type "dict", data := Data.dict #[{ hash := PyData.keyHash P (Str.ofString "__module__"), key := Value.str (Str.ofString "__module__") 196, val := Value.str (Str.ofString "cas.errors") 187 }, { hash := PyData.keyHash P (Str.ofString "__firstlineno__"), key := Value.str (Str.ofString "__firstlineno__") 200, val := Value.int 2 199 }, { hash := PyData.keyHash P (Str.ofString "__init__"), key := Value.str (Str.ofString "__init__") 209, val := Value.ref 28 }, { hash := PyData.keyHash P (Str.ofString "__static_attributes__"), key := Value.str (Str.ofString "__static_attributes__") 212, val := Value.ref 29 }, { hash := PyData.keyHash P (Str.ofString "__weakref__"), key := Value.str (Str.ofString "__weakref__") 214, val := Value.ref 32 }, { hash := PyData.keyHash P (Str.ofString "__doc__"), key := Value.str (Str.ofString "__doc__") 215, val := Value.none }] 3 } : Obj) ::
  ({ cls := Value.type "type", data := Data.cls { name := Str.ofString "CasFail", bases := [Value.type "Exception"], mro := [Value.ref 31, Value.type "Exception", Value.type "BaseException", Value.type "object"], ns := 30, qualname := Str.ofString "CasFail" }, slots := #[some (Value.ref 15), none, some (Value.str (Str.ofString "CasFail") 189), some (Value.str (Str.ofString "CasFail") 197), some (Value.builtin "Exception.__new__"), some (Value.bool true)] } : Obj) ::
  ({ cls := Value.type "getset_descriptor", data := Data.fields #[Value.str (Str.ofString "__weakref__") 213, Value.ref 31, Value.builtin "ExceptionGroup.__weakref__", Value.none] } : Obj) ::
  ({ cls := Value.type "super", data := Data.fields #[Value.ref 31, Value.ref 31, Value.ref 31] } : Obj) ::
  ({ cls := Value.type "builtin_function_or_method", data := Data.fields #[Value.builtin "object.__init_subclass__", Value.ref 31] } : Obj) ::
  ({ cls := Value.type "tuple", data := Data.seq #[] } : Obj) ::
  ({ cls := Value.none, data := Data.fields #[] } : Obj) ::
  ({ cls := Value.type "tuple", data := Data.seq #[Value.str (Str.ofString "a") 225, Value.str (Str.ofString "b") 226] } : Obj) ::
  ({ cls := Value.type "tuple", data := Data.seq #[] } : Obj) ::
  fnG (Value.none) 0 0 (stAt 3) (Str.ofString "gcd") (Value.none) (Value.none) (Value.none) (Value.none) (none) (Value.none) (Value.none) (none) (#[]) ::
  ({ cls := Value.type "code", data := Data.fields #[Value.str (Str.ofString "gcd") 222, Value.str (Str.ofString "gcd") 223, Value.str (Str.ofString "/claim/cut.py") 224, Value.int 9 0, Value.int 2 0, Value.int 0 0, Value.int 0 0, Value.int 3 0, Value.ref 35, Value.bool true, Value.int 181 0, Value.ref 36, Value.none, Value.ref 37, Value.ref 38, Value.ref 39, Value.int 227 0, Value.int 9 0, Value.str (Str.ofString "/claim/cut.py") 228] } : Obj) ::
  fnG (Value.type "function") 3 0 (stAt 3) (Str.ofString "gcd") (Value.none) (Value.none) (Value.none) (Value.str (Str.ofString "cas.ints") 220) (none) (Value.ref 40) (Value.none) (none) (#[]) ::
  ({ cls := Value.type "tuple", data := Data.seq #[] } : Obj) ::
  ({ cls := Value.none, data := Data.fields #[] } : Obj) ::
  ({ cls := Value.type "tuple", data := Data.seq #[Value.str (Str.ofString "n") 233, Value.str (Str.ofString "found") 234, Value.str (Str.ofString "many") 235, Value.str (Str.ofString "step") 236] } : Obj) ::
  ({ cls := Value.type "tuple", data := Data.seq #[] } : Obj) ::
  fnG (Value.none) 0 0 (stAt 4) (Str.ofString "bits_of") (Value.none) (Value.none) (Value.none) (Value.none) (none) (Value.none) (Value.none) (none) (#[]) ::
  ({ cls := Value.type "code", data := Data.fields #[Value.str (Str.ofString "bits_of") 230, Value.str (Str.ofString "bits_of") 231, Value.str (Str.ofString "/claim/cut.py") 232, Value.int 14 0, Value.int 1 0, Value.int 0 0, Value.int 0 0, Value.int 3 0, Value.ref 42, Value.bool true, Value.int 181 0, Value.ref 43, Value.none, Value.ref 44, Value.ref 45, Value.ref 46, Value.int 237 0, Value.int 14 0, Value.str (Str.ofString "/claim/cut.py") 238] } : Obj) ::
  fnG (Value.type "function") 3 0 (stAt 4) (Str.ofString "bits_of") (Value.none) (Value.none) (Value.none) (Value.str (Str.ofString "cas.ints") 220) (none) (Value.ref 47) (Value.none) (none) (#[]) ::
  ({ cls := Value.type "tuple", data := Data.seq #[] } : Obj) ::
  ({ cls := Value.none, data := Data.fields #[] } : Obj) ::
  ({ cls := Value.type "tuple", data := Data.seq #[Value.str (Str.ofString "n") 243, Value.str (Str.ofString "begin") 244, Value.str (Str.ofString "found") 245] } : Obj) ::
  ({ cls := Value.type "tuple", data := Data.seq #[] } : Obj) ::
  fnG (Value.none) 0 0 (stAt 5) (Str.ofString "least_divisor") (Value.none) (Value.none) (Value.none) (Value.none) (none) (Value.none) (Value.none) (none) (#[]) ::
  ({ cls := Value.type "code", data := Data.fields #[Value.str (Str.ofString "least_divisor") 240, Value.str (Str.ofString "least_divisor") 241, Value.str (Str.ofString "/claim/cut.py") 242, Value.int 21 0, Value.int 2 0, Value.int 0 0, Value.int 0 0, Value.int 3 0, Value.ref 49, Value.bool true, Value.int 181 0, Value.ref 50, Value.none, Value.ref 51, Value.ref 52, Value.ref 53, Value.int 246 0, Value.int 21 0, Value.str (Str.ofString "/claim/cut.py") 247] } : Obj) ::
  fnG (Value.type "function") 3 0 (stAt 5) (Str.ofString "least_divisor") (Value.none) (Value.none) (Value.none) (Value.str (Str.ofString "cas.ints") 220) (none) (Value.ref 54) (Value.none) (none) (#[]) ::
  ({ cls := Value.type "tuple", data := Data.seq #[] } : Obj) ::
  ({ cls := Value.none, data := Data.fields #[] } : Obj) ::
  ({ cls := Value.type "tuple", data := Data.seq #[Value.str (Str.ofString "n") 252, Value.str (Str.ofString "found") 253, Value.str (Str.ofString "prime") 254, Value.str (Str.ofString "many") 255] } : Obj) ::
  ({ cls := Value.type "tuple", data := Data.seq #[] } : Obj) ::
  fnG (Value.none) 0 0 (stAt 6) (Str.ofString "prime_factors") (Value.none) (Value.none) (Value.none) (Value.none) (none) (Value.none) (Value.none) (none) (#[]) ::
  ({ cls := Value.type "code", data := Data.fields #[Value.str (Str.ofString "prime_factors") 249, Value.str (Str.ofString "prime_factors") 250, Value.str (Str.ofString "/claim/cut.py") 251, Value.int 28 0, Value.int 1 0, Value.int 0 0, Value.int 0 0, Value.int 3 0, Value.ref 56, Value.bool true, Value.int 181 0, Value.ref 57, Value.none, Value.ref 58, Value.ref 59, Value.ref 60, Value.int 256 0, Value.int 28 0, Value.str (Str.ofString "/claim/cut.py") 257] } : Obj) ::
  fnG (Value.type "function") 3 0 (stAt 6) (Str.ofString "prime_factors") (Value.none) (Value.none) (Value.none) (Value.str (Str.ofString "cas.ints") 220) (none) (Value.ref 61) (Value.none) (none) (#[]) ::
  ({ cls := Value.type "tuple", data := Data.seq #[] } : Obj) ::
  ({ cls := Value.none, data := Data.fields #[] } : Obj) ::
  ({ cls := Value.type "tuple", data := Data.seq #[Value.str (Str.ofString "top") 266, Value.str (Str.ofString "bottom") 267, Value.str (Str.ofString "g") 268] } : Obj) ::
  ({ cls := Value.type "tuple", data := Data.seq #[] } : Obj) ::
  fnG (Value.none) 0 0 (stAt 9) (Str.ofString "rat") (Value.none) (Value.none) (Value.none) (Value.none) (none) (Value.none) (Value.none) (none) (#[]) ::
  ({ cls := Value.type "code", data := Data.fields #[Value.str (Str.ofString "rat") 263, Value.str (Str.ofString "rat") 264, Value.str (Str.ofString "/claim/cut.py") 265, Value.int 39 0, Value.int 2 0, Value.int 0 0, Value.int 0 0, Value.int 3 0, Value.ref 63, Value.bool true, Value.int 181 0, Value.ref 64, Value.none, Value.ref 65, Value.ref 66, Value.ref 67, Value.int 269 0, Value.int 39 0, Value.str (Str.ofString "/claim/cut.py") 270] } : Obj) ::
  fnG (Value.type "function") 3 0 (stAt 9) (Str.ofString "rat") (Value.none) (Value.none) (Value.none) (Value.str (Str.ofString "cas.rats") 259) (none) (Value.ref 68) (Value.none) (none) (#[]) ::
  ({ cls := Value.type "tuple", data := Data.seq #[] } : Obj) ::
  ({ cls := Value.none, data := Data.fields #[] } : Obj) ::
  ({ cls := Value.type "tuple", data := Data.seq #[Value.str (Str.ofString "a") 275, Value.str (Str.ofString "b") 276] } : Obj) ::
  ({ cls := Value.type "tuple", data := Data.seq #[] } : Obj) ::
  fnG (Value.none) 0 0 (stAt 10) (Str.ofString "radd") (Value.none) (Value.none) (Value.none) (Value.none) (none) (Value.none) (Value.none) (none) (#[]) ::
  ({ cls := Value.type "code", data := Data.fields #[Value.str (Str.ofString "radd") 272, Value.str (Str.ofString "radd") 273, Value.str (Str.ofString "/claim/cut.py") 274, Value.int 44 0, Value.int 2 0, Value.int 0 0, Value.int 0 0, Value.int 3 0, Value.ref 70, Value.bool true, Value.int 181 0, Value.ref 71, Value.none, Value.ref 72, Value.ref 73, Value.ref 74, Value.int 277 0, Value.int 44 0, Value.str (Str.ofString "/claim/cut.py") 278] } : Obj) ::
  fnG (Value.type "function") 3 0 (stAt 10) (Str.ofString "radd") (Value.none) (Value.none) (Value.none) (Value.str (Str.ofString "cas.rats") 259) (none) (Value.ref 75) (Value.none) (none) (#[]) ::
  ({ cls := Value.type "tuple", data := Data.seq #[] } : Obj) ::
  ({ cls := Value.none, data := Data.fields #[] } : Obj) ::
  ({ cls := Value.type "tuple", data := Data.seq #[Value.str (Str.ofString "a") 283, Value.str (Str.ofString "b") 284] } : Obj) ::
  ({ cls := Value.type "tuple", data := Data.seq #[] } : Obj) ::
  fnG (Value.none) 0 0 (stAt 11) (Str.ofString "rmul") (Value.none) (Value.none) (Value.none) (Value.none) (none) (Value.none) (Value.none) (none) (#[]) ::
  ({ cls := Value.type "code", data := Data.fields #[Value.str (Str.ofString "rmul") 280, Value.str (Str.ofString "rmul") 281, Value.str (Str.ofString "/claim/cut.py") 282, Value.int 46 0, Value.int 2 0, Value.int 0 0, Value.int 0 0, Value.int 3 0, Value.ref 77, Value.bool true, Value.int 181 0, Value.ref 78, Value.none, Value.ref 79, Value.ref 80, Value.ref 81, Value.int 285 0, Value.int 46 0, Value.str (Str.ofString "/claim/cut.py") 286] } : Obj) ::
  fnG (Value.type "function") 3 0 (stAt 11) (Str.ofString "rmul") (Value.none) (Value.none) (Value.none) (Value.str (Str.ofString "cas.rats") 259) (none) (Value.ref 82) (Value.none) (none) (#[]) ::
  ({ cls := Value.type "tuple", data := Data.seq #[] } : Obj) ::
  ({ cls := Value.none, data := Data.fields #[] } : Obj) ::
  ({ cls := Value.type "tuple", data := Data.seq #[Value.str (Str.ofString "a") 291] } : Obj) ::
  ({ cls := Value.type "tuple", data := Data.seq #[] } : Obj) ::
  fnG (Value.none) 0 0 (stAt 12) (Str.ofString "rinv") (Value.none) (Value.none) (Value.none) (Value.none) (none) (Value.none) (Value.none) (none) (#[]) ::
  ({ cls := Value.type "code", data := Data.fields #[Value.str (Str.ofString "rinv") 288, Value.str (Str.ofString "rinv") 289, Value.str (Str.ofString "/claim/cut.py") 290, Value.int 48 0, Value.int 1 0, Value.int 0 0, Value.int 0 0, Value.int 3 0, Value.ref 84, Value.bool true, Value.int 181 0, Value.ref 85, Value.none, Value.ref 86, Value.ref 87, Value.ref 88, Value.int 292 0, Value.int 48 0, Value.str (Str.ofString "/claim/cut.py") 293] } : Obj) ::
  fnG (Value.type "function") 3 0 (stAt 12) (Str.ofString "rinv") (Value.none) (Value.none) (Value.none) (Value.str (Str.ofString "cas.rats") 259) (none) (Value.ref 89) (Value.none) (none) (#[]) ::
  ({ cls := Value.type "tuple", data := Data.seq #[] } : Obj) ::
  ({ cls := Value.none, data := Data.fields #[] } : Obj) ::
  ({ cls := Value.type "tuple", data := Data.seq #[Value.str (Str.ofString "a") 298, Value.str (Str.ofString "n") 299, Value.str (Str.ofString "greatest") 300] } : Obj) ::
  ({ cls := Value.type "tuple", data := Data.seq #[] } : Obj) ::
  fnG (Value.none) 0 0 (stAt 13) (Str.ofString "rpower") (Value.none) (Value.none) (Value.none) (Value.none) (none) (Value.none) (Value.none) (none) (#[]) ::
  ({ cls := Value.type "code", data := Data.fields #[Value.str (Str.ofString "rpower") 295, Value.str (Str.ofString "rpower") 296, Value.str (Str.ofString "/claim/cut.py") 297, Value.int 50 0, Value.int 2 0, Value.int 0 0, Value.int 0 0, Value.int 3 0, Value.ref 91, Value.bool true, Value.int 181 0, Value.ref 92, Value.none, Value.ref 93, Value.ref 94, Value.ref 95, Value.int 301 0, Value.int 50 0, Value.str (Str.ofString "/claim/cut.py") 302] } : Obj) ::
  fnG (Value.type "function") 3 0 (stAt 13) (Str.ofString "rpower") (Value.none) (Value.none) (Value.none) (Value.str (Str.ofString "cas.rats") 259) (none) (Value.ref 96) (Value.none) (none) (#[]) ::
  ({ cls := Value.type "tuple", data := Data.seq #[] } : Obj) ::
  ({ cls := Value.none, data := Data.fields #[] } : Obj) ::
  ({ cls := Value.type "tuple", data := Data.seq #[Value.str (Str.ofString "a") 307] } : Obj) ::
  ({ cls := Value.type "tuple", data := Data.seq #[] } : Obj) ::
  fnG (Value.none) 0 0 (stAt 14) (Str.ofString "rfloor") (Value.none) (Value.none) (Value.none) (Value.none) (none) (Value.none) (Value.none) (none) (#[]) ::
  ({ cls := Value.type "code", data := Data.fields #[Value.str (Str.ofString "rfloor") 304, Value.str (Str.ofString "rfloor") 305, Value.str (Str.ofString "/claim/cut.py") 306, Value.int 57 0, Value.int 1 0, Value.int 0 0, Value.int 0 0, Value.int 3 0, Value.ref 98, Value.bool true, Value.int 181 0, Value.ref 99, Value.none, Value.ref 100, Value.ref 101, Value.ref 102, Value.int 308 0, Value.int 57 0, Value.str (Str.ofString "/claim/cut.py") 309] } : Obj) ::
  fnG (Value.type "function") 3 0 (stAt 14) (Str.ofString "rfloor") (Value.none) (Value.none) (Value.none) (Value.str (Str.ofString "cas.rats") 259) (none) (Value.ref 103) (Value.none) (none) (#[]) ::
  ({ cls := Value.type "tuple", data := Data.seq #[Value.str (Str.ofString "num") 313, Value.int 1 314, Value.int 1 315] } : Obj) ::
  ({ cls := Value.type "tuple", data := Data.seq #[] } : Obj) ::
  ({ cls := Value.none, data := Data.fields #[] } : Obj) ::
  ({ cls := Value.type "tuple", data := Data.seq #[Value.str (Str.ofString "term") 322] } : Obj) ::
  ({ cls := Value.type "tuple", data := Data.seq #[] } : Obj) ::
  fnG (Value.none) 0 0 (stAt 18) (Str.ofString "is_num") (Value.none) (Value.none) (Value.none) (Value.none) (none) (Value.none) (Value.none) (none) (#[]) ::
  ({ cls := Value.type "code", data := Data.fields #[Value.str (Str.ofString "is_num") 319, Value.str (Str.ofString "is_num") 320, Value.str (Str.ofString "/claim/cut.py") 321, Value.int 62 0, Value.int 1 0, Value.int 0 0, Value.int 0 0, Value.int 3 0, Value.ref 106, Value.bool true, Value.int 181 0, Value.ref 107, Value.none, Value.ref 108, Value.ref 109, Value.ref 110, Value.int 323 0, Value.int 62 0, Value.str (Str.ofString "/claim/cut.py") 324] } : Obj) ::
  fnG (Value.type "function") 3 0 (stAt 18) (Str.ofString "is_num") (Value.none) (Value.none) (Value.none) (Value.str (Str.ofString "cas.terms") 311) (none) (Value.ref 111) (Value.none) (none) (#[]) ::
  ({ cls := Value.type "tuple", data := Data.seq #[] } : Obj) ::
  ({ cls := Value.none, data := Data.fields #[] } : Obj) ::
  ({ cls := Value.type "tuple", data := Data.seq #[Value.str (Str.ofString "term") 329] } : Obj) ::
  ({ cls := Value.type "tuple", data := Data.seq #[] } : Obj) ::
  fnG (Value.none) 0 0 (stAt 19) (Str.ofString "num_of") (Value.none) (Value.none) (Value.none) (Value.none) (none) (Value.none) (Value.none) (none) (#[]) ::
  ({ cls := Value.type "code", data := Data.fields #[Value.str (Str.ofString "num_of") 326, Value.str (Str.ofString "num_of") 327, Value.str (Str.ofString "/claim/cut.py") 328, Value.int 64 0, Value.int 1 0, Value.int 0 0, Value.int 0 0, Value.int 3 0, Value.ref 113, Value.bool true, Value.int 181 0, Value.ref 114, Value.none, Value.ref 115, Value.ref 116, Value.ref 117, Value.int 330 0, Value.int 64 0, Value.str (Str.ofString "/claim/cut.py") 331] } : Obj) ::
  fnG (Value.type "function") 3 0 (stAt 19) (Str.ofString "num_of") (Value.none) (Value.none) (Value.none) (Value.str (Str.ofString "cas.terms") 311) (none) (Value.ref 118) (Value.none) (none) (#[]) ::
  ({ cls := Value.type "tuple", data := Data.seq #[] } : Obj) ::
  ({ cls := Value.none, data := Data.fields #[] } : Obj) ::
  ({ cls := Value.type "tuple", data := Data.seq #[Value.str (Str.ofString "term") 336] } : Obj) ::
  ({ cls := Value.type "tuple", data := Data.seq #[] } : Obj) ::
  fnG (Value.none) 0 0 (stAt 20) (Str.ofString "is_whole_num") (Value.none) (Value.none) (Value.none) (Value.none) (none) (Value.none) (Value.none) (none) (#[]) ::
  ({ cls := Value.type "code", data := Data.fields #[Value.str (Str.ofString "is_whole_num") 333, Value.str (Str.ofString "is_whole_num") 334, Value.str (Str.ofString "/claim/cut.py") 335, Value.int 66 0, Value.int 1 0, Value.int 0 0, Value.int 0 0, Value.int 3 0, Value.ref 120, Value.bool true, Value.int 181 0, Value.ref 121, Value.none, Value.ref 122, Value.ref 123, Value.ref 124, Value.int 337 0, Value.int 66 0, Value.str (Str.ofString "/claim/cut.py") 338] } : Obj) ::
  fnG (Value.type "function") 3 0 (stAt 20) (Str.ofString "is_whole_num") (Value.none) (Value.none) (Value.none) (Value.str (Str.ofString "cas.terms") 311) (none) (Value.ref 125) (Value.none) (none) (#[]) ::
  ({ cls := Value.type "tuple", data := Data.seq #[] } : Obj) ::
  ({ cls := Value.none, data := Data.fields #[] } : Obj) ::
  ({ cls := Value.type "tuple", data := Data.seq #[Value.str (Str.ofString "term") 343, Value.str (Str.ofString "kind") 344] } : Obj) ::
  ({ cls := Value.type "tuple", data := Data.seq #[] } : Obj) ::
  fnG (Value.none) 0 0 (stAt 21) (Str.ofString "inner_terms") (Value.none) (Value.none) (Value.none) (Value.none) (none) (Value.none) (Value.none) (none) (#[]) ::
  ({ cls := Value.type "code", data := Data.fields #[Value.str (Str.ofString "inner_terms") 340, Value.str (Str.ofString "inner_terms") 341, Value.str (Str.ofString "/claim/cut.py") 342, Value.int 68 0, Value.int 1 0, Value.int 0 0, Value.int 0 0, Value.int 3 0, Value.ref 127, Value.bool true, Value.int 181 0, Value.ref 128, Value.none, Value.ref 129, Value.ref 130, Value.ref 131, Value.int 345 0, Value.int 68 0, Value.str (Str.ofString "/claim/cut.py") 346] } : Obj) ::
  fnG (Value.type "function") 3 0 (stAt 21) (Str.ofString "inner_terms") (Value.none) (Value.none) (Value.none) (Value.str (Str.ofString "cas.terms") 311) (none) (Value.ref 132) (Value.none) (none) (#[]) ::
  ({ cls := Value.type "tuple", data := Data.seq #[] } : Obj) ::
  ({ cls := Value.none, data := Data.fields #[] } : Obj) ::
  ({ cls := Value.type "tuple", data := Data.seq #[Value.str (Str.ofString "term") 351, Value.str (Str.ofString "some_terms") 352, Value.str (Str.ofString "kind") 353] } : Obj) ::
  ({ cls := Value.type "tuple", data := Data.seq #[] } : Obj) ::
  fnG (Value.none) 0 0 (stAt 22) (Str.ofString "with_inner") (Value.none) (Value.none) (Value.none) (Value.none) (none) (Value.none) (Value.none) (none) (#[]) ::
  ({ cls := Value.type "code", data := Data.fields #[Value.str (Str.ofString "with_inner") 348, Value.str (Str.ofString "with_inner") 349, Value.str (Str.ofString "/claim/cut.py") 350, Value.int 75 0, Value.int 2 0, Value.int 0 0, Value.int 0 0, Value.int 3 0, Value.ref 134, Value.bool true, Value.int 181 0, Value.ref 135, Value.none, Value.ref 136, Value.ref 137, Value.ref 138, Value.int 354 0, Value.int 75 0, Value.str (Str.ofString "/claim/cut.py") 355] } : Obj) ::
  fnG (Value.type "function") 3 0 (stAt 22) (Str.ofString "with_inner") (Value.none) (Value.none) (Value.none) (Value.str (Str.ofString "cas.terms") 311) (none) (Value.ref 139) (Value.none) (none) (#[]) ::
  ({ cls := Value.type "tuple", data := Data.seq #[] } : Obj) ::
  ({ cls := Value.none, data := Data.fields #[] } : Obj) ::
  fnG (Value.none) 0 0 (stAt 23) (Str.ofString "is_too_great") (Value.none) (Value.none) (Value.none) (Value.none) (none) (Value.none) (Value.none) (none) (#[]) ::
  ({ cls := Value.type "code", data := Data.fields #[Value.str (Str.ofString "is_too_great") 357, Value.str (Str.ofString "is_too_great") 358, Value.str (Str.ofString "/claim/cut.py") 359, Value.int 82 0, Value.int 3 0, Value.int 0 0, Value.int 0 0, Value.int 3 0, Value.ref 141, Value.bool true, Value.int 181 0, Value.ref 142, Value.none, Value.none, Value.none, Value.ref 143, Value.int 360 0, Value.int 82 0, Value.str (Str.ofString "/claim/cut.py") 361] } : Obj) ::
  fnG (Value.type "function") 3 0 (stAt 23) (Str.ofString "is_too_great") (Value.none) (Value.none) (Value.none) (Value.str (Str.ofString "cas.terms") 311) (none) (Value.ref 144) (Value.none) (none) (#[]) ::
  ({ cls := Value.type "dict", data := Data.dict #[{ hash := PyData.keyHash P (Str.ofString "sym"), key := Value.str (Str.ofString "sym") 365, val := Value.int 0 366 }, { hash := PyData.keyHash P (Str.ofString "call"), key := Value.str (Str.ofString "call") 367, val := Value.int 1 368 }, { hash := PyData.keyHash P (Str.ofString "sum"), key := Value.str (Str.ofString "sum") 369, val := Value.int 2 370 }, { hash := PyData.keyHash P (Str.ofString "prod"), key := Value.str (Str.ofString "prod") 371, val := Value.int 3 372 }, { hash := PyData.keyHash P (Str.ofString "num"), key := Value.str (Str.ofString "num") 373, val := Value.int 4 374 }, { hash := PyData.keyHash P (Str.ofString "pow"), key := Value.str (Str.ofString "pow") 375, val := Value.int 5 376 }, { hash := PyData.keyHash P (Str.ofString "eq"), key := Value.str (Str.ofString "eq") 377, val := Value.int 6 378 }, { hash := PyData.keyHash P (Str.ofString "list"), key := Value.str (Str.ofString "list") 379, val := Value.int 7 380 }] 8 } : Obj) ::
  ({ cls := Value.type "tuple", data := Data.seq #[] } : Obj) ::
  ({ cls := Value.none, data := Data.fields #[] } : Obj) ::
  ({ cls := Value.type "tuple", data := Data.seq #[Value.str (Str.ofString "one") 393, Value.str (Str.ofString "other") 394] } : Obj) ::
  ({ cls := Value.type "tuple", data := Data.seq #[] } : Obj) ::
  fnG (Value.none) 0 0 (stAt 26) (Str.ofString "sign_between") (Value.none) (Value.none) (Value.none) (Value.none) (none) (Value.none) (Value.none) (none) (#[]) ::
  ({ cls := Value.type "code", data := Data.fields #[Value.str (Str.ofString "sign_between") 390, Value.str (Str.ofString "sign_between") 391, Value.str (Str.ofString "/claim/cut.py") 392, Value.int 96 0, Value.int 2 0, Value.int 0 0, Value.int 0 0, Value.int 3 0, Value.ref 147, Value.bool true, Value.int 181 0, Value.ref 148, Value.none, Value.ref 149, Value.ref 150, Value.ref 151, Value.int 395 0, Value.int 96 0, Value.str (Str.ofString "/claim/cut.py") 396] } : Obj) ::
  fnG (Value.type "function") 3 0 (stAt 26) (Str.ofString "sign_between") (Value.none) (Value.none) (Value.none) (Value.str (Str.ofString "cas.termorder") 363) (none) (Value.ref 152) (Value.none) (none) (#[]) ::
  ({ cls := Value.type "tuple", data := Data.seq #[] } : Obj) ::
  ({ cls := Value.none, data := Data.fields #[] } : Obj) ::
  ({ cls := Value.type "tuple", data := Data.seq #[Value.str (Str.ofString "one") 401, Value.str (Str.ofString "other") 402] } : Obj) ::
  ({ cls := Value.type "tuple", data := Data.seq #[] } : Obj) ::
  fnG (Value.none) 0 0 (stAt 27) (Str.ofString "compare_values") (Value.none) (Value.none) (Value.none) (Value.none) (none) (Value.none) (Value.none) (none) (#[]) ::
  ({ cls := Value.type "code", data := Data.fields #[Value.str (Str.ofString "compare_values") 398, Value.str (Str.ofString "compare_values") 399, Value.str (Str.ofString "/claim/cut.py") 400, Value.int 100 0, Value.int 2 0, Value.int 0 0, Value.int 0 0, Value.int 3 0, Value.ref 154, Value.bool true, Value.int 181 0, Value.ref 155, Value.none, Value.ref 156, Value.ref 157, Value.ref 158, Value.int 403 0, Value.int 100 0, Value.str (Str.ofString "/claim/cut.py") 404] } : Obj) ::
  fnG (Value.type "function") 3 0 (stAt 27) (Str.ofString "compare_values") (Value.none) (Value.none) (Value.none) (Value.str (Str.ofString "cas.termorder") 363) (none) (Value.ref 159) (Value.none) (none) (#[]) ::
  ({ cls := Value.type "tuple", data := Data.seq #[] } : Obj) ::
  ({ cls := Value.none, data := Data.fields #[] } : Obj) ::
  fnG (Value.none) 0 0 (stAt 28) (Str.ofString "bare_factors") (Value.none) (Value.none) (Value.none) (Value.none) (none) (Value.none) (Value.none) (none) (#[]) ::
  ({ cls := Value.type "code", data := Data.fields #[Value.str (Str.ofString "bare_factors") 406, Value.str (Str.ofString "bare_factors") 407, Value.str (Str.ofString "/claim/cut.py") 408, Value.int 102 0, Value.int 1 0, Value.int 0 0, Value.int 0 0, Value.int 3 0, Value.ref 161, Value.bool true, Value.int 181 0, Value.ref 162, Value.none, Value.none, Value.none, Value.ref 163, Value.int 409 0, Value.int 102 0, Value.str (Str.ofString "/claim/cut.py") 410] } : Obj) ::
  fnG (Value.type "function") 3 0 (stAt 28) (Str.ofString "bare_factors") (Value.none) (Value.none) (Value.none) (Value.str (Str.ofString "cas.termorder") 363) (none) (Value.ref 164) (Value.none) (none) (#[]) ::
  ({ cls := Value.type "tuple", data := Data.seq #[] } : Obj) ::
  ({ cls := Value.none, data := Data.fields #[] } : Obj) ::
  ({ cls := Value.type "tuple", data := Data.seq #[Value.str (Str.ofString "term") 415] } : Obj) ::
  ({ cls := Value.type "tuple", data := Data.seq #[] } : Obj) ::
  fnG (Value.none) 0 0 (stAt 29) (Str.ofString "front_value") (Value.none) (Value.none) (Value.none) (Value.none) (none) (Value.none) (Value.none) (none) (#[]) ::
  ({ cls := Value.type "code", data := Data.fields #[Value.str (Str.ofString "front_value") 412, Value.str (Str.ofString "front_value") 413, Value.str (Str.ofString "/claim/cut.py") 414, Value.int 106 0, Value.int 1 0, Value.int 0 0, Value.int 0 0, Value.int 3 0, Value.ref 166, Value.bool true, Value.int 181 0, Value.ref 167, Value.none, Value.ref 168, Value.ref 169, Value.ref 170, Value.int 416 0, Value.int 106 0, Value.str (Str.ofString "/claim/cut.py") 417] } : Obj) ::
  fnG (Value.type "function") 3 0 (stAt 29) (Str.ofString "front_value") (Value.none) (Value.none) (Value.none) (Value.str (Str.ofString "cas.termorder") 363) (none) (Value.ref 171) (Value.none) (none) (#[]) ::
  ({ cls := Value.type "tuple", data := Data.seq #[] } : Obj) ::
  ({ cls := Value.none, data := Data.fields #[] } : Obj) ::
  ({ cls := Value.type "tuple", data := Data.seq #[Value.str (Str.ofString "term") 422] } : Obj) ::
  ({ cls := Value.type "tuple", data := Data.seq #[] } : Obj) ::
  fnG (Value.none) 0 0 (stAt 30) (Str.ofString "base_and_exponent") (Value.none) (Value.none) (Value.none) (Value.none) (none) (Value.none) (Value.none) (none) (#[]) ::
  ({ cls := Value.type "code", data := Data.fields #[Value.str (Str.ofString "base_and_exponent") 419, Value.str (Str.ofString "base_and_exponent") 420, Value.str (Str.ofString "/claim/cut.py") 421, Value.int 110 0, Value.int 1 0, Value.int 0 0, Value.int 0 0, Value.int 3 0, Value.ref 173, Value.bool true, Value.int 181 0, Value.ref 174, Value.none, Value.ref 175, Value.ref 176, Value.ref 177, Value.int 423 0, Value.int 110 0, Value.str (Str.ofString "/claim/cut.py") 424] } : Obj) ::
  fnG (Value.type "function") 3 0 (stAt 30) (Str.ofString "base_and_exponent") (Value.none) (Value.none) (Value.none) (Value.str (Str.ofString "cas.termorder") 363) (none) (Value.ref 178) (Value.none) (none) (#[]) ::
  ({ cls := Value.type "tuple", data := Data.seq #[] } : Obj) ::
  ({ cls := Value.none, data := Data.fields #[] } : Obj) ::
  ({ cls := Value.type "tuple", data := Data.seq #[Value.str (Str.ofString "ones") 429, Value.str (Str.ofString "others") 430, Value.str (Str.ofString "at") 431, Value.str (Str.ofString "found") 432] } : Obj) ::
  ({ cls := Value.type "tuple", data := Data.seq #[] } : Obj) ::
  fnG (Value.none) 0 0 (stAt 31) (Str.ofString "compare_rows") (Value.none) (Value.none) (Value.none) (Value.none) (none) (Value.none) (Value.none) (none) (#[]) ::
  ({ cls := Value.type "code", data := Data.fields #[Value.str (Str.ofString "compare_rows") 426, Value.str (Str.ofString "compare_rows") 427, Value.str (Str.ofString "/claim/cut.py") 428, Value.int 112 0, Value.int 2 0, Value.int 0 0, Value.int 0 0, Value.int 3 0, Value.ref 180, Value.bool true, Value.int 181 0, Value.ref 181, Value.none, Value.ref 182, Value.ref 183, Value.ref 184, Value.int 433 0, Value.int 112 0, Value.str (Str.ofString "/claim/cut.py") 434] } : Obj) ::
  fnG (Value.type "function") 3 0 (stAt 31) (Str.ofString "compare_rows") (Value.none) (Value.none) (Value.none) (Value.str (Str.ofString "cas.termorder") 363) (none) (Value.ref 185) (Value.none) (none) (#[]) ::
  ({ cls := Value.type "tuple", data := Data.seq #[] } : Obj) ::
  ({ cls := Value.none, data := Data.fields #[] } : Obj) ::
  ({ cls := Value.type "tuple", data := Data.seq #[Value.str (Str.ofString "one") 439, Value.str (Str.ofString "other") 440] } : Obj) ::
  ({ cls := Value.type "tuple", data := Data.seq #[] } : Obj) ::
  fnG (Value.none) 0 0 (stAt 32) (Str.ofString "compare_exponents") (Value.none) (Value.none) (Value.none) (Value.none) (none) (Value.none) (Value.none) (none) (#[]) ::
  ({ cls := Value.type "code", data := Data.fields #[Value.str (Str.ofString "compare_exponents") 436, Value.str (Str.ofString "compare_exponents") 437, Value.str (Str.ofString "/claim/cut.py") 438, Value.int 118 0, Value.int 2 0, Value.int 0 0, Value.int 0 0, Value.int 3 0, Value.ref 187, Value.bool true, Value.int 181 0, Value.ref 188, Value.none, Value.ref 189, Value.ref 190, Value.ref 191, Value.int 441 0, Value.int 118 0, Value.str (Str.ofString "/claim/cut.py") 442] } : Obj) ::
  fnG (Value.type "function") 3 0 (stAt 32) (Str.ofString "compare_exponents") (Value.none) (Value.none) (Value.none) (Value.str (Str.ofString "cas.termorder") 363) (none) (Value.ref 192) (Value.none) (none) (#[]) ::
  ({ cls := Value.type "tuple", data := Data.seq #[] } : Obj) ::
  ({ cls := Value.none, data := Data.fields #[] } : Obj) ::
  ({ cls := Value.type "tuple", data := Data.seq #[Value.str (Str.ofString "one") 447, Value.str (Str.ofString "other") 448, Value.str (Str.ofString "found") 449, Value.str (Str.ofString "kind") 450] } : Obj) ::
  ({ cls := Value.type "tuple", data := Data.seq #[] } : Obj) ::
  fnG (Value.none) 0 0 (stAt 33) (Str.ofString "compare_bases") (Value.none) (Value.none) (Value.none) (Value.none) (none) (Value.none) (Value.none) (none) (#[]) ::
  ({ cls := Value.type "code", data := Data.fields #[Value.str (Str.ofString "compare_bases") 444, Value.str (Str.ofString "compare_bases") 445, Value.str (Str.ofString "/claim/cut.py") 446, Value.int 124 0, Value.int 2 0, Value.int 0 0, Value.int 0 0, Value.int 3 0, Value.ref 194, Value.bool true, Value.int 181 0, Value.ref 195, Value.none, Value.ref 196, Value.ref 197, Value.ref 198, Value.int 451 0, Value.int 124 0, Value.str (Str.ofString "/claim/cut.py") 452] } : Obj) ::
  fnG (Value.type "function") 3 0 (stAt 33) (Str.ofString "compare_bases") (Value.none) (Value.none) (Value.none) (Value.str (Str.ofString "cas.termorder") 363) (none) (Value.ref 199) (Value.none) (none) (#[]) ::
  ({ cls := Value.type "tuple", data := Data.seq #[] } : Obj) ::
  ({ cls := Value.none, data := Data.fields #[] } : Obj) ::
  ({ cls := Value.type "tuple", data := Data.seq #[Value.str (Str.ofString "one") 457, Value.str (Str.ofString "other") 458, Value.str (Str.ofString "base") 459, Value.str (Str.ofString "exponent") 460, Value.str (Str.ofString "other_base") 461, Value.str (Str.ofString "other_exponent") 462, Value.str (Str.ofString "found") 463] } : Obj) ::
  ({ cls := Value.type "tuple", data := Data.seq #[] } : Obj) ::
  fnG (Value.none) 0 0 (stAt 34) (Str.ofString "compare_factors") (Value.none) (Value.none) (Value.none) (Value.none) (none) (Value.none) (Value.none) (none) (#[]) ::
  ({ cls := Value.type "code", data := Data.fields #[Value.str (Str.ofString "compare_factors") 454, Value.str (Str.ofString "compare_factors") 455, Value.str (Str.ofString "/claim/cut.py") 456, Value.int 139 0, Value.int 2 0, Value.int 0 0, Value.int 0 0, Value.int 3 0, Value.ref 201, Value.bool true, Value.int 181 0, Value.ref 202, Value.none, Value.ref 203, Value.ref 204, Value.ref 205, Value.int 464 0, Value.int 139 0, Value.str (Str.ofString "/claim/cut.py") 465] } : Obj) ::
  fnG (Value.type "function") 3 0 (stAt 34) (Str.ofString "compare_factors") (Value.none) (Value.none) (Value.none) (Value.str (Str.ofString "cas.termorder") 363) (none) (Value.ref 206) (Value.none) (none) (#[]) ::
  ({ cls := Value.type "tuple", data := Data.seq #[] } : Obj) ::
  ({ cls := Value.none, data := Data.fields #[] } : Obj) ::
  ({ cls := Value.type "tuple", data := Data.seq #[Value.str (Str.ofString "one") 470, Value.str (Str.ofString "other") 471, Value.str (Str.ofString "ones") 472, Value.str (Str.ofString "others") 473, Value.str (Str.ofString "at") 474, Value.str (Str.ofString "found") 475] } : Obj) ::
  ({ cls := Value.type "tuple", data := Data.seq #[] } : Obj) ::
  fnG (Value.none) 0 0 (stAt 35) (Str.ofString "compare_terms") (Value.none) (Value.none) (Value.none) (Value.none) (none) (Value.none) (Value.none) (none) (#[]) ::
  ({ cls := Value.type "code", data := Data.fields #[Value.str (Str.ofString "compare_terms") 467, Value.str (Str.ofString "compare_terms") 468, Value.str (Str.ofString "/claim/cut.py") 469, Value.int 144 0, Value.int 2 0, Value.int 0 0, Value.int 0 0, Value.int 3 0, Value.ref 208, Value.bool true, Value.int 181 0, Value.ref 209, Value.none, Value.ref 210, Value.ref 211, Value.ref 212, Value.int 476 0, Value.int 144 0, Value.str (Str.ofString "/claim/cut.py") 477] } : Obj) ::
  fnG (Value.type "function") 3 0 (stAt 35) (Str.ofString "compare_terms") (Value.none) (Value.none) (Value.none) (Value.str (Str.ofString "cas.termorder") 363) (none) (Value.ref 213) (Value.none) (none) (#[]) ::
  ({ cls := Value.type "tuple", data := Data.seq #[] } : Obj) ::
  ({ cls := Value.none, data := Data.fields #[] } : Obj) ::
  ({ cls := Value.type "tuple", data := Data.seq #[Value.str (Str.ofString "ones") 482, Value.str (Str.ofString "others") 483, Value.str (Str.ofString "found") 484, Value.str (Str.ofString "at") 485, Value.str (Str.ofString "spot") 486, Value.str (Str.ofString "is_first") 487] } : Obj) ::
  ({ cls := Value.type "tuple", data := Data.seq #[] } : Obj) ::
  fnG (Value.none) 0 0 (stAt 36) (Str.ofString "merged_terms") (Value.none) (Value.none) (Value.none) (Value.none) (none) (Value.none) (Value.none) (none) (#[]) ::
  ({ cls := Value.type "code", data := Data.fields #[Value.str (Str.ofString "merged_terms") 479, Value.str (Str.ofString "merged_terms") 480, Value.str (Str.ofString "/claim/cut.py") 481, Value.int 156 0, Value.int 2 0, Value.int 0 0, Value.int 0 0, Value.int 3 0, Value.ref 215, Value.bool true, Value.int 181 0, Value.ref 216, Value.none, Value.ref 217, Value.ref 218, Value.ref 219, Value.int 488 0, Value.int 156 0, Value.str (Str.ofString "/claim/cut.py") 489] } : Obj) ::
  fnG (Value.type "function") 3 0 (stAt 36) (Str.ofString "merged_terms") (Value.none) (Value.none) (Value.none) (Value.str (Str.ofString "cas.termorder") 363) (none) (Value.ref 220) (Value.none) (none) (#[]) ::
  ({ cls := Value.type "tuple", data := Data.seq #[] } : Obj) ::
  ({ cls := Value.none, data := Data.fields #[] } : Obj) ::
  ({ cls := Value.type "tuple", data := Data.seq #[Value.str (Str.ofString "some_terms") 494, Value.str (Str.ofString "middle") 495] } : Obj) ::
  ({ cls := Value.type "tuple", data := Data.seq #[] } : Obj) ::
  fnG (Value.none) 0 0 (stAt 37) (Str.ofString "sort_terms") (Value.none) (Value.none) (Value.none) (Value.none) (none) (Value.none) (Value.none) (none) (#[]) ::
  ({ cls := Value.type "code", data := Data.fields #[Value.str (Str.ofString "sort_terms") 491, Value.str (Str.ofString "sort_terms") 492, Value.str (Str.ofString "/claim/cut.py") 493, Value.int 167 0, Value.int 1 0, Value.int 0 0, Value.int 0 0, Value.int 3 0, Value.ref 222, Value.bool true, Value.int 181 0, Value.ref 223, Value.none, Value.ref 224, Value.ref 225, Value.ref 226, Value.int 496 0, Value.int 167 0, Value.str (Str.ofString "/claim/cut.py") 497] } : Obj) ::
  fnG (Value.type "function") 3 0 (stAt 37) (Str.ofString "sort_terms") (Value.none) (Value.none) (Value.none) (Value.str (Str.ofString "cas.termorder") 363) (none) (Value.ref 227) (Value.none) (none) (#[]) ::
  ({ cls := Value.type "tuple", data := Data.seq #[Value.str (Str.ofString "num") 501, Value.int 0 502, Value.int 1 503] } : Obj) ::
  ({ cls := Value.type "tuple", data := Data.seq #[Value.str (Str.ofString "num") 505, Value.int 1 506, Value.int 1 507] } : Obj) ::
  ({ cls := Value.type "tuple", data := Data.seq #[Value.str (Str.ofString "num") 509, Value.int (-1) 511, Value.int 1 512] } : Obj) ::
  ({ cls := Value.type "tuple", data := Data.seq #[Value.str (Str.ofString "num") 514, Value.int 1 515, Value.int 2 516] } : Obj) ::
  ({ cls := Value.type "tuple", data := Data.seq #[Value.ref 230] } : Obj) ::
  ({ cls := Value.type "tuple", data := Data.seq #[Value.str (Str.ofString "call") 518, Value.str (Str.ofString "exp") 519, Value.ref 233] } : Obj) ::
  ({ cls := Value.type "tuple", data := Data.seq #[Value.str (Str.ofString "sin") 527, Value.str (Str.ofString "tan") 528, Value.str (Str.ofString "atan") 529] } : Obj) ::
  ({ cls := Value.type "tuple", data := Data.seq #[] } : Obj) ::
  ({ cls := Value.none, data := Data.fields #[] } : Obj) ::
  ({ cls := Value.type "tuple", data := Data.seq #[Value.str (Str.ofString "r") 534] } : Obj) ::
  ({ cls := Value.type "tuple", data := Data.seq #[] } : Obj) ::
  fnG (Value.none) 0 0 (stAt 47) (Str.ofString "number_term") (Value.none) (Value.none) (Value.none) (Value.none) (none) (Value.none) (Value.none) (none) (#[]) ::
  ({ cls := Value.type "code", data := Data.fields #[Value.str (Str.ofString "number_term") 531, Value.str (Str.ofString "number_term") 532, Value.str (Str.ofString "/claim/cut.py") 533, Value.int 181 0, Value.int 1 0, Value.int 0 0, Value.int 0 0, Value.int 3 0, Value.ref 236, Value.bool true, Value.int 181 0, Value.ref 237, Value.none, Value.ref 238, Value.ref 239, Value.ref 240, Value.int 535 0, Value.int 181 0, Value.str (Str.ofString "/claim/cut.py") 536] } : Obj) ::
  fnG (Value.type "function") 3 0 (stAt 47) (Str.ofString "number_term") (Value.none) (Value.none) (Value.none) (Value.str (Str.ofString "cas.simp") 499) (none) (Value.ref 241) (Value.none) (none) (#[]) ::
  ({ cls := Value.type "tuple", data := Data.seq #[] } : Obj) ::
  ({ cls := Value.none, data := Data.fields #[] } : Obj) ::
  ({ cls := Value.type "tuple", data := Data.seq #[Value.str (Str.ofString "t") 541, Value.str (Str.ofString "rest") 542] } : Obj) ::
  ({ cls := Value.type "tuple", data := Data.seq #[] } : Obj) ::
  fnG (Value.none) 0 0 (stAt 48) (Str.ofString "number_and_rest") (Value.none) (Value.none) (Value.none) (Value.none) (none) (Value.none) (Value.none) (none) (#[]) ::
  ({ cls := Value.type "code", data := Data.fields #[Value.str (Str.ofString "number_and_rest") 538, Value.str (Str.ofString "number_and_rest") 539, Value.str (Str.ofString "/claim/cut.py") 540, Value.int 183 0, Value.int 1 0, Value.int 0 0, Value.int 0 0, Value.int 3 0, Value.ref 243, Value.bool true, Value.int 181 0, Value.ref 244, Value.none, Value.ref 245, Value.ref 246, Value.ref 247, Value.int 543 0, Value.int 183 0, Value.str (Str.ofString "/claim/cut.py") 544] } : Obj) ::
  fnG (Value.type "function") 3 0 (stAt 48) (Str.ofString "number_and_rest") (Value.none) (Value.none) (Value.none) (Value.str (Str.ofString "cas.simp") 499) (none) (Value.ref 248) (Value.none) (none) (#[]) ::
  ({ cls := Value.type "tuple", data := Data.seq #[] } : Obj) ::
  ({ cls := Value.none, data := Data.fields #[] } : Obj) ::
  ({ cls := Value.type "tuple", data := Data.seq #[Value.str (Str.ofString "r") 549, Value.str (Str.ofString "rest") 550] } : Obj) ::
  ({ cls := Value.type "tuple", data := Data.seq #[] } : Obj) ::
  fnG (Value.none) 0 0 (stAt 49) (Str.ofString "with_number") (Value.none) (Value.none) (Value.none) (Value.none) (none) (Value.none) (Value.none) (none) (#[]) ::
  ({ cls := Value.type "code", data := Data.fields #[Value.str (Str.ofString "with_number") 546, Value.str (Str.ofString "with_number") 547, Value.str (Str.ofString "/claim/cut.py") 548, Value.int 190 0, Value.int 2 0, Value.int 0 0, Value.int 0 0, Value.int 3 0, Value.ref 250, Value.bool true, Value.int 181 0, Value.ref 251, Value.none, Value.ref 252, Value.ref 253, Value.ref 254, Value.int 551 0, Value.int 190 0, Value.str (Str.ofString "/claim/cut.py") 552] } : Obj) ::
  fnG (Value.type "function") 3 0 (stAt 49) (Str.ofString "with_number") (Value.none) (Value.none) (Value.none) (Value.str (Str.ofString "cas.simp") 499) (none) (Value.ref 255) (Value.none) (none) (#[]) ::
  ({ cls := Value.type "tuple", data := Data.seq #[] } : Obj) ::
  ({ cls := Value.none, data := Data.fields #[] } : Obj) ::
  ({ cls := Value.type "tuple", data := Data.seq #[Value.str (Str.ofString "parts") 557, Value.str (Str.ofString "kind") 558, Value.str (Str.ofString "found") 559, Value.str (Str.ofString "part") 560] } : Obj) ::
  ({ cls := Value.type "tuple", data := Data.seq #[] } : Obj) ::
  fnG (Value.none) 0 0 (stAt 50) (Str.ofString "flat_parts") (Value.none) (Value.none) (Value.none) (Value.none) (none) (Value.none) (Value.none) (none) (#[]) ::
  ({ cls := Value.type "code", data := Data.fields #[Value.str (Str.ofString "flat_parts") 554, Value.str (Str.ofString "flat_parts") 555, Value.str (Str.ofString "/claim/cut.py") 556, Value.int 196 0, Value.int 2 0, Value.int 0 0, Value.int 0 0, Value.int 3 0, Value.ref 257, Value.bool true, Value.int 181 0, Value.ref 258, Value.none, Value.ref 259, Value.ref 260, Value.ref 261, Value.int 561 0, Value.int 196 0, Value.str (Str.ofString "/claim/cut.py") 562] } : Obj) ::
  fnG (Value.type "function") 3 0 (stAt 50) (Str.ofString "flat_parts") (Value.none) (Value.none) (Value.none) (Value.str (Str.ofString "cas.simp") 499) (none) (Value.ref 262) (Value.none) (none) (#[]) ::
  ({ cls := Value.type "tuple", data := Data.seq #[] } : Obj) ::
  ({ cls := Value.none, data := Data.fields #[] } : Obj) ::
  fnG (Value.none) 0 0 (stAt 51) (Str.ofString "gathered_sum") (Value.none) (Value.none) (Value.none) (Value.none) (none) (Value.none) (Value.none) (none) (#[]) ::
  ({ cls := Value.type "code", data := Data.fields #[Value.str (Str.ofString "gathered_sum") 564, Value.str (Str.ofString "gathered_sum") 565, Value.str (Str.ofString "/claim/cut.py") 566, Value.int 201 0, Value.int 1 0, Value.int 0 0, Value.int 0 0, Value.int 3 0, Value.ref 264, Value.bool true, Value.int 181 0, Value.ref 265, Value.none, Value.none, Value.none, Value.ref 266, Value.int 567 0, Value.int 201 0, Value.str (Str.ofString "/claim/cut.py") 568] } : Obj) ::
  fnG (Value.type "function") 3 0 (stAt 51) (Str.ofString "gathered_sum") (Value.none) (Value.none) (Value.none) (Value.str (Str.ofString "cas.simp") 499) (none) (Value.ref 267) (Value.none) (none) (#[]) ::
  ({ cls := Value.type "tuple", data := Data.seq #[] } : Obj) ::
  ({ cls := Value.none, data := Data.fields #[] } : Obj) ::
  ({ cls := Value.type "tuple", data := Data.seq #[Value.str (Str.ofString "t") 573, Value.str (Str.ofString "name") 574] } : Obj) ::
  ({ cls := Value.type "tuple", data := Data.seq #[] } : Obj) ::
  fnG (Value.none) 0 0 (stAt 52) (Str.ofString "is_one_call") (Value.none) (Value.none) (Value.none) (Value.none) (none) (Value.none) (Value.none) (none) (#[]) ::
  ({ cls := Value.type "code", data := Data.fields #[Value.str (Str.ofString "is_one_call") 570, Value.str (Str.ofString "is_one_call") 571, Value.str (Str.ofString "/claim/cut.py") 572, Value.int 214 0, Value.int 2 0, Value.int 0 0, Value.int 0 0, Value.int 3 0, Value.ref 269, Value.bool true, Value.int 181 0, Value.ref 270, Value.none, Value.ref 271, Value.ref 272, Value.ref 273, Value.int 575 0, Value.int 214 0, Value.str (Str.ofString "/claim/cut.py") 576] } : Obj) ::
  fnG (Value.type "function") 3 0 (stAt 52) (Str.ofString "is_one_call") (Value.none) (Value.none) (Value.none) (Value.str (Str.ofString "cas.simp") 499) (none) (Value.ref 274) (Value.none) (none) (#[]) ::
  ({ cls := Value.type "tuple", data := Data.seq #[] } : Obj) ::
  ({ cls := Value.none, data := Data.fields #[] } : Obj) ::
  ({ cls := Value.type "tuple", data := Data.seq #[Value.str (Str.ofString "t") 581] } : Obj) ::
  ({ cls := Value.type "tuple", data := Data.seq #[] } : Obj) ::
  fnG (Value.none) 0 0 (stAt 53) (Str.ofString "as_power") (Value.none) (Value.none) (Value.none) (Value.none) (none) (Value.none) (Value.none) (none) (#[]) ::
  ({ cls := Value.type "code", data := Data.fields #[Value.str (Str.ofString "as_power") 578, Value.str (Str.ofString "as_power") 579, Value.str (Str.ofString "/claim/cut.py") 580, Value.int 216 0, Value.int 1 0, Value.int 0 0, Value.int 0 0, Value.int 3 0, Value.ref 276, Value.bool true, Value.int 181 0, Value.ref 277, Value.none, Value.ref 278, Value.ref 279, Value.ref 280, Value.int 582 0, Value.int 216 0, Value.str (Str.ofString "/claim/cut.py") 583] } : Obj) ::
  fnG (Value.type "function") 3 0 (stAt 53) (Str.ofString "as_power") (Value.none) (Value.none) (Value.none) (Value.str (Str.ofString "cas.simp") 499) (none) (Value.ref 281) (Value.none) (none) (#[]) ::
  ({ cls := Value.type "tuple", data := Data.seq #[] } : Obj) ::
  ({ cls := Value.none, data := Data.fields #[] } : Obj) ::
  ({ cls := Value.type "tuple", data := Data.seq #[Value.str (Str.ofString "parts") 588, Value.str (Str.ofString "number") 589, Value.str (Str.ofString "exponents") 590, Value.str (Str.ofString "part") 591, Value.str (Str.ofString "base") 592, Value.str (Str.ofString "exponent") 593, Value.str (Str.ofString "found") 594, Value.str (Str.ofString "is_done") 595, Value.str (Str.ofString "made") 596] } : Obj) ::
  ({ cls := Value.type "tuple", data := Data.seq #[] } : Obj) ::
  fnG (Value.none) 0 0 (stAt 54) (Str.ofString "gathered_product") (Value.none) (Value.none) (Value.none) (Value.none) (none) (Value.none) (Value.none) (none) (#[]) ::
  ({ cls := Value.type "code", data := Data.fields #[Value.str (Str.ofString "gathered_product") 585, Value.str (Str.ofString "gathered_product") 586, Value.str (Str.ofString "/claim/cut.py") 587, Value.int 222 0, Value.int 1 0, Value.int 0 0, Value.int 0 0, Value.int 3 0, Value.ref 283, Value.bool true, Value.int 181 0, Value.ref 284, Value.none, Value.ref 285, Value.ref 286, Value.ref 287, Value.int 597 0, Value.int 222 0, Value.str (Str.ofString "/claim/cut.py") 598] } : Obj) ::
  fnG (Value.type "function") 3 0 (stAt 54) (Str.ofString "gathered_product") (Value.none) (Value.none) (Value.none) (Value.str (Str.ofString "cas.simp") 499) (none) (Value.ref 288) (Value.none) (none) (#[]) ::
  ({ cls := Value.type "tuple", data := Data.seq #[] } : Obj) ::
  ({ cls := Value.none, data := Data.fields #[] } : Obj) ::
  fnG (Value.none) 0 0 (stAt 55) (Str.ofString "power_of") (Value.none) (Value.none) (Value.none) (Value.none) (none) (Value.none) (Value.none) (none) (#[]) ::
  ({ cls := Value.type "code", data := Data.fields #[Value.str (Str.ofString "power_of") 600, Value.str (Str.ofString "power_of") 601, Value.str (Str.ofString "/claim/cut.py") 602, Value.int 246 0, Value.int 2 0, Value.int 0 0, Value.int 0 0, Value.int 3 0, Value.ref 290, Value.bool true, Value.int 181 0, Value.ref 291, Value.none, Value.none, Value.none, Value.ref 292, Value.int 603 0, Value.int 246 0, Value.str (Str.ofString "/claim/cut.py") 604] } : Obj) ::
  fnG (Value.type "function") 3 0 (stAt 55) (Str.ofString "power_of") (Value.none) (Value.none) (Value.none) (Value.str (Str.ofString "cas.simp") 499) (none) (Value.ref 293) (Value.none) (none) (#[]) ::
  ({ cls := Value.type "tuple", data := Data.seq #[] } : Obj) ::
  ({ cls := Value.none, data := Data.fields #[] } : Obj) ::
  ({ cls := Value.type "tuple", data := Data.seq #[Value.str (Str.ofString "base") 609, Value.str (Str.ofString "exponent") 610, Value.str (Str.ofString "value") 611, Value.str (Str.ofString "whole") 612, Value.str (Str.ofString "left") 613] } : Obj) ::
  ({ cls := Value.type "tuple", data := Data.seq #[] } : Obj) ::
  fnG (Value.none) 0 0 (stAt 56) (Str.ofString "split_power") (Value.none) (Value.none) (Value.none) (Value.none) (none) (Value.none) (Value.none) (none) (#[]) ::
  ({ cls := Value.type "code", data := Data.fields #[Value.str (Str.ofString "split_power") 606, Value.str (Str.ofString "split_power") 607, Value.str (Str.ofString "/claim/cut.py") 608, Value.int 266 0, Value.int 2 0, Value.int 0 0, Value.int 0 0, Value.int 3 0, Value.ref 295, Value.bool true, Value.int 181 0, Value.ref 296, Value.none, Value.ref 297, Value.ref 298, Value.ref 299, Value.int 614 0, Value.int 266 0, Value.str (Str.ofString "/claim/cut.py") 615] } : Obj) ::
  fnG (Value.type "function") 3 0 (stAt 56) (Str.ofString "split_power") (Value.none) (Value.none) (Value.none) (Value.str (Str.ofString "cas.simp") 499) (none) (Value.ref 300) (Value.none) (none) (#[]) ::
  ({ cls := Value.type "tuple", data := Data.seq #[] } : Obj) ::
  ({ cls := Value.none, data := Data.fields #[] } : Obj) ::
  ({ cls := Value.type "tuple", data := Data.seq #[Value.str (Str.ofString "base") 620, Value.str (Str.ofString "exponent") 621] } : Obj) ::
  ({ cls := Value.type "tuple", data := Data.seq #[] } : Obj) ::
  fnG (Value.none) 0 0 (stAt 57) (Str.ofString "number_power") (Value.none) (Value.none) (Value.none) (Value.none) (none) (Value.none) (Value.none) (none) (#[]) ::
  ({ cls := Value.type "code", data := Data.fields #[Value.str (Str.ofString "number_power") 617, Value.str (Str.ofString "number_power") 618, Value.str (Str.ofString "/claim/cut.py") 619, Value.int 271 0, Value.int 2 0, Value.int 0 0, Value.int 0 0, Value.int 3 0, Value.ref 302, Value.bool true, Value.int 181 0, Value.ref 303, Value.none, Value.ref 304, Value.ref 305, Value.ref 306, Value.int 622 0, Value.int 271 0, Value.str (Str.ofString "/claim/cut.py") 623] } : Obj) ::
  fnG (Value.type "function") 3 0 (stAt 57) (Str.ofString "number_power") (Value.none) (Value.none) (Value.none) (Value.str (Str.ofString "cas.simp") 499) (none) (Value.ref 307) (Value.none) (none) (#[]) ::
  ({ cls := Value.type "tuple", data := Data.seq #[] } : Obj) ::
  ({ cls := Value.none, data := Data.fields #[] } : Obj) ::
  ({ cls := Value.type "tuple", data := Data.seq #[Value.str (Str.ofString "base") 628, Value.str (Str.ofString "exponent") 629, Value.str (Str.ofString "number") 630, Value.str (Str.ofString "roots") 631, Value.str (Str.ofString "value") 632, Value.str (Str.ofString "sign") 633, Value.str (Str.ofString "prime") 634, Value.str (Str.ofString "many") 635, Value.str (Str.ofString "wanted") 636, Value.str (Str.ofString "whole") 637, Value.str (Str.ofString "left") 638] } : Obj) ::
  ({ cls := Value.type "tuple", data := Data.seq #[] } : Obj) ::
  fnG (Value.none) 0 0 (stAt 58) (Str.ofString "radical_of") (Value.none) (Value.none) (Value.none) (Value.none) (none) (Value.none) (Value.none) (none) (#[]) ::
  ({ cls := Value.type "code", data := Data.fields #[Value.str (Str.ofString "radical_of") 625, Value.str (Str.ofString "radical_of") 626, Value.str (Str.ofString "/claim/cut.py") 627, Value.int 285 0, Value.int 2 0, Value.int 0 0, Value.int 0 0, Value.int 3 0, Value.ref 309, Value.bool true, Value.int 181 0, Value.ref 310, Value.none, Value.ref 311, Value.ref 312, Value.ref 313, Value.int 639 0, Value.int 285 0, Value.str (Str.ofString "/claim/cut.py") 640] } : Obj) ::
  fnG (Value.type "function") 3 0 (stAt 58) (Str.ofString "radical_of") (Value.none) (Value.none) (Value.none) (Value.str (Str.ofString "cas.simp") 499) (none) (Value.ref 314) (Value.none) (none) (#[]) ::
  ({ cls := Value.type "tuple", data := Data.seq #[] } : Obj) ::
  ({ cls := Value.none, data := Data.fields #[] } : Obj) ::
  ({ cls := Value.type "tuple", data := Data.seq #[Value.str (Str.ofString "t") 645, Value.str (Str.ofString "first") 646] } : Obj) ::
  ({ cls := Value.type "tuple", data := Data.seq #[] } : Obj) ::
  fnG (Value.none) 0 0 (stAt 59) (Str.ofString "begins_below") (Value.none) (Value.none) (Value.none) (Value.none) (none) (Value.none) (Value.none) (none) (#[]) ::
  ({ cls := Value.type "code", data := Data.fields #[Value.str (Str.ofString "begins_below") 642, Value.str (Str.ofString "begins_below") 643, Value.str (Str.ofString "/claim/cut.py") 644, Value.int 299 0, Value.int 1 0, Value.int 0 0, Value.int 0 0, Value.int 3 0, Value.ref 316, Value.bool true, Value.int 181 0, Value.ref 317, Value.none, Value.ref 318, Value.ref 319, Value.ref 320, Value.int 647 0, Value.int 299 0, Value.str (Str.ofString "/claim/cut.py") 648] } : Obj) ::
  fnG (Value.type "function") 3 0 (stAt 59) (Str.ofString "begins_below") (Value.none) (Value.none) (Value.none) (Value.str (Str.ofString "cas.simp") 499) (none) (Value.ref 321) (Value.none) (none) (#[]) ::
  ({ cls := Value.type "tuple", data := Data.seq #[] } : Obj) ::
  ({ cls := Value.none, data := Data.fields #[] } : Obj) ::
  fnG (Value.none) 0 0 (stAt 60) (Str.ofString "negated_term") (Value.none) (Value.none) (Value.none) (Value.none) (none) (Value.none) (Value.none) (none) (#[]) ::
  ({ cls := Value.type "code", data := Data.fields #[Value.str (Str.ofString "negated_term") 650, Value.str (Str.ofString "negated_term") 651, Value.str (Str.ofString "/claim/cut.py") 652, Value.int 302 0, Value.int 1 0, Value.int 0 0, Value.int 0 0, Value.int 3 0, Value.ref 323, Value.bool true, Value.int 181 0, Value.ref 324, Value.none, Value.none, Value.none, Value.ref 325, Value.int 653 0, Value.int 302 0, Value.str (Str.ofString "/claim/cut.py") 654] } : Obj) ::
  fnG (Value.type "function") 3 0 (stAt 60) (Str.ofString "negated_term") (Value.none) (Value.none) (Value.none) (Value.str (Str.ofString "cas.simp") 499) (none) (Value.ref 326) (Value.none) (none) (#[]) ::
  ({ cls := Value.type "tuple", data := Data.seq #[] } : Obj) ::
  ({ cls := Value.none, data := Data.fields #[] } : Obj) ::
  ({ cls := Value.type "tuple", data := Data.seq #[Value.str (Str.ofString "arg") 659, Value.str (Str.ofString "found") 660, Value.str (Str.ofString "left") 661, Value.str (Str.ofString "part") 662, Value.str (Str.ofString "number") 663, Value.str (Str.ofString "rest") 664] } : Obj) ::
  ({ cls := Value.type "tuple", data := Data.seq #[] } : Obj) ::
  fnG (Value.none) 0 0 (stAt 61) (Str.ofString "exp_of") (Value.none) (Value.none) (Value.none) (Value.none) (none) (Value.none) (Value.none) (none) (#[]) ::
  ({ cls := Value.type "code", data := Data.fields #[Value.str (Str.ofString "exp_of") 656, Value.str (Str.ofString "exp_of") 657, Value.str (Str.ofString "/claim/cut.py") 658, Value.int 306 0, Value.int 1 0, Value.int 0 0, Value.int 0 0, Value.int 3 0, Value.ref 328, Value.bool true, Value.int 181 0, Value.ref 329, Value.none, Value.ref 330, Value.ref 331, Value.ref 332, Value.int 665 0, Value.int 306 0, Value.str (Str.ofString "/claim/cut.py") 666] } : Obj) ::
  fnG (Value.type "function") 3 0 (stAt 61) (Str.ofString "exp_of") (Value.none) (Value.none) (Value.none) (Value.str (Str.ofString "cas.simp") 499) (none) (Value.ref 333) (Value.none) (none) (#[]) ::
  ({ cls := Value.type "tuple", data := Data.seq #[] } : Obj) ::
  ({ cls := Value.none, data := Data.fields #[] } : Obj) ::
  ({ cls := Value.type "tuple", data := Data.seq #[Value.str (Str.ofString "arg") 671] } : Obj) ::
  ({ cls := Value.type "tuple", data := Data.seq #[] } : Obj) ::
  fnG (Value.none) 0 0 (stAt 62) (Str.ofString "log_of") (Value.none) (Value.none) (Value.none) (Value.none) (none) (Value.none) (Value.none) (none) (#[]) ::
  ({ cls := Value.type "code", data := Data.fields #[Value.str (Str.ofString "log_of") 668, Value.str (Str.ofString "log_of") 669, Value.str (Str.ofString "/claim/cut.py") 670, Value.int 319 0, Value.int 1 0, Value.int 0 0, Value.int 0 0, Value.int 3 0, Value.ref 335, Value.bool true, Value.int 181 0, Value.ref 336, Value.none, Value.ref 337, Value.ref 338, Value.ref 339, Value.int 672 0, Value.int 319 0, Value.str (Str.ofString "/claim/cut.py") 673] } : Obj) ::
  fnG (Value.type "function") 3 0 (stAt 62) (Str.ofString "log_of") (Value.none) (Value.none) (Value.none) (Value.str (Str.ofString "cas.simp") 499) (none) (Value.ref 340) (Value.none) (none) (#[]) ::
  ({ cls := Value.type "tuple", data := Data.seq #[] } : Obj) ::
  ({ cls := Value.none, data := Data.fields #[] } : Obj) ::
  ({ cls := Value.type "tuple", data := Data.seq #[Value.str (Str.ofString "arg") 678, Value.str (Str.ofString "found") 679, Value.str (Str.ofString "step") 680] } : Obj) ::
  ({ cls := Value.type "tuple", data := Data.seq #[] } : Obj) ::
  fnG (Value.none) 0 0 (stAt 63) (Str.ofString "factorial_of") (Value.none) (Value.none) (Value.none) (Value.none) (none) (Value.none) (Value.none) (none) (#[]) ::
  ({ cls := Value.type "code", data := Data.fields #[Value.str (Str.ofString "factorial_of") 675, Value.str (Str.ofString "factorial_of") 676, Value.str (Str.ofString "/claim/cut.py") 677, Value.int 327 0, Value.int 1 0, Value.int 0 0, Value.int 0 0, Value.int 3 0, Value.ref 342, Value.bool true, Value.int 181 0, Value.ref 343, Value.none, Value.ref 344, Value.ref 345, Value.ref 346, Value.int 681 0, Value.int 327 0, Value.str (Str.ofString "/claim/cut.py") 682] } : Obj) ::
  fnG (Value.type "function") 3 0 (stAt 63) (Str.ofString "factorial_of") (Value.none) (Value.none) (Value.none) (Value.str (Str.ofString "cas.simp") 499) (none) (Value.ref 347) (Value.none) (none) (#[]) ::
  ({ cls := Value.type "tuple", data := Data.seq #[] } : Obj) ::
  ({ cls := Value.none, data := Data.fields #[] } : Obj) ::
  ({ cls := Value.type "tuple", data := Data.seq #[Value.str (Str.ofString "name") 687, Value.str (Str.ofString "args") 688, Value.str (Str.ofString "arg") 689] } : Obj) ::
  ({ cls := Value.type "tuple", data := Data.seq #[] } : Obj) ::
  fnG (Value.none) 0 0 (stAt 64) (Str.ofString "call_of") (Value.none) (Value.none) (Value.none) (Value.none) (none) (Value.none) (Value.none) (none) (#[]) ::
  ({ cls := Value.type "code", data := Data.fields #[Value.str (Str.ofString "call_of") 684, Value.str (Str.ofString "call_of") 685, Value.str (Str.ofString "/claim/cut.py") 686, Value.int 336 0, Value.int 2 0, Value.int 0 0, Value.int 0 0, Value.int 3 0, Value.ref 349, Value.bool true, Value.int 181 0, Value.ref 350, Value.none, Value.ref 351, Value.ref 352, Value.ref 353, Value.int 690 0, Value.int 336 0, Value.str (Str.ofString "/claim/cut.py") 691] } : Obj) ::
  fnG (Value.type "function") 3 0 (stAt 64) (Str.ofString "call_of") (Value.none) (Value.none) (Value.none) (Value.str (Str.ofString "cas.simp") 499) (none) (Value.ref 354) (Value.none) (none) (#[]) ::
  ({ cls := Value.type "tuple", data := Data.seq #[] } : Obj) ::
  ({ cls := Value.none, data := Data.fields #[] } : Obj) ::
  fnG (Value.none) 0 0 (stAt 65) (Str.ofString "simplify") (Value.none) (Value.none) (Value.none) (Value.none) (none) (Value.none) (Value.none) (none) (#[]) ::
  ({ cls := Value.type "code", data := Data.fields #[Value.str (Str.ofString "simplify") 693, Value.str (Str.ofString "simplify") 694, Value.str (Str.ofString "/claim/cut.py") 695, Value.int 359 0, Value.int 1 0, Value.int 0 0, Value.int 0 0, Value.int 3 0, Value.ref 356, Value.bool true, Value.int 181 0, Value.ref 357, Value.none, Value.none, Value.none, Value.ref 358, Value.int 696 0, Value.int 359 0, Value.str (Str.ofString "/claim/cut.py") 697] } : Obj) ::
  fnG (Value.type "function") 3 0 (stAt 65) (Str.ofString "simplify") (Value.none) (Value.none) (Value.none) (Value.str (Str.ofString "cas.simp") 499) (none) (Value.ref 359) (Value.none) (none) (#[]) ::
  ({ cls := Value.type "tuple", data := Data.seq #[] } : Obj) ::
  ({ cls := Value.none, data := Data.fields #[] } : Obj) ::
  fnG (Value.none) 0 0 (stAt 67) (Str.ofString "has_ratio") (Value.none) (Value.none) (Value.none) (Value.none) (none) (Value.none) (Value.none) (none) (#[]) ::
  ({ cls := Value.type "code", data := Data.fields #[Value.str (Str.ofString "has_ratio") 701, Value.str (Str.ofString "has_ratio") 702, Value.str (Str.ofString "/claim/cut.py") 703, Value.int 376 0, Value.int 1 0, Value.int 0 0, Value.int 0 0, Value.int 3 0, Value.ref 361, Value.bool true, Value.int 181 0, Value.ref 362, Value.none, Value.none, Value.none, Value.ref 363, Value.int 704 0, Value.int 376 0, Value.str (Str.ofString "/claim/cut.py") 705] } : Obj) ::
  fnG (Value.type "function") 3 0 (stAt 67) (Str.ofString "has_ratio") (Value.none) (Value.none) (Value.none) (Value.str (Str.ofString "cas.subst") 699) (none) (Value.ref 364) (Value.none) (none) (#[]) ::
  ({ cls := Value.type "tuple", data := Data.seq #[] } : Obj) ::
  ({ cls := Value.none, data := Data.fields #[] } : Obj) ::
  fnG (Value.none) 0 0 (stAt 68) (Str.ofString "settled") (Value.none) (Value.none) (Value.none) (Value.none) (none) (Value.none) (Value.none) (none) (#[]) ::
  ({ cls := Value.type "code", data := Data.fields #[Value.str (Str.ofString "settled") 707, Value.str (Str.ofString "settled") 708, Value.str (Str.ofString "/claim/cut.py") 709, Value.int 379 0, Value.int 3 0, Value.int 0 0, Value.int 0 0, Value.int 3 0, Value.ref 366, Value.bool true, Value.int 181 0, Value.ref 367, Value.none, Value.none, Value.none, Value.ref 368, Value.int 710 0, Value.int 379 0, Value.str (Str.ofString "/claim/cut.py") 711] } : Obj) ::
  fnG (Value.type "function") 3 0 (stAt 68) (Str.ofString "settled") (Value.none) (Value.none) (Value.none) (Value.str (Str.ofString "cas.subst") 699) (none) (Value.ref 369) (Value.none) (none) (#[]) ::
  ({ cls := Value.type "tuple", data := Data.seq #[] } : Obj) ::
  ({ cls := Value.none, data := Data.fields #[] } : Obj) ::
  ({ cls := Value.type "tuple", data := Data.seq #[Value.str (Str.ofString "t") 726] } : Obj) ::
  ({ cls := Value.type "tuple", data := Data.seq #[] } : Obj) ::
  fnG (Value.none) 0 0 (stAt 74) (Str.ofString "is_blank") (Value.none) (Value.none) (Value.none) (Value.none) (none) (Value.none) (Value.none) (none) (#[]) ::
  ({ cls := Value.type "code", data := Data.fields #[Value.str (Str.ofString "is_blank") 723, Value.str (Str.ofString "is_blank") 724, Value.str (Str.ofString "/claim/cut.py") 725, Value.int 399 0, Value.int 1 0, Value.int 0 0, Value.int 0 0, Value.int 3 0, Value.ref 371, Value.bool true, Value.int 181 0, Value.ref 372, Value.none, Value.ref 373, Value.ref 374, Value.ref 375, Value.int 727 0, Value.int 399 0, Value.str (Str.ofString "/claim/cut.py") 728] } : Obj) ::
  fnG (Value.type "function") 3 0 (stAt 74) (Str.ofString "is_blank") (Value.none) (Value.none) (Value.none) (Value.str (Str.ofString "cas.match") 713) (none) (Value.ref 376) (Value.none) (none) (#[]) ::
  ({ cls := Value.type "tuple", data := Data.seq #[] } : Obj) ::
  ({ cls := Value.none, data := Data.fields #[] } : Obj) ::
  ({ cls := Value.type "tuple", data := Data.seq #[Value.str (Str.ofString "kind") 733, Value.str (Str.ofString "parts") 734] } : Obj) ::
  ({ cls := Value.type "tuple", data := Data.seq #[] } : Obj) ::
  fnG (Value.none) 0 0 (stAt 75) (Str.ofString "put_together") (Value.none) (Value.none) (Value.none) (Value.none) (none) (Value.none) (Value.none) (none) (#[]) ::
  ({ cls := Value.type "code", data := Data.fields #[Value.str (Str.ofString "put_together") 730, Value.str (Str.ofString "put_together") 731, Value.str (Str.ofString "/claim/cut.py") 732, Value.int 401 0, Value.int 2 0, Value.int 0 0, Value.int 0 0, Value.int 3 0, Value.ref 378, Value.bool true, Value.int 181 0, Value.ref 379, Value.none, Value.ref 380, Value.ref 381, Value.ref 382, Value.int 735 0, Value.int 401 0, Value.str (Str.ofString "/claim/cut.py") 736] } : Obj) ::
  fnG (Value.type "function") 3 0 (stAt 75) (Str.ofString "put_together") (Value.none) (Value.none) (Value.none) (Value.str (Str.ofString "cas.match") 713) (none) (Value.ref 383) (Value.none) (none) (#[]) ::
  ({ cls := Value.type "tuple", data := Data.seq #[] } : Obj) ::
  ({ cls := Value.none, data := Data.fields #[] } : Obj) ::
  ({ cls := Value.type "tuple", data := Data.seq #[Value.str (Str.ofString "found") 741, Value.str (Str.ofString "name") 742, Value.str (Str.ofString "t") 743, Value.str (Str.ofString "later") 744] } : Obj) ::
  ({ cls := Value.type "tuple", data := Data.seq #[] } : Obj) ::
  fnG (Value.none) 0 0 (stAt 76) (Str.ofString "bind_blank") (Value.none) (Value.none) (Value.none) (Value.none) (none) (Value.none) (Value.none) (none) (#[]) ::
  ({ cls := Value.type "code", data := Data.fields #[Value.str (Str.ofString "bind_blank") 738, Value.str (Str.ofString "bind_blank") 739, Value.str (Str.ofString "/claim/cut.py") 740, Value.int 403 0, Value.int 3 0, Value.int 0 0, Value.int 0 0, Value.int 3 0, Value.ref 385, Value.bool true, Value.int 181 0, Value.ref 386, Value.none, Value.ref 387, Value.ref 388, Value.ref 389, Value.int 745 0, Value.int 403 0, Value.str (Str.ofString "/claim/cut.py") 746] } : Obj) ::
  fnG (Value.type "function") 3 0 (stAt 76) (Str.ofString "bind_blank") (Value.none) (Value.none) (Value.none) (Value.str (Str.ofString "cas.match") 713) (none) (Value.ref 390) (Value.none) (none) (#[]) ::
  ({ cls := Value.type "tuple", data := Data.seq #[] } : Obj) ::
  ({ cls := Value.none, data := Data.fields #[] } : Obj) ::
  ({ cls := Value.type "tuple", data := Data.seq #[Value.str (Str.ofString "patterns") 751, Value.str (Str.ofString "terms") 752, Value.str (Str.ofString "found") 753, Value.str (Str.ofString "tries") 754, Value.str (Str.ofString "rows") 755, Value.str (Str.ofString "at") 756, Value.str (Str.ofString "pattern") 757, Value.str (Str.ofString "later") 758, Value.str (Str.ofString "row") 759] } : Obj) ::
  ({ cls := Value.type "tuple", data := Data.seq #[] } : Obj) ::
  fnG (Value.none) 0 0 (stAt 77) (Str.ofString "match_rows") (Value.none) (Value.none) (Value.none) (Value.none) (none) (Value.none) (Value.none) (none) (#[]) ::
  ({ cls := Value.type "code", data := Data.fields #[Value.str (Str.ofString "match_rows") 748, Value.str (Str.ofString "match_rows") 749, Value.str (Str.ofString "/claim/cut.py") 750, Value.int 409 0, Value.int 4 0, Value.int 0 0, Value.int 0 0, Value.int 3 0, Value.ref 392, Value.bool true, Value.int 181 0, Value.ref 393, Value.none, Value.ref 394, Value.ref 395, Value.ref 396, Value.int 760 0, Value.int 409 0, Value.str (Str.ofString "/claim/cut.py") 761] } : Obj) ::
  fnG (Value.type "function") 3 0 (stAt 77) (Str.ofString "match_rows") (Value.none) (Value.none) (Value.none) (Value.str (Str.ofString "cas.match") 713) (none) (Value.ref 397) (Value.none) (none) (#[]) ::
  ({ cls := Value.type "tuple", data := Data.seq #[] } : Obj) ::
  ({ cls := Value.none, data := Data.fields #[] } : Obj) ::
  ({ cls := Value.type "tuple", data := Data.seq #[Value.str (Str.ofString "kind") 766, Value.str (Str.ofString "patterns") 767, Value.str (Str.ofString "terms") 768, Value.str (Str.ofString "found") 769, Value.str (Str.ofString "tries") 770, Value.str (Str.ofString "rows") 771, Value.str (Str.ofString "at") 772, Value.str (Str.ofString "term") 773, Value.str (Str.ofString "later") 774] } : Obj) ::
  ({ cls := Value.type "tuple", data := Data.seq #[] } : Obj) ::
  fnG (Value.none) 0 0 (stAt 78) (Str.ofString "match_parts") (Value.none) (Value.none) (Value.none) (Value.none) (none) (Value.none) (Value.none) (none) (#[]) ::
  ({ cls := Value.type "code", data := Data.fields #[Value.str (Str.ofString "match_parts") 763, Value.str (Str.ofString "match_parts") 764, Value.str (Str.ofString "/claim/cut.py") 765, Value.int 419 0, Value.int 5 0, Value.int 0 0, Value.int 0 0, Value.int 3 0, Value.ref 399, Value.bool true, Value.int 181 0, Value.ref 400, Value.none, Value.ref 401, Value.ref 402, Value.ref 403, Value.int 775 0, Value.int 419 0, Value.str (Str.ofString "/claim/cut.py") 776] } : Obj) ::
  fnG (Value.type "function") 3 0 (stAt 78) (Str.ofString "match_parts") (Value.none) (Value.none) (Value.none) (Value.str (Str.ofString "cas.match") 713) (none) (Value.ref 404) (Value.none) (none) (#[]) ::
  ({ cls := Value.type "tuple", data := Data.seq #[] } : Obj) ::
  ({ cls := Value.none, data := Data.fields #[] } : Obj) ::
  fnG (Value.none) 0 0 (stAt 79) (Str.ofString "blanks_last") (Value.none) (Value.none) (Value.none) (Value.none) (none) (Value.none) (Value.none) (none) (#[]) ::
  ({ cls := Value.type "code", data := Data.fields #[Value.str (Str.ofString "blanks_last") 778, Value.str (Str.ofString "blanks_last") 779, Value.str (Str.ofString "/claim/cut.py") 780, Value.int 431 0, Value.int 1 0, Value.int 0 0, Value.int 0 0, Value.int 3 0, Value.ref 406, Value.bool true, Value.int 181 0, Value.ref 407, Value.none, Value.none, Value.none, Value.ref 408, Value.int 781 0, Value.int 431 0, Value.str (Str.ofString "/claim/cut.py") 782] } : Obj) ::
  fnG (Value.type "function") 3 0 (stAt 79) (Str.ofString "blanks_last") (Value.none) (Value.none) (Value.none) (Value.str (Str.ofString "cas.match") 713) (none) (Value.ref 409) (Value.none) (none) (#[]) ::
  ({ cls := Value.type "tuple", data := Data.seq #[] } : Obj) ::
  ({ cls := Value.none, data := Data.fields #[] } : Obj) ::
  ({ cls := Value.type "tuple", data := Data.seq #[Value.str (Str.ofString "pattern") 787, Value.str (Str.ofString "t") 788, Value.str (Str.ofString "found") 789, Value.str (Str.ofString "tries") 790, Value.str (Str.ofString "kind") 791] } : Obj) ::
  ({ cls := Value.type "tuple", data := Data.seq #[] } : Obj) ::
  fnG (Value.none) 0 0 (stAt 80) (Str.ofString "match_with") (Value.none) (Value.none) (Value.none) (Value.none) (none) (Value.none) (Value.none) (none) (#[]) ::
  ({ cls := Value.type "code", data := Data.fields #[Value.str (Str.ofString "match_with") 784, Value.str (Str.ofString "match_with") 785, Value.str (Str.ofString "/claim/cut.py") 786, Value.int 433 0, Value.int 4 0, Value.int 0 0, Value.int 0 0, Value.int 3 0, Value.ref 411, Value.bool true, Value.int 181 0, Value.ref 412, Value.none, Value.ref 413, Value.ref 414, Value.ref 415, Value.int 792 0, Value.int 433 0, Value.str (Str.ofString "/claim/cut.py") 793] } : Obj) ::
  fnG (Value.type "function") 3 0 (stAt 80) (Str.ofString "match_with") (Value.none) (Value.none) (Value.none) (Value.str (Str.ofString "cas.match") 713) (none) (Value.ref 416) (Value.none) (none) (#[]) ::
  ({ cls := Value.type "tuple", data := Data.seq #[] } : Obj) ::
  ({ cls := Value.none, data := Data.fields #[] } : Obj) ::
  ({ cls := Value.type "tuple", data := Data.seq #[Value.str (Str.ofString "pattern") 798, Value.str (Str.ofString "t") 799, Value.str (Str.ofString "rows") 800] } : Obj) ::
  ({ cls := Value.type "tuple", data := Data.seq #[] } : Obj) ::
  fnG (Value.none) 0 0 (stAt 81) (Str.ofString "match") (Value.none) (Value.none) (Value.none) (Value.none) (none) (Value.none) (Value.none) (none) (#[]) ::
  ({ cls := Value.type "code", data := Data.fields #[Value.str (Str.ofString "match") 795, Value.str (Str.ofString "match") 796, Value.str (Str.ofString "/claim/cut.py") 797, Value.int 453 0, Value.int 2 0, Value.int 0 0, Value.int 0 0, Value.int 3 0, Value.ref 418, Value.bool true, Value.int 181 0, Value.ref 419, Value.none, Value.ref 420, Value.ref 421, Value.ref 422, Value.int 801 0, Value.int 453 0, Value.str (Str.ofString "/claim/cut.py") 802] } : Obj) ::
  fnG (Value.type "function") 3 0 (stAt 81) (Str.ofString "match") (Value.none) (Value.none) (Value.none) (Value.str (Str.ofString "cas.match") 713) (none) (Value.ref 423) (Value.none) (none) (#[]) ::
  ({ cls := Value.type "tuple", data := Data.seq #[] } : Obj) ::
  ({ cls := Value.none, data := Data.fields #[] } : Obj) ::
  fnG (Value.none) 0 0 (stAt 82) (Str.ofString "put_blanks") (Value.none) (Value.none) (Value.none) (Value.none) (none) (Value.none) (Value.none) (none) (#[]) ::
  ({ cls := Value.type "code", data := Data.fields #[Value.str (Str.ofString "put_blanks") 804, Value.str (Str.ofString "put_blanks") 805, Value.str (Str.ofString "/claim/cut.py") 806, Value.int 456 0, Value.int 2 0, Value.int 0 0, Value.int 0 0, Value.int 3 0, Value.ref 425, Value.bool true, Value.int 181 0, Value.ref 426, Value.none, Value.none, Value.none, Value.ref 427, Value.int 807 0, Value.int 456 0, Value.str (Str.ofString "/claim/cut.py") 808] } : Obj) ::
  fnG (Value.type "function") 3 0 (stAt 82) (Str.ofString "put_blanks") (Value.none) (Value.none) (Value.none) (Value.str (Str.ofString "cas.match") 713) (none) (Value.ref 428) (Value.none) (none) (#[]) ::
  ({ cls := Value.type "tuple", data := Data.seq #[] } : Obj) ::
  ({ cls := Value.none, data := Data.fields #[] } : Obj) ::
  ({ cls := Value.type "tuple", data := Data.seq #[Value.str (Str.ofString "t") 813] } : Obj) ::
  ({ cls := Value.type "tuple", data := Data.seq #[] } : Obj) ::
  fnG (Value.none) 0 0 (stAt 83) (Str.ofString "not_too_great") (Value.none) (Value.none) (Value.none) (Value.none) (none) (Value.none) (Value.none) (none) (#[]) ::
  ({ cls := Value.type "code", data := Data.fields #[Value.str (Str.ofString "not_too_great") 810, Value.str (Str.ofString "not_too_great") 811, Value.str (Str.ofString "/claim/cut.py") 812, Value.int 460 0, Value.int 1 0, Value.int 0 0, Value.int 0 0, Value.int 3 0, Value.ref 430, Value.bool true, Value.int 181 0, Value.ref 431, Value.none, Value.ref 432, Value.ref 433, Value.ref 434, Value.int 814 0, Value.int 460 0, Value.str (Str.ofString "/claim/cut.py") 815] } : Obj) ::
  fnG (Value.type "function") 3 0 (stAt 83) (Str.ofString "not_too_great") (Value.none) (Value.none) (Value.none) (Value.str (Str.ofString "cas.match") 713) (none) (Value.ref 435) (Value.none) (none) (#[]) ::
  ({ cls := Value.type "tuple", data := Data.seq #[] } : Obj) ::
  ({ cls := Value.none, data := Data.fields #[] } : Obj) ::
  ({ cls := Value.type "tuple", data := Data.seq #[Value.str (Str.ofString "t") 820, Value.str (Str.ofString "rules") 821, Value.str (Str.ofString "pattern") 822, Value.str (Str.ofString "result") 823, Value.str (Str.ofString "found") 824] } : Obj) ::
  ({ cls := Value.type "tuple", data := Data.seq #[] } : Obj) ::
  fnG (Value.none) 0 0 (stAt 84) (Str.ofString "rule_at") (Value.none) (Value.none) (Value.none) (Value.none) (none) (Value.none) (Value.none) (none) (#[]) ::
  ({ cls := Value.type "code", data := Data.fields #[Value.str (Str.ofString "rule_at") 817, Value.str (Str.ofString "rule_at") 818, Value.str (Str.ofString "/claim/cut.py") 819, Value.int 464 0, Value.int 2 0, Value.int 0 0, Value.int 0 0, Value.int 3 0, Value.ref 437, Value.bool true, Value.int 181 0, Value.ref 438, Value.none, Value.ref 439, Value.ref 440, Value.ref 441, Value.int 825 0, Value.int 464 0, Value.str (Str.ofString "/claim/cut.py") 826] } : Obj) ::
  fnG (Value.type "function") 3 0 (stAt 84) (Str.ofString "rule_at") (Value.none) (Value.none) (Value.none) (Value.str (Str.ofString "cas.match") 713) (none) (Value.ref 442) (Value.none) (none) (#[]) ::
  ({ cls := Value.type "tuple", data := Data.seq #[] } : Obj) ::
  ({ cls := Value.none, data := Data.fields #[] } : Obj) ::
  ({ cls := Value.type "tuple", data := Data.seq #[Value.str (Str.ofString "t") 831, Value.str (Str.ofString "rules") 832, Value.str (Str.ofString "made") 833, Value.str (Str.ofString "parts") 834, Value.str (Str.ofString "at") 835, Value.str (Str.ofString "part") 836, Value.str (Str.ofString "later") 837, Value.str (Str.ofString "is_done") 838] } : Obj) ::
  ({ cls := Value.type "tuple", data := Data.seq #[] } : Obj) ::
  fnG (Value.none) 0 0 (stAt 85) (Str.ofString "rule_once") (Value.none) (Value.none) (Value.none) (Value.none) (none) (Value.none) (Value.none) (none) (#[]) ::
  ({ cls := Value.type "code", data := Data.fields #[Value.str (Str.ofString "rule_once") 828, Value.str (Str.ofString "rule_once") 829, Value.str (Str.ofString "/claim/cut.py") 830, Value.int 470 0, Value.int 2 0, Value.int 0 0, Value.int 0 0, Value.int 3 0, Value.ref 444, Value.bool true, Value.int 181 0, Value.ref 445, Value.none, Value.ref 446, Value.ref 447, Value.ref 448, Value.int 839 0, Value.int 470 0, Value.str (Str.ofString "/claim/cut.py") 840] } : Obj) ::
  fnG (Value.type "function") 3 0 (stAt 85) (Str.ofString "rule_once") (Value.none) (Value.none) (Value.none) (Value.str (Str.ofString "cas.match") 713) (none) (Value.ref 449) (Value.none) (none) (#[]) ::
  ({ cls := Value.type "tuple", data := Data.seq #[] } : Obj) ::
  ({ cls := Value.none, data := Data.fields #[] } : Obj) ::
  ({ cls := Value.type "tuple", data := Data.seq #[Value.str (Str.ofString "t") 845, Value.str (Str.ofString "rules") 846, Value.str (Str.ofString "most") 847, Value.str (Str.ofString "step") 848, Value.str (Str.ofString "is_done") 849] } : Obj) ::
  ({ cls := Value.type "tuple", data := Data.seq #[] } : Obj) ::
  fnG (Value.none) 0 0 (stAt 86) (Str.ofString "apply_rules") (Value.none) (Value.none) (Value.none) (Value.none) (none) (Value.none) (Value.none) (none) (#[]) ::
  ({ cls := Value.type "code", data := Data.fields #[Value.str (Str.ofString "apply_rules") 842, Value.str (Str.ofString "apply_rules") 843, Value.str (Str.ofString "/claim/cut.py") 844, Value.int 480 0, Value.int 3 0, Value.int 0 0, Value.int 0 0, Value.int 3 0, Value.ref 451, Value.bool true, Value.int 181 0, Value.ref 452, Value.none, Value.ref 453, Value.ref 454, Value.ref 455, Value.int 850 0, Value.int 480 0, Value.str (Str.ofString "/claim/cut.py") 851] } : Obj) ::
  fnG (Value.type "function") 3 0 (stAt 86) (Str.ofString "apply_rules") (Value.none) (Value.none) (Value.none) (Value.str (Str.ofString "cas.match") 713) (none) (Value.ref 456) (Value.none) (none) (#[]) ::
  ({ cls := Value.type "tuple", data := Data.seq #[] } : Obj) ::
  ({ cls := Value.none, data := Data.fields #[] } : Obj) ::
  ({ cls := Value.type "tuple", data := Data.seq #[Value.str (Str.ofString "box") 858, Value.str (Str.ofString "many") 859] } : Obj) ::
  ({ cls := Value.type "tuple", data := Data.seq #[] } : Obj) ::
  fnG (Value.none) 0 0 (stAt 88) (Str.ofString "_law_take") (Value.none) (Value.none) (Value.none) (Value.none) (none) (Value.none) (Value.none) (none) (#[]) ::
  ({ cls := Value.type "code", data := Data.fields #[Value.str (Str.ofString "_law_take") 855, Value.str (Str.ofString "_law_take") 856, Value.str (Str.ofString "/claim/cut.py") 857, Value.int 489 0, Value.int 2 0, Value.int 0 0, Value.int 0 0, Value.int 3 0, Value.ref 458, Value.bool true, Value.int 181 0, Value.ref 459, Value.none, Value.ref 460, Value.ref 461, Value.ref 462, Value.int 860 0, Value.int 489 0, Value.str (Str.ofString "/claim/cut.py") 861] } : Obj) ::
  fnG (Value.type "function") 3 0 (stAt 88) (Str.ofString "_law_take") (Value.none) (Value.none) (Value.none) (Value.str (Str.ofString "law_rh0041_02") 853) (none) (Value.ref 463) (Value.none) (none) (#[]) ::
  ({ cls := Value.type "tuple", data := Data.seq #[] } : Obj) ::
  ({ cls := Value.none, data := Data.fields #[] } : Obj) ::
  ({ cls := Value.type "tuple", data := Data.seq #[Value.str (Str.ofString "name") 866, Value.str (Str.ofString "many") 867, Value.str (Str.ofString "t") 868, Value.str (Str.ofString "turn") 869] } : Obj) ::
  ({ cls := Value.type "tuple", data := Data.seq #[] } : Obj) ::
  fnG (Value.none) 0 0 (stAt 89) (Str.ofString "_law_within") (Value.none) (Value.none) (Value.none) (Value.none) (none) (Value.none) (Value.none) (none) (#[]) ::
  ({ cls := Value.type "code", data := Data.fields #[Value.str (Str.ofString "_law_within") 863, Value.str (Str.ofString "_law_within") 864, Value.str (Str.ofString "/claim/cut.py") 865, Value.int 494 0, Value.int 3 0, Value.int 0 0, Value.int 0 0, Value.int 3 0, Value.ref 465, Value.bool true, Value.int 181 0, Value.ref 466, Value.none, Value.ref 467, Value.ref 468, Value.ref 469, Value.int 870 0, Value.int 494 0, Value.str (Str.ofString "/claim/cut.py") 871] } : Obj) ::
  fnG (Value.type "function") 3 0 (stAt 89) (Str.ofString "_law_within") (Value.none) (Value.none) (Value.none) (Value.str (Str.ofString "law_rh0041_02") 853) (none) (Value.ref 470) (Value.none) (none) (#[]) ::
  ({ cls := Value.type "tuple", data := Data.seq #[] } : Obj) ::
  ({ cls := Value.none, data := Data.fields #[] } : Obj) ::
  ({ cls := Value.type "tuple", data := Data.seq #[Value.str (Str.ofString "t") 876, Value.str (Str.ofString "rules") 877, Value.str (Str.ofString "most") 878, Value.str (Str.ofString "wrong") 879] } : Obj) ::
  ({ cls := Value.type "tuple", data := Data.seq #[] } : Obj) ::
  fnG (Value.none) 0 0 (stAt 90) (Str.ofString "_law_told") (Value.none) (Value.none) (Value.none) (Value.none) (none) (Value.none) (Value.none) (none) (#[]) ::
  ({ cls := Value.type "code", data := Data.fields #[Value.str (Str.ofString "_law_told") 873, Value.str (Str.ofString "_law_told") 874, Value.str (Str.ofString "/claim/cut.py") 875, Value.int 498 0, Value.int 3 0, Value.int 0 0, Value.int 0 0, Value.int 3 0, Value.ref 472, Value.bool true, Value.int 181 0, Value.ref 473, Value.none, Value.ref 474, Value.ref 475, Value.ref 476, Value.int 880 0, Value.int 498 0, Value.str (Str.ofString "/claim/cut.py") 881] } : Obj) ::
  fnG (Value.type "function") 3 0 (stAt 90) (Str.ofString "_law_told") (Value.none) (Value.none) (Value.none) (Value.str (Str.ofString "law_rh0041_02") 853) (none) (Value.ref 477) (Value.none) (none) (#[]) ::
  ({ cls := Value.type "tuple", data := Data.seq #[] } : Obj) ::
  ({ cls := Value.none, data := Data.fields #[] } : Obj) ::
  ({ cls := Value.type "tuple", data := Data.seq #[Value.str (Str.ofString "script") 886, Value.str (Str.ofString "box") 887, Value.str (Str.ofString "form") 888, Value.str (Str.ofString "size") 889, Value.str (Str.ofString "apart") 890, Value.str (Str.ofString "most") 891, Value.str (Str.ofString "blank") 892, Value.str (Str.ofString "inner") 893, Value.str (Str.ofString "levels") 894, Value.str (Str.ofString "wide") 895, Value.str (Str.ofString "rule") 896, Value.str (Str.ofString "turn") 897, Value.str (Str.ofString "due") 898, Value.str (Str.ofString "t") 899] } : Obj) ::
  ({ cls := Value.type "tuple", data := Data.seq #[] } : Obj) ::
  fnG (Value.none) 0 0 (stAt 91) (Str.ofString "law") (Value.none) (Value.none) (Value.none) (Value.none) (none) (Value.none) (Value.none) (none) (#[]) ::
  ({ cls := Value.type "code", data := Data.fields #[Value.str (Str.ofString "law") 883, Value.str (Str.ofString "law") 884, Value.str (Str.ofString "/claim/cut.py") 885, Value.int 503 0, Value.int 1 0, Value.int 0 0, Value.int 0 0, Value.int 3 0, Value.ref 479, Value.bool true, Value.int 181 0, Value.ref 480, Value.none, Value.ref 481, Value.ref 482, Value.ref 483, Value.int 900 0, Value.int 503 0, Value.str (Str.ofString "/claim/cut.py") 901] } : Obj) ::
  fnG (Value.type "function") 3 0 (stAt 91) (Str.ofString "law") (Value.none) (Value.none) (Value.none) (Value.str (Str.ofString "law_rh0041_02") 853) (none) (Value.ref 484) (Value.none) (none) (#[]) :: []) }

abbrev looseL : List Str := [Str.ofString "RANKS", Str.ofString "EXP_ONE", Str.ofString "MOST_FACTORED"]
abbrev lvL : List (Str × WData) := [(Str.ofString "EXP_ONE", WData.tuple [WData.str { cps := #[99, 97, 108, 108] }, WData.str { cps := #[101, 120, 112] }, WData.tuple [WData.tuple [WData.str { cps := #[110, 117, 109] }, WData.int 1, WData.int 1]]]), (Str.ofString "MOST_FACTORED", WData.int 1000000)]
theorem partKeys (P : Params) : partAs = (part P).map (·.1) := rfl
noncomputable abbrev hook : Hook := kHook part partAs partKeys
abbrev mods : List Str := importedModules PySem.Challenge.pw_rh0041_02.main.body
noncomputable abbrev bootAt (w : World) (os : OsState) : Shared := ⟨boot_heap w.params, Array.mk [], boot_drawn, boot_toks, os⟩
noncomputable abbrev endAt (w : World) (os : OsState) : Shared := ⟨heapEnd w.params, Array.mk [], {}, 903, os⟩
noncomputable abbrev runAt (w : World) (os : OsState) : Option Shared := PySem.W.Fast.tw14082659384304107361 PySem.W.Fast.tw14364793385576792824 PySem.Challenge.pw_rh0041_02 w 11 (some (.ref 6)) 5418 (bootAt w os) (topStub PySem.Challenge.pw_rh0041_02)
theorem run_f (w : World) (os : OsState) : runAt (w.withFollow "special-get-raises" false) os = some (endAt (w.withFollow "special-get-raises" false) os) := by kernel_rfl
theorem run_t (w : World) (os : OsState) : runAt (w.withFollow "special-get-raises" true) os = some (endAt (w.withFollow "special-get-raises" true) os) := by kernel_rfl
theorem look1 (w : World) (os : OsState) : (staticsOk mods (boot_heap w.params) (heapEnd w.params) && namesBound PySem.Challenge.pw_rh0041_02 (heapEnd w.params) && gensDone (endAt w os) && laidKept (boot_heap w.params) (heapEnd w.params)) = true := by kernel_rfl
noncomputable abbrev seenAt (w : World) (os : OsState) := PySem.W.Fast.tw4187177175401517315 view looseL mods (fun s => xlAt view lvL s && recOk PySem.Challenge.rw_rh0041_02.row.records s) true (endAt w os)
theorem see1 (w : World) (os : OsState) : (seenAt w os).1 = expectedOf view := by kernel_rfl
theorem see2 (w : World) (os : OsState) : (seenAt w os).2.1 = bltViewBooted := by kernel_rfl
theorem see3 (w : World) (os : OsState) : (seenAt w os).2.2.1 = true := by kernel_rfl
theorem see4 (w : World) (os : OsState) : (seenAt w os).2.2.2.1 = true := by kernel_rfl
theorem see5 (w : World) (os : OsState) : (seenAt w os).2.2.2.2.1 = pinGoodD (drecsOf view) := by kernel_rfl
theorem see6 (w : World) (os : OsState) : (seenAt w os).2.2.2.2.2 = (plainGoodE view (looseW view looseL), plainGoodD view looseL, wideGood view, clsGoodW view looseL) := by kernel_rfl
theorem look2 (w : World) (os : OsState) : seenAt w os = openGood view looseL :=
  Prod.ext (see1 w os) (Prod.ext (see2 w os) (Prod.ext (see3 w os) (Prod.ext (see4 w os) (Prod.ext (see5 w os) (see6 w os)))))
theorem look3 (w : World) (os : OsState) : hook.obs (endAt w os) = hook.val w := by kernel_rfl
theorem left : LeftO PySem.Challenge.rw_rh0041_02.row.prog view looseL (fun s => xlAt view lvL s && recOk PySem.Challenge.rw_rh0041_02.row.records s) hook.obs hook.val 5418 := by
  refine LeftO.of_pieces (p := PySem.Challenge.pw_rh0041_02) (H₀ := boot_heap) (H₁ := heapEnd) (gs₀ := Array.mk []) (gs₁ := Array.mk []) (d₀ := boot_drawn) (d₁ := {}) (k₀ := boot_toks) (k₁ := 903) (m₀ := 11) (ann := some (.ref 6)) (M := 5418)
    (boot_open (by kernel_rfl) (by decide) fun _ => by kernel_rfl) (fun w => by kernel_rfl) ?_ (by decide) fun w => funext fun os => Prod.ext (look1 w os) (Prod.ext ?_ (look3 w os))
  · rw [PySem.W.Fast.te14082659384304107361, PySem.W.Fast.te14364793385576792824]
    exact byRow2 "special-get-raises" (P := fun w => ∀ os : OsState, runAt w os = some (endAt w os)) (fun w os => run_f w os) fun w os => run_t w os
  · rw [PySem.W.Fast.te4187177175401517315]
    exact look2 w os
theorem tables : PySem.Challenge.rw_rh0041_02.row.prog.tablesWhole = true := by decide +kernel

theorem fill_all : PySem.Challenge.rw_rh0041_02 = PySem.Challenge.rw_rh0041_02 ∧ Mine.part = Mine.part := by
  k_fill
  exact ⟨rfl, rfl⟩

abbrev Led := List (Addr × Obj)
/-- the three call names -/
inductive Nm where
  | p | q | r
deriving DecidableEq
def Nm.str : Nm → Str
  | .p => Str.ofString "p"
  | .q => Str.ofString "q"
  | .r => Str.ofString "r"
/-- the two symbols -/
inductive Sy where
  | x | a
deriving DecidableEq
def Sy.str : Sy → Str
  | .x => Str.ofString "x"
  | .a => Str.ofString "a_"
/-- a uniform term: a symbol, or a call with n times the same argument -/
inductive Ch where
  | sym (s : Sy)
  | call (n : Nm) (k : Nat) (c : Ch)
deriving DecidableEq
def Ch.depth : Ch → Nat
  | .sym _ => 1
  | .call _ _ c => c.depth + 1
abbrev tupO (vs : List Value) : Obj := { cls := .type "tuple", data := .seq vs.toArray 0 }
abbrev lstO (vs : List Value) (n : Nat) : Obj := { cls := .type "list", data := .seq vs.toArray n }
inductive TmIn (news : Led) : Value → Ch → Prop where
  | sym {a : Addr} {t1 t2 : Tok} {s : Sy} : (a, tupO [.str (Str.ofString "sym") t1, .str s.str t2]) ∈ news → TmIn news (.ref a) (.sym s)
  | call {a b : Addr} {t1 t2 : Tok} {n : Nm} {vs : List Value} {c : Ch} : (a, tupO [.str (Str.ofString "call") t1, .str n.str t2, .ref b]) ∈ news → (b, tupO vs) ∈ news →
      vs.length ≤ 1000 → (∀ v ∈ vs, TmIn news v c) → TmIn news (.ref a) (.call n vs.length c)
theorem TmIn.mono {news news' : Led} {v : Value} {c : Ch} (h : TmIn news v c) (hs : ∀ p ∈ news, p ∈ news') : TmIn news' v c := by
  induction h with
  | sym hm => exact .sym (hs _ hm)
  | call h1 h2 hz _ ih => exact .call (hs _ h1) (hs _ h2) hz ih
theorem mem_skip {p q : Addr × Obj} {l : Led} (h : p ∈ l) : p ∈ q :: l := List.mem_cons_of_mem _ h
theorem mem_here {p : Addr × Obj} {l : Led} : p ∈ p :: l := List.mem_cons_self
theorem mem_left {p : Addr × Obj} {l l' : Led} (h : p ∈ l) : p ∈ l ++ l' := List.mem_append_left _ h
theorem mem_right {p : Addr × Obj} {l l' : Led} (h : p ∈ l') : p ∈ l ++ l' := List.mem_append_right _ h
/-- nothing of the second list stands where a thing of the first stands -/
def Apart (news tl : Led) : Prop := ∀ q ∈ news, ∀ p ∈ tl, @Ne Nat q.1 p.1
structure Con (D : Type) where
  Rel : Led → List Value → D → Prop
  dep : D → Nat
  Out : Led → Value → D → Prop
/-- what a call hands on: all that stood stands, the new things are new -/
def Ret (h₀ : Heap) (L : Addr) (news : Led) (s : Shared) (Out : Led → Value → Prop) (Q : Value → Shared → Prop) : Prop :=
  ∀ r tl h' tk', InElt s.heap h' → (∀ p ∈ tl, s.heap.get? p.1 = none) → News h₀ L h' (news ++ tl) → Out (news ++ tl) r → Q r { s with heap := h', toks := tk' }
/-- what a call of the def at f gives back: no raise, nothing that stood is turned -/
def Tells1 {D : Type} (prog : Program) (w : World) (K : Frag) (p : Program) (loose : List Str) (mean : ExcName → Option Value) (mg mb : Str → Option Value) (f : Addr) (c : Con D) (d : D) : Prop :=
  ∀ (dp un : Nat) (gd : Option (List Code)) (cn : Str) (cs : Scope) (a : Addr) (ccd : Value) (cl : List (Str × Addr)) (outer : List Env) (A₀ : Around) (base h₀ : Heap) (L : Addr) (m : Str → Option Value) (news : Led) (s : Shared) (vs : List Value)
    (Q E : Value → Shared → Prop),
    Below A₀ base outer h₀ → Fr h₀ L s.heap m → K.In h₀ → News h₀ L s.heap news → Top p loose mean mg mb h₀ → cs.kind = .function → c.Rel news vs d → dp + c.dep d < recursionLimit → un + 10 * c.dep d < cLine →
    Ret h₀ L news s (fun led r => c.Out led r d) Q →
    wpAny (model prog w) (ktrTop dp un gd cn cs L a ccd cl outer) (call (.ref f) vs) Q E s
theorem Tells1.use {D : Type} {prog : Program} {w : World} {K : Frag} {p : Program} {loose : List Str} {mean : ExcName → Option Value} {mg mb : Str → Option Value} {f : Addr} {c : Con D} {d : D}
    {dp un : Nat} {gd : Option (List Code)} {cn : Str} {cs : Scope} {a : Addr} {ccd : Value} {cl : List (Str × Addr)} {outer : List Env} {A₀ : Around} {base h₀ : Heap} {L : Addr} {m : Str → Option Value} {news : Led} {s : Shared} {vs : List Value}
    {Q E : Value → Shared → Prop}
    (B : Below A₀ base outer h₀) (F : Fr h₀ L s.heap m) (X : K.In h₀) (T : Top p loose mean mg mb h₀) (C : Tells1 prog w K p loose mean mg mb f c d) (N : News h₀ L s.heap news) (hk : cs.kind = .function) (R : c.Rel news vs d) (hd : dp + c.dep d < recursionLimit) (hu : un + 10 * c.dep d < cLine)
    (ret : ∀ r tl h' tk', InElt s.heap h' → (∀ p ∈ tl, s.heap.get? p.1 = none) → Fr h₀ L h' m → News h₀ L h' (news ++ tl) → c.Out (news ++ tl) r d → Q r { s with heap := h', toks := tk' }) :
    wpAny (model prog w) (ktrTop dp un gd cn cs L a ccd cl outer) (call (.ref f) vs) Q E s :=
  C _ _ _ _ _ _ _ _ _ _ _ _ _ _ _ _ _ _ _ B F X N T hk R hd hu fun r tl h' tk' k9 f9 N9 o9 => ret r tl h' tk' k9 f9 (F.keeps k9) N9 o9
theorem Tells1.useA {D : Type} {prog : Program} {w : World} {K : Frag} {p : Program} {loose : List Str} {mean : ExcName → Option Value} {mg mb : Str → Option Value} {f : Addr} {c : Con D} {d : D}
    {dp un : Nat} {gd : Option (List Code)} {cn : Str} {cs : Scope} {a : Addr} {ccd : Value} {cl : List (Str × Addr)} {outer : List Env} {A₀ : Around} {base h₀ : Heap} {L : Addr} {m : Str → Option Value} {news : Led} {s : Shared} {vs : List Value}
    {Q E : Value → Shared → Prop}
    (B : Below A₀ base outer h₀) (F : Fr h₀ L s.heap m) (X : K.In h₀) (T : Top p loose mean mg mb h₀) (C : ∀ d, Tells1 prog w K p loose mean mg mb f c d) (N : News h₀ L s.heap news) (hk : cs.kind = .function) (R : c.Rel news vs d) (hd : dp + c.dep d < recursionLimit) (hu : un + 10 * c.dep d < cLine)
    (ret : ∀ r tl h' tk', InElt s.heap h' → (∀ p ∈ tl, s.heap.get? p.1 = none) → Fr h₀ L h' m → News h₀ L h' (news ++ tl) → c.Out (news ++ tl) r d → Q r { s with heap := h', toks := tk' }) :
    wpAny (model prog w) (ktrTop dp un gd cn cs L a ccd cl outer) (call (.ref f) vs) Q E s := Tells1.use B F X T (C d) N hk R hd hu ret
noncomputable abbrev Tell {D : Type} (w : World) (mean : ExcName → Option Value) (mg mb : Str → Option Value) (f : Addr) (c : Con D) : Prop :=
  ∀ d, Tells1 PySem.Challenge.rw_rh0041_02.row.prog w (Mine.part w.params) Mine.view (looseW Mine.view [Str.ofString "RANKS", Str.ofString "EXP_ONE", Str.ofString "MOST_FACTORED"]) mean mg mb f c d
theorem Tell.ind {D : Type} {w : World} {mean : ExcName → Option Value} {mg mb : Str → Option Value} {f : Addr} {c : Con D}
    (step : ∀ d, (∀ d', c.dep d' < c.dep d → Tells1 PySem.Challenge.rw_rh0041_02.row.prog w (Mine.part w.params) Mine.view (looseW Mine.view [Str.ofString "RANKS", Str.ofString "EXP_ONE", Str.ofString "MOST_FACTORED"]) mean mg mb f c d') →
      Tells1 PySem.Challenge.rw_rh0041_02.row.prog w (Mine.part w.params) Mine.view (looseW Mine.view [Str.ofString "RANKS", Str.ofString "EXP_ONE", Str.ofString "MOST_FACTORED"]) mean mg mb f c d) : Tell w mean mg mb f c := by
  have all : ∀ n, ∀ d, c.dep d < n → Tells1 PySem.Challenge.rw_rh0041_02.row.prog w (Mine.part w.params) Mine.view (looseW Mine.view [Str.ofString "RANKS", Str.ofString "EXP_ONE", Str.ofString "MOST_FACTORED"]) mean mg mb f c d := by
    intro n
    induction n with
    | zero => intro d h; exact absurd h (Nat.not_lt_zero _)
    | succ n ih => exact fun d h => step d fun d' h' => ih d' (Nat.lt_of_lt_of_le h' (Nat.le_of_lt_succ h))
  exact fun d => all _ d (Nat.lt_succ_self _)
section
variable {prog : Program} {w : World} {A : Around} {E : Value → Shared → Prop} {s : Shared} {h₀ : Heap} {L D : Addr} {m : Str → Option Value} {news : Led}
theorem subL {value slice : PySem.Expr} {vs : List Value} {ep : Nat} {k : Int} {u : Tok} {v : Value} {Q : Value → Shared → Prop} (N : News h₀ L s.heap news) (hm : (D, lstO vs ep) ∈ news)
    (h0 : 0 ≤ k) (hhi : k < 2 ^ 63) (hx : vs[k.toNat]? = some v) (h : Q v s)
    (hs : subscripted slice false (.ref D) (.int k u) = operate [.ref D, .int k u] (getItem (.ref D) (.int k u))) :
    wpAny (model prog w) A (subscriptTail value slice (.ref D) (.int k u)) Q E s :=
  tail_any (News.isList N hm).typeIs slot_list_getitem.lookup (wpAny_getItem_list (News.isList N hm) h0 hhi (by simpa using hx) h) hs
theorem subT {value slice : PySem.Expr} {vs : List Value} {k : Int} {u : Tok} {v : Value} {Q : Value → Shared → Prop} (N : News h₀ L s.heap news) (hm : (D, tupO vs) ∈ news)
    (h0 : 0 ≤ k) (hhi : k < 2 ^ 63) (hx : vs[k.toNat]? = some v) (h : Q v s)
    (hs : subscripted slice false (.ref D) (.int k u) = operate [.ref D, .int k u] (getItem (.ref D) (.int k u))) :
    wpAny (model prog w) A (subscriptTail value slice (.ref D) (.int k u)) Q E s := by
  have hlt : k.toNat < vs.length := (List.getElem?_eq_some_iff.mp hx).1
  refine item_tupleT (j := k.toNat) (News.isTup N hm) (by omega) hhi ?_ hx h hs
  unfold seqIndex?
  simp
  omega
end

/-- what stands ahead of the caller's ledger -/
inductive Front (news : Led) : Led → Led → Prop where
  | nil : Front news news []
  | cons {p : Addr × Obj} {l tl : Led} : (∀ q ∈ news, @Ne Nat q.1 p.1) → Front news l tl → Front news (p :: l) (p :: tl)
  | app {l tl tl' : Led} : Front news l tl → Apart news tl' → Front news (l ++ tl') (tl ++ tl')
theorem Front.mem {news l tl : Led} (f : Front news l tl) : ∀ p ∈ news ++ tl, p ∈ l := by
  induction f with
  | nil => intro p hp; simpa using hp
  | @cons q l tl _ _ ih =>
    intro p hp
    rcases List.mem_append.mp hp with hp | hp
    · exact .tail _ (ih p (List.mem_append.mpr (.inl hp)))
    · rcases List.mem_cons.mp hp with rfl | hp
      · exact .head _
      · exact .tail _ (ih p (List.mem_append.mpr (.inr hp)))
  | app _ _ ih =>
    intro p hp
    rcases List.mem_append.mp hp with hp | hp
    · exact List.mem_append.mpr (.inl (ih p (List.mem_append.mpr (.inl hp))))
    · rcases List.mem_append.mp hp with hp | hp
      · exact List.mem_append.mpr (.inl (ih p (List.mem_append.mpr (.inr hp))))
      · exact List.mem_append.mpr (.inr hp)
theorem Front.back {news l tl : Led} (f : Front news l tl) : ∀ p ∈ l, p ∈ news ++ tl := by
  induction f with
  | nil => intro p hp; simpa using hp
  | @cons q l tl _ _ ih =>
    intro p hp
    rcases List.mem_cons.mp hp with rfl | hp
    · exact List.mem_append.mpr (.inr (.head _))
    · rcases List.mem_append.mp (ih p hp) with hp | hp
      · exact List.mem_append.mpr (.inl hp)
      · exact List.mem_append.mpr (.inr (.tail _ hp))
  | app _ _ ih =>
    intro p hp
    rcases List.mem_append.mp hp with hp | hp
    · rcases List.mem_append.mp (ih p hp) with hp | hp
      · exact List.mem_append.mpr (.inl hp)
      · exact List.mem_append.mpr (.inr (List.mem_append.mpr (.inl hp)))
    · exact List.mem_append.mpr (.inr (List.mem_append.mpr (.inr hp)))
theorem Front.news {news l tl : Led} {h₀ h : Heap} {L : Addr} (f : Front news l tl) (N : News h₀ L h l) : News h₀ L h (news ++ tl) := fun p hp => N p (f.mem p hp)
theorem Front.apart {news l tl : Led} (f : Front news l tl) : Apart news tl := by
  induction f with
  | nil => intro q _ p hp; cases hp
  | cons h _ ih =>
    intro q hq p hp
    rcases List.mem_cons.mp hp with rfl | hp
    · exact h q hq
    · exact ih q hq p hp
  | app _ h ih =>
    intro q hq p hp
    rcases List.mem_append.mp hp with hp | hp
    · exact ih q hq p hp
    · exact h q hq p hp
theorem Apart.sub {news news' tl : Led} (h : Apart news tl) (hs : ∀ q ∈ news', q ∈ news) : Apart news' tl := fun q hq p hp => h q (hs q hq) p hp
theorem ne_of_allLt {a : Nat} {news : Led} (h : AllLt a news) : ∀ q ∈ news, @Ne Nat q.1 a := fun q hq => Nat.ne_of_lt (ktn_ltOf h q hq)
theorem ne_of_lts {a : Nat} {news : Led} (h : ∀ q ∈ news, q.1 < a) : ∀ q ∈ news, @Ne Nat q.1 a := fun q hq => Nat.ne_of_lt (h q hq)
theorem ne_of_off1 {a : Nat} {news : Led} : LCg.Off1 a news → ∀ q ∈ news, @Ne Nat q.1 a := by
  induction news with
  | nil => intro _ q hq; cases hq
  | cons p r ih =>
    intro h q hq
    rcases List.mem_cons.mp hq with rfl | hq
    · exact h.1
    · exact ih h.2 q hq
theorem fresh_of {H g h₁ : Heap} {L' : Addr} {news tl : Led} (G : GSub H g (news.map (·.1))) (N' : News g L' h₁ tl) (ap : Apart news tl) : ∀ p ∈ tl, H.get? p.1 = none := by
  intro p hp
  cases e : H.get? p.1 with
  | none => rfl
  | some o =>
    by_cases hm : p.1 ∈ news.map (·.1)
    · obtain ⟨q, hq, e'⟩ := List.mem_map.mp hm
      exact absurd e' (ap q hq p hp)
    · have := G _ _ e hm
      rw [(N' p hp).2.2] at this
      cases this
theorem fin {Out : Led → Value → Prop} {news l tl : Led} {h₀ h' g : Heap} {L L' : Addr} {m' : Str → Option Value} {s : Shared} {Q : Value → Shared → Prop} {r : Value} {tk' : Nat}
    (hret : Ret h₀ L news s Out Q) (N : News h₀ L s.heap news) (G : GSub s.heap g (news.map (·.1))) (F' : Fr g L' h' m') (N' : News g L' h' l) (kN : News h₀ L h' l) (f : Front news l tl) (o : ∀ n', (∀ p ∈ l, p ∈ n') → Out n' r) : Q r { s with heap := h', toks := tk' } :=
  hret r tl h' tk' (elt_after (InElt.start _) G N F' N' fun p hp => f.mem p (List.mem_append_left _ hp)) (fresh_of G (fun p hp => N' p (f.mem p (List.mem_append_right _ hp))) f.apart) (f.news kN) (o _ f.back)
/-- the same where the body went over a part of the ledger alone -/
theorem fin2 {Out : Led → Value → Prop} {news n₀ l tl : Led} {h₀ h' g : Heap} {L L' : Addr} {m' : Str → Option Value} {s : Shared} {Q : Value → Shared → Prop} {r : Value} {tk' : Nat}
    (hret : Ret h₀ L news s Out Q) (N : News h₀ L s.heap news) (N0 : News h₀ L s.heap n₀) (G : GSub s.heap g (n₀.map (·.1))) (F' : Fr g L' h' m') (N' : News g L' h' l) (kN : News h₀ L h' l) (f : Front n₀ l tl)
    (o : ∀ n', (∀ p ∈ news, p ∈ n') → (∀ p ∈ tl, p ∈ n') → Out n' r) : Q r { s with heap := h', toks := tk' } := by
  have k := elt_after (InElt.start _) G N0 F' N' fun p hp => f.mem p (List.mem_append_left _ hp)
  refine hret r tl h' tk' k (fresh_of G (fun p hp => N' p (f.mem p (List.mem_append_right _ hp))) f.apart) (fun p hp => ?_) (o _ (fun p hp => List.mem_append_left _ hp) fun p hp => List.mem_append_right _ hp)
  rcases List.mem_append.mp hp with hp | hp
  · exact ⟨k _ _ (N p hp).1, (N p hp).2⟩
  · exact kN p (f.mem p (List.mem_append_right _ hp))
section
variable {prog : Program} {w : World} {A A₀ : Around} {s : Shared} {env : Env} {outer : List Env} {base h₀ : Heap} {L : Addr} {m : Str → Option Value} {news : Led}
/-- the new cells and the caller's ledger, seen from a frame that does not know the ledger -/
theorem hidden_news {h h₁ : Heap} {news cells : Led} (N : News h₀ L h news) (keep : ∀ b o, h.get? b = some o → h₁.get? b = some o) (NC : News h h.objs.size h₁ cells) :
    News (hideAll h (news.map (·.1))) h.objs.size h₁ (cells ++ news) := by
  refine fun p hp => (List.mem_append.mp hp).elim (fun hc => ?_) fun ho => ?_
  · obtain ⟨n1, n2, n3⟩ := NC p hc
    exact ⟨n1, n2, Option.eq_none_iff_forall_ne_some.mpr fun o q => nomatch n3.symm.trans (of_hideAll _ q)⟩
  · exact ⟨keep _ _ (N p ho).1, Nat.ne_of_lt (Heap.lt_size (N p ho).1), hideAll_none _ (List.mem_map_of_mem ho)⟩
theorem enterC {K : Frag} {p : Program} {loose : List Str} {mean : ExcName → Option Value} {mg mb : Str → Option Value} {R : Result → Shared → Prop} {name qual : Str} {params : Arguments} {body : List Stmt} {scope : Scope} {dV kV doc pm cdv ct oc : Value} {an od : Option Addr} {osl : Array (Option Value)} {f : Addr} {args : Args} {binds : List (Str × Value)}
    (B : Below A₀ base outer h₀) (F : Fr h₀ L s.heap m) (X₀ : K.In h₀) (N : News h₀ L s.heap news) (T : Top p loose mean mg mb h₀) (hA : A.frames = some (env :: outer)) (hf : env.frame = some L) (hke : env.scope.kind = .function)
    (ho : K.lookup f = some ⟨oc, od, .func (fnOf name qual params body scope dV kV doc pm an cdv ct), osl⟩) (hcd : codeIn K cdv qual = true) (hroom : A.depth < recursionLimit)
    (hbind : BindsTo s (fnOf name qual params body scope dV kV doc pm an cdv ct) args binds) (hkind : (binds.all fun y => scope.names.lookup y.1 == some .local || scope.names.lookup y.1 == some .cell) = true)
    (hnd : ((cellsFrom 0 scope.names []).map (·.1)).Nodup)
    (h : ∀ g L' h₁ tk cells, Fr h₀ L g m → Fr g L' h₁ (bindL (envOfC qual scope L' f cdv).kindOf binds fun _ => none) → News g L' h₁ (cells ++ news) →
      CellsAre (bindC (envOfC qual scope L' f cdv).kindOf binds fun _ => none) (cellsFrom (L' + 1) scope.names []) cells → Below A base (env :: outer) g → K.In g → Top p loose mean mg mb g → (∀ p ∈ news, p.1 < L') → GSub s.heap g (news.map (·.1)) →
      wpAny (model prog w) (A.deeper (envOfC qual scope L' f cdv)) (execs body (envOfC qual scope L' f cdv))
        (fun fl s' => LeaveK h₀ L m g R (match fl with | .ret v => v | _ => .none) s')
        (fun e s' => wpAny (model prog w) (A.deeper (envOfC qual scope L' f cdv)) (leaving (envOfC qual scope L' f cdv) e) (fun _ s'' => R (.error e) s'') (fun e' s'' => R (.error e') s'') s')
        { s with heap := h₁, toks := tk })
    (hco : scope.isCoroutine = false) (hgen : scope.isGenerator = false) (hk : scope.kind = .function) : codeAny (model prog w) A (.call (.ref f) args) R s := by
  obtain ⟨FG, BG, st, lv⟩ := groundX (R := R) B F N hA hf hke
  have all := (X₀.keeps F.keep) _ _ ho
  refine codeAny_call_function hroom all rfl hco hgen rfl (codeRec_of (X₀.keeps F.keep) hcd) (hbind _ _ _ _ ?_)
  refine wpAny_newFunctionEnv_cells hk (kindsX hkind _) fun env' he s' x => ?_
  subst he
  refine ⟨(T.nolimit.keeps F.keep).keeps x.toInCall.keep, codeAny_func ?_⟩
  have once : ∀ n c, (n, c) ∈ cellsFrom (s.heap.objs.size + 1) scope.names [] → (cellsFrom (s.heap.objs.size + 1) scope.names []).lookup n = some c :=
    fun n c => lookup_of_mem_nodup (cellsFrom_names scope.names 0 (s.heap.objs.size + 1) [] [] rfl ▸ hnd)
  obtain ⟨cells, NC, Y⟩ := Cl.news (h₀ := s.heap) (Nat.le_refl _) fun n c hm => ⟨x.cell n c (once n c hm), x.above n c hm⟩
  have below : Fr (hideAll s.heap (news.map (·.1))) s.heap.objs.size s'.heap _ := ⟨x.toInCall.ns, fun b o e => x.toInCall.keep b o (of_hideAll _ e), Nat.le_of_eq (hideAll_size _ _)⟩
  have led := hidden_news N x.toInCall.keep NC
  obtain ⟨h₁, tk, rfl, _⟩ := x.done
  exact wpAny_mono (h _ _ h₁ tk cells FG below led Y BG (X₀.keeps st) (T.keeps st) (fun p hp => Heap.lt_size (N p hp).1) fun b o e n => hideAll_get _ e n) (fun fl s' hl => lv _ _ hl) fun _ _ y => y
end
section
variable {M : Model} {A : Around} {E : Value → Shared → Prop} {s : Shared} {h₀ : Heap} {L D : Addr} {m : Str → Option Value} {news : Led}
theorem lenL {prog : Program} {w : World} {vs : List Value} {ep : Nat} {Q : Value → Shared → Prop} (N : News h₀ L s.heap news) (hm : (D, lstO vs ep) ∈ news) (hz : vs.length ≤ 30000) (h : Q (.int vs.length (s.toks + 1)) { s with toks := s.toks + 1 + 1 }) :
    wpAny (model prog w) A (call (.builtin "len") [.ref D]) Q E s := len_list (News.isList N hm) (by simp; omega) (by simpa using h)
theorem lenT {prog : Program} {w : World} {vs : List Value} {Q : Value → Shared → Prop} (N : News h₀ L s.heap news) (hm : (D, tupO vs) ∈ news) (hz : vs.length ≤ 30000) (h : Q (.int vs.length (s.toks + 1)) { s with toks := s.toks + 1 + 1 }) :
    wpAny (model prog w) A (call (.builtin "len") [.ref D]) Q E s := len_tuple (News.isTup N hm) (by simp; omega) (by simpa using h)
end
theorem allLt_mem {a : Nat} {l : Led} (h : AllLt a l) : ∀ q ∈ l, q.1 < a := fun q hq => ktn_ltOf h q hq
theorem ne_of_allLt_left {a : Nat} {l l' : Led} (h : AllLt a (l ++ l')) : ∀ q ∈ l, @Ne Nat q.1 a := fun q hq => Nat.ne_of_lt (ktn_ltOf h q (List.mem_append_left _ hq))
theorem ne_of_allLt_right {a : Nat} {l l' : Led} (h : AllLt a (l ++ l')) : ∀ q ∈ l', @Ne Nat q.1 a := fun q hq => Nat.ne_of_lt (ktn_ltOf h q (List.mem_append_right _ hq))
theorem ne_of_apart {l tl : Led} {a : Addr} {o : Obj} (h : Apart l tl) (hm : (a, o) ∈ l) : ∀ q ∈ tl, @Ne Nat q.1 a := fun q hq => Ne.symm (h _ hm q hq)
section
variable {prog : Program} {w : World} {A : Around} {E : Value → Shared → Prop} {s : Shared}
theorem strEqB {x y : Str} {t u : Tok} {b : Bool} {Q : Value → Shared → Prop} (hb : (x == y) = b) (h : Q (.bool b) s) : wpAny (model prog w) A (compareOp .Eq (.str x t) (.str y u)) Q E s := eq_str (by rw [hb]; exact h)
theorem strInB {t : Addr} {items : Array Value} {ys : List Str} {x : Str} {u : Tok} {b : Bool} {Q : Value → Shared → Prop} (ht : IsTup s.heap t items) (hi : StrsAre items.toList ys) (hb : ys.any (· == x) = b)
    (h : Q (.bool b) s) : wpAny (model prog w) A (compareOp .In (.str x u) (.ref t)) Q E s := in_tuple_strs ht hi (by rw [hb]; exact h)
end
theorem nm_self (n : Nm) : (n.str == n.str) = true := by cases n <;> decide
theorem nm_ne {n n' : Nm} (h : n ≠ n') : (n.str == n'.str) = false := by
  cases n <;> cases n' <;> first | exact absurd rfl h | decide
theorem nm_lit {y : Str} (h : ([Nm.p, .q, .r].all fun n => !(n.str == y)) = true) (n : Nm) : (n.str == y) = false := by
  simp only [List.all_cons, Bool.and_eq_true, Bool.not_eq_true', List.all_nil, and_true] at h
  cases n
  · exact h.1
  · exact h.2.1
  · exact h.2.2
theorem nm_in {ys : List Str} (h : ([Nm.p, .q, .r].all fun n => !(ys.any (· == n.str))) = true) (n : Nm) : ys.any (· == n.str) = false := by
  simp only [List.all_cons, Bool.and_eq_true, Bool.not_eq_true', List.all_nil, and_true] at h
  cases n
  · exact h.1
  · exact h.2.1
  · exact h.2.2
theorem ne_of_allLt1 {a : Nat} {news : Led} (h : AllLt a news) : ∀ q ∈ news, @Ne Nat q.1 (a + 1) := fun q hq => Nat.ne_of_lt (Nat.lt_succ_of_lt (ktn_ltOf h q hq))
theorem ne_of_lts1 {a : Nat} {news : Led} (h : ∀ q ∈ news, q.1 < a) : ∀ q ∈ news, @Ne Nat q.1 (a + 1) := fun q hq => Nat.ne_of_lt (Nat.lt_succ_of_lt (h q hq))
theorem ne_of_allLt_sub {a : Nat} {news l : Led} (h : AllLt a l) (hs : ∀ q ∈ news, q ∈ l) : ∀ q ∈ news, @Ne Nat q.1 a := fun q hq => Nat.ne_of_lt (ktn_ltOf h q (hs q hq))
theorem ne_of_lts2 {a : Nat} {news : Led} (h : ∀ q ∈ news, q.1 < a) : ∀ q ∈ news, @Ne Nat q.1 (a + 2) := fun q hq => Nat.ne_of_lt (Nat.lt_of_lt_of_le (h q hq) (Nat.le_add_right _ _))
theorem ne_of_lts11 {a : Nat} {news : Led} (h : ∀ q ∈ news, q.1 < a) : ∀ q ∈ news, @Ne Nat q.1 (a + 1 + 1) := ne_of_lts2 h
theorem all_mono {vs : List Value} {l l' : Led} {c : Ch} (h : ∀ v ∈ vs, TmIn l v c) (hs : ∀ p ∈ l, p ∈ l') : ∀ v ∈ vs, TmIn l' v c := fun v hv => (h v hv).mono hs
theorem ne_of_lts_sub {a : Nat} {news l : Led} (h : ∀ q ∈ l, q.1 < a) (hs : ∀ q ∈ news, q ∈ l) : ∀ q ∈ news, @Ne Nat q.1 a := fun q hq => Nat.ne_of_lt (h q (hs q hq))

section
variable {prog : Program} {w : World} {A : Around} {E : Value → Shared → Prop} {s : Shared} {h₀ : Heap} {L : Addr} {m : Str → Option Value} {env : Env}
theorem Apart.nil {news : Led} : Apart news [] := fun _ _ _ hp => nomatch hp
theorem Apart.app {news tl tl' : Led} (h : Apart news tl) (h' : Apart news tl') : Apart news (tl ++ tl') := fun q hq p hp =>
  (List.mem_append.mp hp).elim (h q hq p) (h' q hq p)
theorem apart_fresh {news tl : Led} {h : Heap} (N : News h₀ L h news) (f : ∀ p ∈ tl, h.get? p.1 = none) : Apart news tl := fun q hq p hp e => by
  have := (N q hq).1
  rw [e, f p hp] at this
  cases this
/-- what a turn of a block gives back: all that stood stands, the item is good -/
def Turned (h₀ : Heap) (L : Addr) (led : Led) (P : Led → Value → Prop) (s₁ : Shared) (y : Value) (s₂ : Shared) : Prop :=
  ∃ h' tk tl, s₂ = { s₁ with heap := h', toks := tk } ∧ InElt s₁.heap h' ∧ (∀ p ∈ tl, s₁.heap.get? p.1 = none) ∧ News h₀ L h' (led ++ tl) ∧ P (led ++ tl) y
def InComp (_ : Led) : Prop := True
theorem inC {led : Led} {p1 p2 p3 : Addr × Obj} {h : Heap} (_ : InComp led) (N : News h₀ L h (p1 :: p2 :: p3 :: led)) : News h₀ L h led := fun p hp => N p (.tail _ (.tail _ (.tail _ hp)))
def Turn (prog : Program) (w : World) (A : Around) (h₀ : Heap) (L : Addr) (m : Str → Option Value) (env : Env) (elt : PySem.Expr) (x : Str) (scope : Scope) (cl : List (Str × Addr)) (s : Shared) (P : Led → Value → Prop) (news : Led) (v : Value) : Prop :=
  ∀ I oI C oC D oD m₂ tl h tk (E' : Value → Shared → Prop), InComp (news ++ tl) → LCg.NsObj oC m₂ → m₂ x = some v → Fr h₀ L h m → News h₀ L h ((I, oI) :: (C, oC) :: (D, oD) :: (news ++ tl)) →
    wpAny (model prog w) A (eval elt (compEnvC scope cl C env)) (Turned h₀ L (news ++ tl) P { s with heap := h, toks := tk }) E' { s with heap := h, toks := tk }
theorem comp_rest {elt : PySem.Expr} {x : Str} {scope : Scope} {cl : List (Str × Addr)} {S : Led → Prop} {Fin : List Value → Led → Prop} {Good : Led → Value → Prop} {vs : List Value} {news : Led}
    (mono : ∀ n n' v, (∀ p ∈ n, p ∈ n') → Good n v → Good n' v) (hS : ∀ tl, S (news ++ tl))
    (turn : ∀ v ∈ vs, Turn prog w A h₀ L m env elt x scope cl s Good news v)
    (fin : ∀ ys tl, Apart news tl → ys.length = vs.length → (∀ y ∈ ys, Good (news ++ tl) y) → Fin ys (news ++ tl)) :
    LCg.CompRest prog w A h₀ L m env elt x scope cl s S (fun i v => vs[i]? = some v) Fin vs.length 0 [] news := by
  have key : ∀ (j i : Nat) (ys : List Value) (tl : Led), i + j = vs.length → ys.length = i → Apart news tl → (∀ y ∈ ys, Good (news ++ tl) y) →
      LCg.CompRest prog w A h₀ L m env elt x scope cl s S (fun i v => vs[i]? = some v) Fin j i ys (news ++ tl) := by
    intro j
    induction j with
    | zero => exact fun i ys tl hi hy ap g => LCg.CompRest.zero (fin ys tl ap (by omega) g)
    | succ j ih =>
      intro i ys tl hi hy ap g
      refine LCg.CompRest.succ ?_
      intro v I oI C oC D m₂ h tk E' hv hC hx F N off ne
      refine wpAny_mono (turn v (List.mem_of_getElem? hv) I oI C oC D _ m₂ tl h tk E' trivial hC hx F N) (fun y s₂ hq => ?_) fun _ _ e => e
      obtain ⟨h', tk', tl', rfl, k', f', N', g'⟩ := hq
      have e : news ++ (tl ++ tl') = (news ++ tl) ++ tl' := (List.append_assoc ..).symm
      have ap' : Apart ((I, oI) :: (C, oC) :: (D, LCg.lst ys) :: (news ++ tl)) tl' := apart_fresh N f'
      refine ⟨h', tk', news ++ (tl ++ tl'), rfl, F.keeps k', fun p hp => ?_, ?_, hS _, ?_⟩
      · rcases List.mem_cons.mp hp with rfl | hp
        · exact ⟨k' _ _ (N _ (.head _)).1, (N _ (.head _)).2⟩
        · rcases List.mem_cons.mp hp with rfl | hp
          · exact ⟨k' _ _ (N _ (.tail _ (.head _))).1, (N _ (.tail _ (.head _))).2⟩
          · rcases List.mem_cons.mp hp with rfl | hp
            · exact ⟨k' _ _ (N _ (.tail _ (.tail _ (.head _)))).1, (N _ (.tail _ (.tail _ (.head _)))).2⟩
            · exact N' p (e ▸ hp)
      · rw [e]
        refine LCg.Off3.of fun p hp => (List.mem_append.mp hp).elim (off.mem p) fun hp => ⟨?_, ?_, ?_⟩
        · exact fun q => ap' _ (.head _) p hp q.symm
        · exact fun q => ap' _ (.tail _ (.head _)) p hp q.symm
        · exact fun q => ap' _ (.tail _ (.tail _ (.head _))) p hp q.symm
      · refine ih (i + 1) (ys ++ [y]) (tl ++ tl') (by omega) (by simp [hy]) (ap.app fun q hq p hp => ap' q (.tail _ (.tail _ (.tail _ (List.mem_append_left _ hq)))) p hp) fun z hz => ?_
        rw [e]
        rcases List.mem_append.mp hz with hz | hz
        · exact mono _ _ _ (fun p hp => List.mem_append_left _ hp) (g z hz)
        · rw [List.mem_singleton.mp hz]; exact g'
  have := key vs.length 0 [] [] (by omega) rfl Apart.nil (fun _ h => nomatch h)
  rwa [List.append_nil] at this
/-- the source of a block, a list or a tuple of the call's, its turns and its end -/
def CSrc (prog : Program) (w : World) (A : Around) (h₀ : Heap) (L : Addr) (m : Str → Option Value) (env : Env) (elt : PySem.Expr) (x : Str) (scope : Scope) (cl : List (Str × Addr)) (Q : Value → Shared → Prop) (xv : Value) (s₁ : Shared) : Prop :=
  ∃ (Good : Led → Value → Prop) (ax : Addr) (vs : List Value) (news : Led), xv = .ref ax ∧ A.handled = none ∧ Fr h₀ L s₁.heap m ∧ News h₀ L s₁.heap news ∧ ((∃ ep, (ax, lstO vs ep) ∈ news) ∨ (ax, tupO vs) ∈ news) ∧ vs.length ≤ sizeLine ∧
    (∀ n n' v, (∀ p ∈ n, p ∈ n') → Good n v → Good n' v) ∧ (∀ v ∈ vs, Turn prog w A h₀ L m env elt x scope cl s₁ Good news v) ∧
    ∀ ys tl D h tk, Fr h₀ L h m → News h₀ L h ((D, lstO ys ys.length) :: (news ++ tl)) → Apart news tl → (∀ q ∈ news ++ tl, @Ne Nat q.1 D) → ys.length = vs.length → (∀ y ∈ ys, Good (news ++ tl) y) → Q (.ref D) { s₁ with heap := h, toks := tk }
/-- an iterator of a list or tuple of the ledger is made: how it walks, and that it stands while the ledger stands -/
theorem feed {ax : Addr} {vs : List Value} {news : Led} (hh : A.handled = none) (F : Fr h₀ L s.heap m) (N : News h₀ L s.heap news) (src : (∃ ep, (ax, lstO vs ep) ∈ news) ∨ (ax, tupO vs) ∈ news) :
    ∃ (o : Obj) (S : Led → Prop) (St : Nat → Heap → Prop), Walks prog w A s.heap.objs.size [s.heap.objs.size, ax] [s.heap.objs.size] vs.length (fun i v => vs[i]? = some v) St ∧
      (∀ i h, St i h → ∃ x, h.get? s.heap.objs.size = some x) ∧
      (∀ i h h' x nw, St i h → h.get? s.heap.objs.size = some x → h'.get? s.heap.objs.size = some x → (∀ b y, h₀.get? b = some y → h'.get? b = some y) → News h₀ L h' nw → S nw → St i h') ∧
      St 0 (s.heap.push o) ∧ (∀ tl, S (news ++ tl)) ∧ ∀ Q E, Q (.ref s.heap.objs.size) { s with heap := s.heap.push o } → wpAny (model prog w) A (pyIter (.ref ax)) Q E s := by
  rcases src with ⟨ep, hm⟩ | hm
  · have lt : s.heap.objs.size ≠ ax := (Nat.ne_of_lt (Heap.lt_size (N _ hm).1)).symm
    have at' : ∀ tl, LCg.SrcAt h₀ ax vs.toArray (news ++ tl) := fun tl => .inr ⟨_, List.mem_append_left _ hm, rfl, _, rfl⟩
    have l := N.isList hm
    have W := Walks.list (prog := prog) (w := w) hh s.heap.objs.size ax lt.symm vs.toArray
    simp only [List.size_toArray, List.getElem?_toArray] at W
    exact ⟨_, LCg.SrcAt h₀ ax vs.toArray, _, W, fun i h st => st.1.imp fun _ q => q.1, LCg.list_st, ⟨⟨_, Heap.get?_push_size _ rfl, rfl, rfl⟩, l.push _⟩, at', fun Q E => wpAny_pyIter_list l⟩
  · have lt : s.heap.objs.size ≠ ax := (Nat.ne_of_lt (Heap.lt_size (N _ hm).1)).symm
    have l : ∀ {h nw}, News h₀ L h nw → (ax, tupO vs) ∈ nw → h.IsTuple ax vs.toArray := fun N hm => ⟨_, (N _ hm).1, rfl, _, rfl⟩
    have W := Walks.tuple (prog := prog) (w := w) hh s.heap.objs.size ax lt.symm vs.toArray
    simp only [List.size_toArray, List.getElem?_toArray] at W
    refine ⟨_, fun nw => (ax, tupO vs) ∈ nw, _, W, fun i h st => st.1.imp fun _ q => q.1, fun i h h' x nw st e e' _ N' hm' => ⟨?_, l N' hm'⟩, ⟨⟨_, Heap.get?_push_size _ rfl, rfl, rfl⟩, (l N hm).push _⟩, fun _ => List.mem_append_left _ hm, fun Q E => wpAny_pyIter_tuple (l N hm)⟩
    obtain ⟨⟨y, q, r⟩, _⟩ := st
    cases q.symm.trans e
    exact ⟨x, e', r⟩
theorem in_push {h : Heap} {o : Obj} {ax : Nat} (lt : @LT.lt Nat _ ax h.objs.size) : ∀ b ∈ ([h.objs.size, ax] : List Nat), b < (h.push o).objs.size := by
  rw [Heap.size_push]
  exact List.forall_mem_cons.mpr ⟨Nat.lt_succ_self _, List.forall_mem_singleton.mpr (Nat.lt_succ_of_lt lt)⟩
/-- back from the block's own frame: its namespace may be turned -/
theorem home {D C : Addr} {X : Obj} {led : Led} {h h'' : Heap} (F' : Fr h₀ L h m) (N' : News h₀ L h ((D, X) :: led)) (hC₀ : h₀.get? C = none) (hCL : C ≠ L) (hCD : C ≠ D) (offC : ∀ p ∈ led, p.1 ≠ C) (same : Heap.SameBut C h h'') :
    Fr h₀ L h'' m ∧ News h₀ L h'' ((D, X) :: led) := by
  have ne : ∀ p ∈ (D, X) :: led, p.1 ≠ C := List.forall_mem_cons.mpr ⟨hCD.symm, offC⟩
  exact ⟨F'.change same hCL hC₀, fun p hp => ⟨same.extBut p.1 p.2 (ne p hp) (N' p hp).1, (N' p hp).2⟩⟩
set_option linter.unusedVariables false in
theorem ListComp_M {elt iter : PySem.Expr} {x : Str} {px : Pos} {scope : Scope} {cl : List (Str × Addr)} {pos : Pos} {Q : Value → Shared → Prop} (F₀ : Fr h₀ L s.heap m)
    (hclos : closureFor scope env = pure cl) (hcell : ∀ y ∈ scope.names, y.2 ≠ .cell) (hkind : scope.kind = .function)
    (hnames : ∀ y ∈ scope.names, y.2 = .local → scope.names.lookup y.1 = some .local) (hx : scope.names.lookup x = some .local)
    (h : wpAny (model prog w) A (eval iter env) (CSrc prog w A h₀ L m env elt x scope cl Q) E s)
    (hs : ∀ x, foldedSetIterable iter env x = pure x := by intro _; rfl) :
    wpAny (model prog w) A (eval (.ListComp elt [⟨.Name x px, iter, [], 0⟩] scope pos) env) Q E s := by
  rw [eval_ListComp]
  refine wpAny_comprehension_free (use := none) rfl hs hclos hkind hnames (wpAny_mono h (fun xv s₁ src => ?_) fun _ _ e => e)
  obtain ⟨Good, ax, vs, news, rfl, hh, F, N, hsrc, hsz, mono, turn, hfin⟩ := src
  have lt : ax < s₁.heap.objs.size := hsrc.elim (fun ⟨_, hm⟩ => Heap.lt_size (N _ hm).1) fun hm => Heap.lt_size (N _ hm).1
  obtain ⟨o, S, St, W, ho, keep, st0, hS, it⟩ := feed (prog := prog) (w := w) hh F N hsrc
  have up : ∀ b x, s₁.heap.get? b = some x → (s₁.heap.push o).get? b = some x := fun _ _ => Heap.get?_push_of_some _
  have turn' : ∀ v ∈ vs, Turn prog w A h₀ L m env elt x scope cl { s₁ with heap := s₁.heap.push o } Good news v := turn
  have rest := comp_rest (Fin := LCg.FinE h₀ L m { s₁ with heap := s₁.heap.push o } Q) mono hS turn' fun ys tl ap hl gd D h tk F' N' o1 => hfin ys tl D h tk F' N' ap (ne_of_off1 o1) hl gd
  refine it _ _ (LCg.block_U W hsz ho keep hcell hkind hx st0 (in_push lt) (F.keeps up) (N.grown up) (Nat.ne_of_lt F.ns.lt) (next_is_new F) (fun p hp => Nat.ne_of_lt (Heap.lt_size (N p hp).1)) (by simpa using hS []) rest ?_)
  intro D C h tk m' ys led F' N' o1 hn hC₀ _ hCL _ hCD offC fin
  refine ⟨m', hn, fun h'' same => ?_⟩
  have z := home F' N' hC₀ hCL hCD offC same
  exact fin D h'' tk z.1 z.2 o1
end

-- the flight of the program's own exception: its class and its dict are known
section
variable {M : Model} {A : Around} {E : Value → Shared → Prop} {s : Shared}
/-- e stands with its class, its dict and a traceback entry -/
def TrAt (h base : Heap) (e : Addr) (C : Value) (D : Option Addr) (fl : Value) : Prop :=
  ∃ oe vs T oT ts, h.get? e = some oe ∧ (oe.cls = C ∧ oe.dict = D) ∧ oe.data = .fields vs ∧ vs[1]? = some (.ref T) ∧ base.get? T = none ∧ T ≠ e ∧ h.get? T = some oT ∧ oT.data = .fields ts ∧ ts[3]? = some fl
/-- the exception e in flight (or held at the frame fl) over the frames l -/
structure XAt (base : Heap) (l : List Env) (e : Addr) (C : Value) (D : Option Addr) (fl : Value) (h : Heap) : Prop where
  stays : base.StaysIn h
  new : base.get? e = none
  frames : h.FunFrames base l
  tr : TrAt h base e C D fl
/-- from h to h' all that counts stands: base, the frames, and what is no record (but its slots) -/
structure Calm (base : Heap) (l : List Env) (h h' : Heap) : Prop where
  stays : base.StaysIn h'
  frames : h'.FunFrames base l
  up : h.UpToSlots h'
/-- a step that turns one new record, and may push more -/
theorem Calm.turn {base h h' : Heap} {l : List Env} {a : Addr} {o : Obj} {vs : Array Value} (st : base.StaysIn h) (fr : h.FunFrames base l)
    (hn : base.get? a = none) (ha : h.get? a = some o) (hd : o.data = .fields vs) (k : ∀ b x, b ≠ a → h.get? b = some x → h'.get? b = some x) : Calm base l h h' := by
  have off : ∀ b x, h.get? b = some x → (∀ vs, x.data ≠ .fields vs) → h'.get? b = some x := by
    intro b x hb nr
    by_cases q : b = a
    · cases (q ▸ hb).symm.trans ha
      exact absurd hd (nr vs)
    · exact k b x q hb
  constructor
  · intro b x hb
    refine k b x ?_ (st b x hb)
    rintro rfl
    cases hn.symm.trans hb
  · exact fr.of_keeps fun b x hb nr => ⟨x, off b x hb nr, rfl⟩
  · exact fun b x hb nr => ⟨x.slots, off b x hb nr⟩
/-- a field of a record is stored -/
theorem Calm.store {base h : Heap} {l : List Env} {a : Addr} {o : Obj} {vs : Array Value} (st : base.StaysIn h) (fr : h.FunFrames base l)
    (hn : base.get? a = none) (ha : h.get? a = some o) (hd : o.data = .fields vs) (g : Array Value → Array Value) : Calm base l h (h.update a (Obj.mapFields g)) :=
  .turn st fr hn ha hd fun b _ q hb => (Heap.get?_update_other h _ (Ne.symm q)).trans hb
/-- the exception's entry, and what stands when its flight is marked anew -/
theorem XAt.entry {base : Heap} {l : List Env} {e : Addr} {C fl : Value} {D : Option Addr} {h : Heap} (x : XAt base l e C D fl h) :
    ∃ oe vs T oT ts, (h.get? e = some oe ∧ oe.data = .fields vs ∧ vs[1]? = some (.ref T)) ∧ (h.get? T = some oT ∧ oT.data = .fields ts ∧ ts[3]? = some fl ∧ 3 < ts.size) ∧
      ∀ v, XAt base l e C D v (h.update T (Obj.mapFields (·.setIfInBounds 3 v))) ∧ h.UpToSlots (h.update T (Obj.mapFields (·.setIfInBounds 3 v))) := by
  obtain ⟨st, new, fr, oe, vs, T, oT, ts, he, hp, hd, h1, nT, ne, hT, dT, h3⟩ := x
  have big := (Array.getElem?_eq_some_iff.mp h3).1
  refine ⟨oe, vs, T, oT, ts, ⟨he, hd, h1⟩, ⟨hT, dT, h3, big⟩, fun v => ?_⟩
  have c := Calm.store st fr nT hT dT (·.setIfInBounds 3 v)
  have now := Obj.data_mapFields dT (·.setIfInBounds 3 v)
  exact ⟨⟨c.stays, new, c.frames, oe, vs, T, _, _, (Heap.get?_update_other h _ ne).trans he, hp, hd, h1, nT, ne, Heap.get?_update_self _ hT (Obj.isFreed_of_fields now), now, by simp [big]⟩, c.up⟩
theorem dict_mapFields (f : Array Value → Array Value) (o : Obj) : (Obj.mapFields f o).dict = o.dict := by
  unfold Obj.mapFields
  split <;> rfl
/-- a new entry for the frame L, hung at the exception -/
theorem x_entry {base : Heap} {env : Env} {outer : List Env} {L e : Addr} {oe : Obj} {vs : Array Value} {head C : Value} {D : Option Addr} {hadNext : Bool} {Q : Unit → Shared → Prop}
    (hfr : A.frames = some (env :: outer)) (hl : s.heap.FunFrames base (env :: outer)) (hf : env.frame = some L)
    (he : s.heap.get? e = some oe) (hkb : base.StaysIn s.heap) (hen : base.get? e = none) (hd : oe.data = .fields vs) (hsz : 1 < vs.size) (hp : oe.cls = C ∧ oe.dict = D)
    (h : ∀ h', XAt base (env :: outer) e C D (rawInt L) h' → s.heap.UpToSlots h' → Q () { s with heap := h' }) :
    wpAny M A (do let a ← frameOf env; let pl ← entryPlaceOf L hadNext; let b ← EntryCells.newEntry head a .none (rawInt L) .none pl; setField (.ref e) 1 b) Q E s := by
  refine wpAny_bind (wpAny_frameOf_fun hfr hl hf fun h₁ only => wpAny_bind (wpAny_entryPlaceOf fun pl hpl => wpAny_bind ?_))
  have e₁ : h₁.get? e = some oe := (only.2.1 e fun hm => by
    obtain ⟨_, o, ho, nr⟩ := hl.mem hm
    cases ho.symm.trans he
    exact nr vs hd).trans he
  have st₁ : base.StaysIn h₁ := by
    intro b o hb
    refine (only.2.1 b fun hm => ?_).trans (hkb b o hb)
    cases (hl.mem hm).1.symm.trans hb
  refine wpAny_newObj_type ?_ (hpl.sizeOk5 _ _ _ _ _)
  generalize hT : ({ cls := .type "traceback", dict := none, data := .fields ([head, .ref L, .none, rawInt L, .none] ++ (if pl.isEmpty then List.replicate 6 Value.none else pl)).toArray } : Obj) = oT
  have dT : oT.data = .fields ([head, .ref L, .none, rawInt L, .none] ++ (if pl.isEmpty then List.replicate 6 Value.none else pl)).toArray := by rw [← hT]
  have e₂ := Heap.get?_push_of_some oT e₁
  have now := Obj.data_mapFields hd (·.setIfInBounds 1 (Value.ref h₁.objs.size))
  have ne : h₁.objs.size ≠ e := (Nat.ne_of_lt (Heap.lt_size e₁)).symm
  have c := Calm.turn (h' := (h₁.push oT).update e (Obj.mapFields (·.setIfInBounds 1 (Value.ref h₁.objs.size)))) st₁ (hl.of_slotsOnly only) hen e₁ hd
    fun b x q hb => (Heap.get?_update_other _ _ (Ne.symm q)).trans (Heap.get?_push_of_some oT hb)
  refine wpAny_setField e₂ hd hsz (h _ ⟨c.stays, hen, c.frames, _, _, h₁.objs.size, oT, _, Heap.get?_update_self _ e₂ (Obj.isFreed_of_fields now), ⟨(Obj.cls_mapFields ..).trans hp.1, (dict_mapFields ..).trans hp.2⟩, now,
    by simp [hsz], st₁.fresh, ne, (Heap.get?_update_other _ _ ne.symm).trans (Heap.get?_push_size h₁ (Obj.isFreed_of_fields dT)), dT, by simp⟩ ?_)
  exact fun b x hb nr => (only.2.2 b x hb).elim fun sl q => c.up b { x with slots := sl } q nr
/-- the flight is unmarked -/
theorem x_lands {base : Heap} {l : List Env} {e : Addr} {C fl : Value} {D : Option Addr} {Q : Unit → Shared → Prop} (x : XAt base l e C D fl s.heap)
    (h : ∀ h', XAt base l e C D .none h' → s.heap.UpToSlots h' → Q () { s with heap := h' }) : wpAny M A (setFlight (.ref e) none) Q E s := by
  obtain ⟨_, _, T, _, _, ⟨he, hd, h1⟩, ⟨hT, dT, _, big⟩, z⟩ := x.entry
  exact wpAny_setFlight_none he hd h1 hT dT big (h _ (z .none).1 (z .none).2)
/-- the first note of a new exception -/
theorem x_first {base : Heap} {env : Env} {outer : List Env} {L e : Addr} {oe : Obj} {vs : Array Value} {C : Value} {D : Option Addr} {Q : Unit → Shared → Prop}
    (hfr : A.frames = some (env :: outer)) (hl : s.heap.FunFrames base (env :: outer)) (hf : env.frame = some L)
    (he : s.heap.get? e = some oe) (hkb : base.StaysIn s.heap) (hen : base.get? e = none) (hd : oe.data = .fields vs) (h1 : vs[1]? = some .none) (hp : oe.cls = C ∧ oe.dict = D)
    (h : ∀ h', XAt base (env :: outer) e C D (rawInt L) h' → s.heap.UpToSlots h' → Q () { s with heap := h' }) : wpAny M A (noteFrame (.ref e) env) Q E s := by
  simp only [noteFrame, hf]
  exact wpAny_bind (wpAny_field he hd h1 (x_entry hfr hl hf he hkb hen hd (Array.getElem?_eq_some_iff.mp h1).1 hp h))
/-- the note of a frame that the exception comes to -/
theorem x_note {base : Heap} {env : Env} {outer : List Env} {L e : Addr} {C : Value} {D : Option Addr} {Q : Unit → Shared → Prop}
    (hfr : A.frames = some (env :: outer)) (hf : env.frame = some L) (x : XAt base (env :: outer) e C D .none s.heap)
    (h : ∀ h', XAt base (env :: outer) e C D (rawInt L) h' → s.heap.UpToSlots h' → Q () { s with heap := h' }) : wpAny M A (noteFrame (.ref e) env) Q E s := by
  obtain ⟨_, _, T, _, _, ⟨he, hd, h1⟩, ⟨hT, dT, h3, big⟩, z⟩ := x.entry
  simp only [noteFrame, hf]
  refine wpAny_bind (wpAny_field he hd h1 (wpAny_bind (wpAny_field hT dT h3 (wpAny_bind (wpAny_setField hT dT big ?_)))))
  obtain ⟨y, up⟩ := z .none
  obtain ⟨_, _, _, _, _, he', hp', hd', h1', _⟩ := id y.tr
  exact x_entry hfr y.frames hf he' y.stays y.new hd' (Array.getElem?_eq_some_iff.mp h1').1 hp' fun h' q up' => h h' q (up.trans up')
/-- out of a frame, when its note is made -/
theorem x_out_of {base : Heap} {env : Env} {outer : List Env} {L e : Addr} {C : Value} {D : Option Addr} {Q : Unit → Shared → Prop} (hf : env.frame = some L)
    (note : ∀ R : Unit → Shared → Prop, (∀ h', XAt base (env :: outer) e C D (rawInt L) h' → s.heap.UpToSlots h' → R () { s with heap := h' }) → wpAny M A (noteFrame (.ref e) env) R E s)
    (h : ∀ h', XAt base outer e C D .none h' → s.heap.UpToSlots h' → Q () { s with heap := h' }) : wpAny M A (leaving env (.ref e)) Q E s := by
  unfold leaving
  exact wpAny_bind (note _ fun h₁ x₁ u₁ => x_lands (s := { s with heap := h₁ }) x₁ fun h₂ x₂ u₂ => h h₂ ⟨x₂.stays, x₂.new, x₂.frames.2.2, x₂.tr⟩ (u₁.trans u₂))
theorem x_leave {base : Heap} {env : Env} {outer : List Env} {L e : Addr} {C : Value} {D : Option Addr} {Q : Unit → Shared → Prop}
    (hfr : A.frames = some (env :: outer)) (hf : env.frame = some L) (x : XAt base (env :: outer) e C D .none s.heap)
    (h : ∀ h', XAt base outer e C D .none h' → s.heap.UpToSlots h' → Q () { s with heap := h' }) : wpAny M A (leaving env (.ref e)) Q E s :=
  x_out_of hf (fun _ r => x_note hfr hf x r) h
theorem x_leave_first {base : Heap} {env : Env} {outer : List Env} {L e : Addr} {oe : Obj} {vs : Array Value} {C : Value} {D : Option Addr} {Q : Unit → Shared → Prop}
    (hfr : A.frames = some (env :: outer)) (hl : s.heap.FunFrames base (env :: outer)) (hf : env.frame = some L)
    (he : s.heap.get? e = some oe) (hkb : base.StaysIn s.heap) (hen : base.get? e = none) (hd : oe.data = .fields vs) (h1 : vs[1]? = some .none) (hp : oe.cls = C ∧ oe.dict = D)
    (h : ∀ h', XAt base outer e C D .none h' → s.heap.UpToSlots h' → Q () { s with heap := h' }) : wpAny M A (leaving env (.ref e)) Q E s :=
  x_out_of hf (fun _ r => x_first hfr hl hf he hkb hen hd h1 hp r) h
end

-- a block with two fors
section
variable {prog : Program} {w : World} {A : Around} {R : Result → Shared → Prop} {s : Shared} {elt i0 i1 t0 t1 : PySem.Expr} {scope : Scope} {pos : Pos} {it acc : Value} {env : Env}
abbrev two (elt t0 i0 t1 i1 : PySem.Expr) (scope : Scope) (pos : Pos) : PySem.Expr := .ListComp elt [⟨t0, i0, [], 0⟩, ⟨t1, i1, [], 0⟩] scope pos
theorem turn_two0 : compTurn (two elt t0 i0 t1 i1 scope pos) 0 it acc env = (do
      standAt i0.pos
      match ← pyNext it with
      | none => pure (.done .next)
      | some v =>
        letOwnedTupleGo t0 it v
        assign t0 env v
        let x ← eval i1 env
        standAt i1.pos
        let x ← foldedSetIterable i1 env x
        let _ ← runOwn (.compStart (two elt t0 i0 t1 i1 scope pos) 1 (← holding [x] (pyIter x)) acc env) env
        again (.compLoop (two elt t0 i0 t1 i1 scope pos) 0 it acc env)) := by rfl
theorem turn_two1 : compTurn (two elt t0 i0 t1 i1 scope pos) 1 it acc env = (do
      standAt i1.pos
      match ← pyNext it with
      | none => pure (.done .next)
      | some v =>
        letOwnedTupleGo t1 it v
        assign t1 env v
        (eval elt env >>= fun x => call (.builtin "list.append") [acc, x] >>= fun _ => pure ())
        again (.compLoop (two elt t0 i0 t1 i1 scope pos) 1 it acc env)) := by rfl
abbrev noE : Value → Shared → Prop := fun _ _ => False
theorem loop_outer (I : Nat → Shared → Prop)
    (turn : ∀ n s, I n s → wpAny (model prog w) A (pyNext it) (fun r s₁ => match r with
      | none => R (.ok .next) s₁
      | some v => wpAny (model prog w) A (assign t0 env v) (fun _ s₂ => wpAny (model prog w) A (eval i1 env) (fun x s₃ => wpAny (model prog w) A (pyIter x) (fun it2 s₄ =>
          codeAny (model prog w) A (.compStart (two elt t0 i0 t1 i1 scope pos) 1 it2 acc env) (fun r s₅ => match r with | .ok _ => ∃ m, m < n ∧ I m s₅ | .error _ => False) s₄) noE s₃) noE s₂) noE s₁) noE s)
    (n : Nat) (h : I n s) (ht : ∀ v, letOwnedTupleGo t0 it v = pure () := by intro _; rfl) (hs : ∀ x, foldedSetIterable i1 env x = pure x := by intro _; rfl) :
    codeAny (model prog w) A (.compLoop (two elt t0 i0 t1 i1 scope pos) 0 it acc env) R s := by
  refine codeAny_loop rfl I (fun n s hI => ?_) n h
  show wpAny _ A ((compTurn (two elt t0 i0 t1 i1 scope pos) 0 it acc env).onRaise (fun x => do noteFrame x env; theTreesLotGoes x)) _ _ s
  refine wpAny_noted ?_
  rw [turn_two0]
  refine wpAny_bind (wpAny_standAt (wpAny_bind (wpAny_mono (turn n s hI) (fun r s₁ h₁ => ?_) fun _ _ h' => h'.elim)))
  cases r with
  | none => exact wpAny_pure h₁
  | some v =>
    refine wpAny_bind (wpAny_of_eq (ht v) ?_)
    refine wpAny_bind (wpAny_mono h₁ (fun _ s₂ h₂ => ?_) fun _ _ h' => h'.elim)
    refine wpAny_bind (wpAny_mono h₂ (fun x s₃ h₃ => ?_) fun _ _ h' => h'.elim)
    refine wpAny_bind (wpAny_standAt (wpAny_bind (wpAny_of_eq (hs x) ?_)))
    refine wpAny_bind (wpAny_holding (wpAny_mono h₃ (fun it2 s₄ h₄ => ?_) fun _ _ h' => h'.elim))
    refine wpAny_bind (wpAny_runOwn (codeAny_mono h₄ fun r s₅ h₅ => ?_))
    cases r with
    | ok f => exact wpAny_pure ⟨rfl, h₅⟩
    | error e => exact h₅.elim
theorem loop_inner (I : Nat → Shared → Prop)
    (turn : ∀ n s, I n s → wpAny (model prog w) A (pyNext it) (fun r s₁ => match r with
      | none => R (.ok .next) s₁
      | some v => wpAny (model prog w) A (assign t1 env v) (fun _ s₂ => wpAny (model prog w) A (eval elt env) (fun x s₃ => wpAny (model prog w) A (call (.builtin "list.append") [acc, x]) (fun _ s₄ =>
          ∃ m, m < n ∧ I m s₄) noE s₃) noE s₂) noE s₁) noE s)
    (n : Nat) (h : I n s) (ht : ∀ v, letOwnedTupleGo t1 it v = pure () := by intro _; rfl) :
    codeAny (model prog w) A (.compLoop (two elt t0 i0 t1 i1 scope pos) 1 it acc env) R s := by
  refine codeAny_loop rfl I (fun n s hI => ?_) n h
  show wpAny _ A ((compTurn (two elt t0 i0 t1 i1 scope pos) 1 it acc env).onRaise (fun x => do noteFrame x env; theTreesLotGoes x)) _ _ s
  refine wpAny_noted ?_
  rw [turn_two1]
  refine wpAny_bind (wpAny_standAt (wpAny_bind (wpAny_mono (turn n s hI) (fun r s₁ h₁ => ?_) fun _ _ h' => h'.elim)))
  cases r with
  | none => exact wpAny_pure h₁
  | some v =>
    refine wpAny_bind (wpAny_of_eq (ht v) ?_)
    refine wpAny_bind (wpAny_mono h₁ (fun _ s₂ h₂ => ?_) fun _ _ h' => h'.elim)
    refine wpAny_bind (wpAny_bind (wpAny_mono h₂ (fun x s₃ h₃ => ?_) fun _ _ h' => h'.elim))
    refine wpAny_bind (wpAny_mono h₃ (fun _ s₄ h₄ => ?_) fun _ _ h' => h'.elim)
    exact wpAny_pure (wpAny_pure ⟨rfl, h₄⟩)
theorem start_inner (h0 : codeAny (model prog w) A (.compLoop (two elt t0 i0 t1 i1 scope pos) 1 it acc env) R s)
    (h : wpAny (model prog w) A (pyIter it) (fun it' s' => codeAny (model prog w) A (.compLoop (two elt t0 i0 t1 i1 scope pos) 1 it' acc env) R s') noE s) :
    codeAny (model prog w) A (.compStart (two elt t0 i0 t1 i1 scope pos) 1 it acc env) R s := by
  refine codeAny_of_tree ?_
  show wpAny _ _ ((compStart (two elt t0 i0 t1 i1 scope pos) 1 it acc env).onRaise (fun x => do noteFrame x env; standAt theWindowsPlace)) _ _ s
  refine wpAny_notedAt ?_
  unfold compStart
  show wpAny _ _ (ask >>= _) _ _ s
  refine wpAny_bind (wpAny_askSetting (wpAny_ite ?_))
  split
  · first
      | exact wpAny_bind (wpAny_pure (wpAny_pure (And.intro rfl h0)))
      | exact wpAny_pure (And.intro rfl h0)
  · refine wpAny_bind (wpAny_rule ?_)
    refine wpAny_bind (wpAny_standAt ?_)
    refine wpAny_bind (wpAny_mono h (fun it' s' h' => ?_) fun _ _ h' => h'.elim)
    exact wpAny_pure (And.intro rfl h')
end

-- a block with two fors whose item is the inner name: [y for x in level for y in f(x)]
/-- a list of k good things -/
def LIn (Good : Led → Value → Prop) (k : Nat) (led : Led) (y : Value) : Prop := ∃ b ep us, y = .ref b ∧ (b, lstO us ep) ∈ led ∧ us.length = k ∧ ∀ u ∈ us, Good led u
def TwoInv (h₀ : Heap) (L : Addr) (m : Str → Option Value) (s₂ : Shared) (I : Nat) (ax : Addr) (vs : List Value) (k : Nat) (news : Led) (Good : Led → Value → Prop) (n : Nat) (s' : Shared) : Prop :=
  ∃ h' tk i ys m' tl, s' = { s₂ with heap := h', toks := tk } ∧ i ≤ vs.length ∧ n = vs.length + 1 - i ∧ ys.length = i * k ∧ h'.IsListIter I ax i ∧ Fr h₀ L h' m ∧ h'.Ns (I + 2) m' ∧
      News h₀ L h' ((I + 1, LCg.lst ys) :: (news ++ tl)) ∧ (∀ q ∈ news ++ tl, @Ne Nat q.1 I ∧ @Ne Nat q.1 (I + 2) ∧ @Ne Nat q.1 (I + 1)) ∧ Apart news tl ∧ ∀ u ∈ ys, Good (news ++ tl) u
section
variable {prog : Program} {w : World} {A : Around} {E : Value → Shared → Prop} {s : Shared} {h₀ : Heap} {L : Addr} {m : Str → Option Value} {env : Env}
theorem inner_go {i0 i1 t0 : PySem.Expr} {y : Str} {py py' : Pos} {scope : Scope} {pos : Pos} {J b C D : Addr} {us ys : List Value} {m' : Str → Option Value} {R : Result → Shared → Prop}
    (hh : A.handled = none) (hkind : env.scope.kind = .function) (hy : env.kindOf y = some .local) (hdb : (y == ("__debug__" : Str)) = false) (hC : env.locals = C)
    (hj : s.heap.IsListIter J b 0) (hb : s.heap.IsList b us.toArray) (hn : s.heap.Ns C m') (hD : s.heap.get? D = some (LCg.lst ys))
    (nJC : J ≠ C) (nJD : J ≠ D) (nCD : C ≠ D) (nbJ : b ≠ J) (nbC : b ≠ C) (nbD : b ≠ D) (hsz : ys.length + us.length ≤ sizeLine)
    (fin : ∀ h' tk m'', (∀ a o, a ∉ [J, C, D] → s.heap.get? a = some o → h'.get? a = some o) → h'.Ns C m'' → h'.get? D = some (LCg.lst (ys ++ us)) → R (.ok .next) { s with heap := h', toks := tk }) :
    codeAny (model prog w) A (.compLoop (two (.Name y py) t0 i0 (.Name y py') i1 scope pos) 1 (.ref J) (.ref D) env) R s := by
  subst hC
  refine loop_inner (I := fun k s' => ∃ h' tk j m'', s' = { s with heap := h', toks := tk } ∧ j ≤ us.length ∧ k = us.length + 1 - j ∧ h'.IsListIter J b j ∧ h'.IsList b us.toArray ∧ h'.Ns env.locals m'' ∧ h'.get? D = some (LCg.lst (ys ++ us.take j)) ∧
    ∀ a o, a ∉ [J, env.locals, D] → s.heap.get? a = some o → h'.get? a = some o) ?_ (us.length + 1)
    ⟨s.heap, s.toks, 0, m', rfl, Nat.zero_le _, rfl, hj, hb, hn, by simpa using hD, fun _ _ _ e => e⟩
  rintro k s' ⟨h', tk, j, m'', rfl, hle, rfl, hit, hl, hn', hD', kp⟩
  by_cases hlt : j < us.length
  · refine wpAny_pyNext_list_item hit hl (x := us[j]) (by simp [hlt]) fun h₂ hit₂ hs₂ => ?_
    have hn₂ : h₂.Ns env.locals m'' := hn'.at' fun o e => hs₂.extBut _ o (Ne.symm nJC) e
    refine wpAny_assign_Name (wpAny_storeName_local hy hn₂ (fun h₃ hn₃ hs₃ => ?_) (by simp [hkind]))
    rw [eval_Name (hd := hdb)]
    refine wpAny_bind (wpAny_standAt (wpAny_loadName_local hkind hy hn₃ (v := us[j]) (if_pos rfl) ?_))
    have hD₃ : h₃.get? D = some (LCg.lst (ys ++ us.take j)) := hs₃.extBut _ _ (Ne.symm nCD) (hs₂.extBut _ _ (Ne.symm nJD) hD')
    refine append_at (hsz := by show (ys ++ us.take j).toArray.size ≤ sizeLine; simp; omega) hD₃ fun h₅ hs₅ hD₅ => ?_
    refine ⟨us.length + 1 - (j + 1), by omega, h₅, _, j + 1, _, rfl, hlt, rfl, (hit₂.extBut hs₃.extBut nJC).extBut hs₅.extBut nJD, ((hl.extBut hs₂.extBut nbJ).extBut hs₃.extBut nbC).extBut hs₅.extBut nbD, hn₃.sameBut hs₅ nCD, ?_, fun a o ha e => ?_⟩
    · rw [hD₅]
      refine congrArg some ((LCg.lst_snoc _ _).trans ?_)
      rw [List.append_assoc, List.take_add_one, List.getElem?_eq_getElem hlt, Option.toList_some]
    · simp only [List.mem_cons, List.not_mem_nil, or_false, not_or] at ha
      exact hs₅.extBut _ _ ha.2.2 (hs₃.extBut _ _ ha.2.1 (hs₂.extBut _ _ ha.1 (kp a o (by simp [ha]) e)))
  · obtain rfl : j = us.length := Nat.le_antisymm hle (Nat.not_lt.mp hlt)
    refine wpAny_pyNext_list_end hh hit hl (by simp) fun h₂ he₂ => ?_
    refine fin h₂ tk m'' (fun a o ha e => he₂ a o (by simp only [List.mem_cons, not_or] at ha; exact ha.1) (kp a o ha e)) (hn'.at' fun o e => he₂ _ o (Ne.symm nJC) e) ?_
    rw [List.take_length] at hD'
    exact he₂ _ _ (Ne.symm nJD) hD'
theorem block_N {iter i1 : PySem.Expr} {x y : Str} {px py py' : Pos} {scope : Scope} {cl : List (Str × Addr)} {pos : Pos} {s₂ : Shared} {ax : Addr} {vs : List Value} {ep k : Nat} {news : Led} {Good : Led → Value → Prop} {RR : Value → Addr → Result → Shared → Prop}
    (hh : A.handled = none) (hm : (ax, lstO vs ep) ∈ news) (hsz : vs.length * k ≤ sizeLine) (mono : ∀ n n' v, (∀ p ∈ n, p ∈ n') → Good n v → Good n' v)
    (hcell : ∀ z ∈ scope.names, z.2 ≠ .cell) (hkind : scope.kind = .function) (hx : scope.names.lookup x = some .local) (hy : scope.names.lookup y = some .local) (hdb : (y == ("__debug__" : Str)) = false)
    (F : Fr h₀ L s₂.heap m) (N : News h₀ L s₂.heap news)
    (turn : ∀ v ∈ vs, Turn prog w A h₀ L m env i1 x scope cl s₂ (LIn Good k) news v)
    (hs1 : ∀ (e : Env) z, foldedSetIterable i1 e z = pure z)
    (hRR : ∀ D C h tk m' ys tl, Fr h₀ L h m → News h₀ L h ((D, LCg.lst ys) :: (news ++ tl)) → Apart news tl → (∀ q ∈ news ++ tl, @Ne Nat q.1 D) → h.Ns C m' → h₀.get? C = none → h₀.get? D = none → C ≠ L → D ≠ L → C ≠ D → (∀ q ∈ news ++ tl, q.1 ≠ C) →
      ys.length = vs.length * k → (∀ u ∈ ys, Good (news ++ tl) u) → RR (.ref D) C (.ok .next) { s₂ with heap := h, toks := tk }) :
    wpAny (model prog w) A (pyIter (.ref ax)) (fun it s₃ => wpAny (model prog w) A (newList []) (fun acc s₄ => wpAny (model prog w) A (newFunctionEnv scope env.globals cl [] env.qual none .none (some env)) (fun cenv s₅ =>
      codeAny (model prog w) A (.compStart (two (.Name y py) (.Name x px) iter (.Name y py') i1 scope pos) 0 it acc { cenv with scope := relabel scope env }) (RR acc cenv.locals) s₅) E s₄) E s₃) E s₂ := by
  have hl := N.isList hm
  refine wpAny_pyIter_list hl ?_
  refine wpAny_newObj_type (wpAny_newFunctionEnv hcell (by intro y hy; simp at hy) (fun h₁ hns₁ hsb₁ => ?_) hkind)
  dsimp only at hns₁ hsb₁ ⊢
  generalize hI : s₂.heap.objs.size = I
  generalize hH1 : s₂.heap.push { cls := .type "list_iterator", data := .fields #[.ref ax, .int 0 0] } = H1 at hns₁ hsb₁ ⊢
  have hD : H1.objs.size = I + 1 := by rw [← hH1, Heap.size_push, hI]
  generalize hH2 : H1.push { cls := .type "list", dict := none, data := .seq ([] : List Value).toArray } = H2 at hns₁ hsb₁ ⊢
  have hC : H2.objs.size = I + 2 := by rw [← hH2, Heap.size_push, hD]
  rw [hD]
  rw [hC] at hns₁ hsb₁ ⊢
  have below : ∀ b o, s₂.heap.get? b = some o → @LT.lt Nat _ b I := fun b o e => hI ▸ Heap.lt_size e
  have up1 : ∀ b o, H1.get? b = some o → h₁.get? b = some o := fun b o e => hsb₁.extBut b o (by have := Heap.lt_size e; rw [hD] at this; exact Nat.ne_of_lt (Nat.lt_succ_of_lt this)) (Heap.get?_push_of_some _ (hH2 ▸ Heap.get?_push_of_some _ e))
  have old : ∀ b o, s₂.heap.get? b = some o → h₁.get? b = some o := fun b o e => up1 b o (hH1 ▸ Heap.get?_push_of_some _ e)
  have hit₁ : h₁.IsListIter I ax 0 := ⟨_, up1 _ _ (by rw [← hH1, ← hI]; exact Heap.get?_push_size _ rfl), rfl, rfl⟩
  have hacc : h₁.get? (I + 1) = some (LCg.lst []) := hsb₁.extBut _ _ (Nat.ne_of_lt (Nat.lt_succ_self _)) (Heap.get?_push_of_some _ (by rw [← hH2, ← hD]; exact Heap.get?_push_size _ rfl))
  have fresh₀ : ∀ a : Nat, I ≤ a → h₀.get? a = none := fun a ha => by
    cases e : h₀.get? a with
    | none => rfl
    | some o' => exact absurd (below a o' (F.keep a o' e)) (Nat.not_lt.mpr ha)
  have hLlt : @LT.lt Nat _ L I := hI ▸ F.ns.lt
  have nLD : I + 1 ≠ L := fun e => by omega
  have nLC : I + 2 ≠ L := fun e => by omega
  have loop : ∀ s₃ : Shared, s₃ = { s₂ with heap := h₁, toks := s₂.toks + ([] : List (Str × Value)).length } →
      codeAny (model prog w) A (.compLoop (two (.Name y py) (.Name x px) iter (.Name y py') i1 scope pos) 0 (.ref I) (.ref (I + 1)) (compEnvC scope cl (I + 2) env)) (RR (.ref (I + 1)) (I + 2)) s₃ := by
    rintro s₃ rfl
    refine loop_outer (I := TwoInv h₀ L m s₂ I ax vs k news Good) ?_ (vs.length + 1)
      ⟨h₁, _, 0, [], _, [], rfl, Nat.zero_le _, rfl, by simp, hit₁, F.keeps old, hns₁, fun p hp => ?_, fun q hq => ?_, Apart.nil, fun _ h => nomatch h⟩ (hs := hs1 _)
    · rintro n s' ⟨h', tk, i, ys, m', tl, rfl, hi, rfl, hyl, hit', F', hn', N', off', ap', gd'⟩
      have hl' : h'.IsList ax vs.toArray := N'.isList (.tail _ (List.mem_append_left _ hm))
      by_cases hlt : i < vs.length
      · refine wpAny_pyNext_list_item hit' hl' (x := vs[i]) (by simp [hlt]) fun h₂ hit₂ hs₂ => ?_
        have nIC : I ≠ I + 2 := fun e => by omega
        have nID : I ≠ I + 1 := fun e => by omega
        have nCD : I + 2 ≠ I + 1 := fun e => by omega
        have hn₂ : h₂.Ns (I + 2) m' := hn'.at' fun o e => hs₂.extBut _ o (Ne.symm nIC) e
        refine wpAny_assign_Name (wpAny_storeName_local (lookup_relabel_local hx) hn₂ (fun h₃ hn₃ hs₃ => ?_) (by simp [compEnvC, relabel, hkind]))
        have kp₃ : ∀ a o, a ≠ I → a ≠ I + 2 → h'.get? a = some o → h₃.get? a = some o := fun a o n1 n2 e => hs₃.extBut _ _ n2 (hs₂.extBut _ _ n1 e)
        have F₃ : Fr h₀ L h₃ m := ⟨F'.ns.at' fun o e => kp₃ L o (fun q => by omega) (fun q => by omega) e, fun b o e => kp₃ b o (fun q => by rw [q, fresh₀ _ (Nat.le_refl _)] at e; cases e) (fun q => by rw [q, fresh₀ _ (Nat.le_add_right _ _)] at e; cases e) (F'.keep b o e), F'.above⟩
        have hit₃ := hit₂.extBut hs₃.extBut nIC
        obtain ⟨oI, heI, hoI⟩ := id hit₃
        obtain ⟨oC, heC, hoC⟩ := LCg.ns_obj hn₃
        have N₃ : News h₀ L h₃ ((I, oI) :: (I + 2, oC) :: (I + 1, LCg.lst ys) :: (news ++ tl)) := fun p hp => by
          rcases List.mem_cons.mp hp with rfl | hp
          · exact ⟨heI, fun q => by have : I = L := q; omega, fresh₀ _ (Nat.le_refl _)⟩
          · rcases List.mem_cons.mp hp with rfl | hp
            · exact ⟨heC, nLC, fresh₀ _ (Nat.le_add_right _ _)⟩
            · refine ⟨?_, (N' p hp).2⟩
              rcases List.mem_cons.mp hp with rfl | hp'
              · exact kp₃ _ _ (Ne.symm nID) (Ne.symm nCD) (N' _ hp).1
              · exact kp₃ _ _ (off' p hp').1 (off' p hp').2.1 (N' _ hp).1
        refine wpAny_mono (turn vs[i] (List.getElem_mem hlt) I oI (I + 2) oC (I + 1) _ _ tl h₃ _ noE trivial hoC (if_pos rfl) F₃ N₃) (fun xv s₄ hq => ?_) fun _ _ e => e
        obtain ⟨h₄, tk₄, tl', rfl, k₄, f₄, N₄, b, ep', us, rfl, hb, hul, hug⟩ := hq
        have ap₄ : Apart ((I, oI) :: (I + 2, oC) :: (I + 1, LCg.lst ys) :: (news ++ tl)) tl' := apart_fresh N₃ f₄
        have e4 : news ++ (tl ++ tl') = (news ++ tl) ++ tl' := (List.append_assoc ..).symm
        have off₄ : ∀ q ∈ (news ++ tl) ++ tl', @Ne Nat q.1 I ∧ @Ne Nat q.1 (I + 2) ∧ @Ne Nat q.1 (I + 1) := fun q hq => (List.mem_append.mp hq).elim (off' q) fun hq =>
          ⟨fun e => ap₄ _ (.head _) q hq e.symm, fun e => ap₄ _ (.tail _ (.head _)) q hq e.symm, fun e => ap₄ _ (.tail _ (.tail _ (.head _))) q hq e.symm⟩
        have hlb : h₄.IsList b us.toArray := N₄.isList hb
        refine wpAny_pyIter_list hlb ?_
        generalize hJ : h₄.objs.size = J
        have lt₄ : ∀ a o, h₄.get? a = some o → @LT.lt Nat _ a J := fun a o e => hJ ▸ Heap.lt_size e
        have up : ∀ a o, h₄.get? a = some o → (h₄.push { cls := .type "list_iterator", data := .fields #[.ref b, .int 0 0] }).get? a = some o := fun a o e => Heap.get?_push_of_some _ e
        have eD := k₄ _ _ (N₃ _ (.tail _ (.tail _ (.head _)))).1
        have eC := k₄ _ _ heC
        have eI := k₄ _ _ heI
        have hob := (N₄ _ hb).1
        have hj : (h₄.push { cls := .type "list_iterator", data := .fields #[.ref b, .int 0 0] }).IsListIter J b 0 := ⟨_, by rw [← hJ]; exact Heap.get?_push_size _ rfl, rfl, rfl⟩
        have go : codeAny (model prog w) A (.compLoop (two (.Name y py) (.Name x px) iter (.Name y py') i1 scope pos) 1 (.ref J) (.ref (I + 1)) (compEnvC scope cl (I + 2) env))
            (fun r s₅ => match r with
              | .ok _ => ∃ n', n' < vs.length + 1 - i ∧ TwoInv h₀ L m s₂ I ax vs k news Good n' s₅
              | .error _ => False)
            { s₂ with heap := h₄.push { cls := .type "list_iterator", data := .fields #[.ref b, .int 0 0] }, toks := tk₄ } := by
          refine inner_go hh hkind (lookup_relabel_local hy) hdb rfl hj (hlb.push _) ((hoC.ns eC).at' fun o e => up _ o e) (up _ _ eD) (Ne.symm (Nat.ne_of_lt (lt₄ _ _ eC))) (Ne.symm (Nat.ne_of_lt (lt₄ _ _ eD))) nCD
            (Nat.ne_of_lt (lt₄ _ _ hob)) (off₄ _ hb).2.1 (off₄ _ hb).2.2 ?_ fun h₆ tk₆ m₆ kp₆ hn₆ hD₆ => ?_
          · rw [hyl, hul]
            have h9 : (i + 1) * k ≤ vs.length * k := Nat.mul_le_mul_right k hlt
            rw [Nat.succ_mul] at h9
            exact Nat.le_trans h9 hsz
          · have kp : ∀ a o, a ≠ I + 2 → a ≠ I + 1 → h₄.get? a = some o → h₆.get? a = some o := fun a o n1 n2 e => kp₆ a o (by simp only [List.mem_cons, List.not_mem_nil, or_false, not_or]; exact ⟨Nat.ne_of_lt (lt₄ _ _ e), n1, n2⟩) (up _ _ e)
            refine ⟨vs.length + 1 - (i + 1), by omega, h₆, tk₆, i + 1, ys ++ us, m₆, tl ++ tl', rfl, hlt, rfl, by rw [List.length_append, hyl, hul, Nat.succ_mul], ⟨oI, kp _ _ nIC nID eI, hoI⟩, ⟨F₃.ns.at' fun o e => kp L o (Ne.symm nLC) (Ne.symm nLD) (k₄ _ _ e), fun a o e => kp a o (fun q => by rw [q, fresh₀ _ (Nat.le_add_right _ _)] at e; cases e) (fun q => by rw [q, fresh₀ _ (Nat.le_add_right _ _)] at e; cases e) (k₄ _ _ (F₃.keep a o e)), F'.above⟩, hn₆, fun p hp => ?_, ?_, ?_, ?_⟩
            · rcases List.mem_cons.mp hp with rfl | hp
              · exact ⟨hD₆, nLD, fresh₀ _ (Nat.le_add_right _ _)⟩
              · rw [e4] at hp
                exact ⟨kp _ _ (off₄ p hp).2.1 (off₄ p hp).2.2 (N₄ p hp).1, (N₄ p hp).2⟩
            · rw [e4]; exact off₄
            · exact ap'.app fun q hq p hp => ap₄ q (.tail _ (.tail _ (.tail _ (List.mem_append_left _ hq)))) p hp
            · intro u hu
              rw [e4]
              rcases List.mem_append.mp hu with hu | hu
              · exact mono _ _ _ (fun p hp => List.mem_append_left _ hp) (gd' u hu)
              · exact hug u hu
        exact start_inner go (wpAny_pyIter_listiter hj go)
      · obtain rfl : i = vs.length := Nat.le_antisymm hi (Nat.not_lt.mp hlt)
        refine wpAny_pyNext_list_end hh hit' hl' (by simp) fun h₂ he₂ => ?_
        refine hRR (I + 1) (I + 2) h₂ tk m' ys tl ⟨F'.ns.at' fun o e => he₂ L o (Nat.ne_of_lt hLlt) e, fun b o e => he₂ b o (fun q => by rw [q, fresh₀ _ (Nat.le_refl _)] at e; cases e) (F'.keep b o e), F'.above⟩ (fun p hp => ⟨he₂ _ _ ?_ (N' p hp).1, (N' p hp).2⟩) ap' (fun q hq => (off' q hq).2.2) (hn'.at' fun o e => he₂ _ o (show @Ne Nat (I + 2) I by omega) e)
          (fresh₀ _ (Nat.le_add_right _ _)) (fresh₀ _ (Nat.le_add_right _ _)) nLC nLD (show @Ne Nat (I + 2) (I + 1) by omega) (fun q hq => (off' q hq).2.1) hyl gd'
        rcases List.mem_cons.mp hp with rfl | hp
        · exact fun q => by have : I + 1 = I := q; omega
        · exact (off' p hp).1
    · rw [List.append_nil] at hp
      rcases List.mem_cons.mp hp with rfl | hp
      · exact ⟨hacc, nLD, fresh₀ _ (Nat.le_add_right _ _)⟩
      · exact ⟨old _ _ (N p hp).1, (N p hp).2⟩
    · rw [List.append_nil] at hq
      have := below _ _ (N q hq).1
      exact ⟨Nat.ne_of_lt this, Nat.ne_of_lt (by omega), Nat.ne_of_lt (by omega)⟩
  exact codeAny_compStart_list (loop _ rfl) (wpAny_pyIter_listiter hit₁ (loop _ rfl))
/-- the source of such a block, its turns and its end -/
def NSrc (prog : Program) (w : World) (A : Around) (h₀ : Heap) (L : Addr) (m : Str → Option Value) (env : Env) (i1 : PySem.Expr) (x z : Str) (scope : Scope) (cl : List (Str × Addr)) (Q : Flow → Shared → Prop) (xv : Value) (s₁ : Shared) : Prop :=
  ∃ (Good : Led → Value → Prop) (ax : Addr) (vs : List Value) (ep k : Nat) (news : Led), xv = .ref ax ∧ A.handled = none ∧ Fr h₀ L s₁.heap m ∧ News h₀ L s₁.heap news ∧ (ax, lstO vs ep) ∈ news ∧ vs.length * k ≤ sizeLine ∧
    (∀ n n' v, (∀ p ∈ n, p ∈ n') → Good n v → Good n' v) ∧ (∀ v ∈ vs, Turn prog w A h₀ L m env i1 x scope cl s₁ (LIn Good k) news v) ∧
    ∀ ys tl D h tk, Fr h₀ L h (fun y => if y = z then some (.ref D) else m y) → News h₀ L h ((D, lstO ys ys.length) :: (news ++ tl)) → Apart news tl → (∀ q ∈ news ++ tl, @Ne Nat q.1 D) → ys.length = vs.length * k → (∀ y ∈ ys, Good (news ++ tl) y) → Q .next { s₁ with heap := h, toks := tk }
set_option linter.unusedVariables false in
theorem Assign_N {iter i1 : PySem.Expr} {x y z : Str} {px py py' pz : Pos} {scope : Scope} {cl : List (Str × Addr)} {pos spos : Pos} {Q : Flow → Shared → Prop} (F₀ : Fr h₀ L s.heap m) (hLe : env.locals = L)
    (hsw : swapsWith (two (.Name y py) (.Name x px) iter (.Name y py') i1 scope pos) (some (.Name z pz)) spos.line env = pure true)
    (hclos : closureFor scope env = pure cl) (hcell : ∀ v ∈ scope.names, v.2 ≠ .cell) (hkind : scope.kind = .function)
    (hnames : ∀ v ∈ scope.names, v.2 = .local → scope.names.lookup v.1 = some .local) (hx : scope.names.lookup x = some .local) (hy : scope.names.lookup y = some .local) (hdb : (y == ("__debug__" : Str)) = false)
    (hz : env.kindOf z = some .local) (hp : (env.scope.kind == .class || (env.scope.kind == .module && env.locals != env.globals)) = false)
    (h : wpAny (model prog w) A (eval iter env) (NSrc prog w A h₀ L m env i1 x z scope cl Q) E s)
    (hs : ∀ (e : Env) x, foldedSetIterable iter e x = pure x := by intro _ _; rfl) (hs1 : ∀ (e : Env) x, foldedSetIterable i1 e x = pure x := by intro _ _; rfl) :
    wpAny (model prog w) A (exec (.Assign [.Name z pz] (two (.Name y py) (.Name x px) iter (.Name y py') i1 scope pos) spos) env) Q E s := by
  subst hLe
  rw [exec_Assign_Name_used _ _ _ _ hsw]
  refine wpAny_bind (wpAny_standAt (wpAny_bind ?_))
  show wpAny _ A (do let _ ← comprehension (two (.Name y py) (.Name x px) iter (.Name y py') i1 scope pos) scope env _ (newList []) false (eval iter env) (some (assign (.Name z pz) env))) _ _ s
  refine wpAny_bind (wpAny_mono (wpAny_comprehension_free (use := some (assign (.Name z pz) env)) (Q := fun _ s' => Q .next s') rfl (hs env) hclos hkind hnames
    (wpAny_mono h (fun xv s₁ h₁ => ?_) fun _ _ e => e)) (fun _ s' hq => wpAny_pure (wpAny_pure hq)) fun _ _ e => e)
  obtain ⟨Good, ax, vs, ep, k, news, rfl, hh, F, N, hm, hsz, mono, turn, fin⟩ := h₁
  refine block_N hh hm hsz mono hcell hkind hx hy hdb F N turn hs1 fun D C h' tk m' ys tl F' N' ap off hn hC₀ hD₀ hCL hDL hCD offC hl gd => ?_
  show wpAny _ A (assign (.Name z pz) env (.ref D)) _ _ _
  refine wpAny_assign_Name (wpAny_storeName_local hz F'.ns (fun h₂ hn₂ hs₂ => ?_) hp)
  have hL₀ : h₀.get? env.locals = none := Heap.get?_none_of_le F'.above
  have F₂ : Fr h₀ env.locals h₂ (fun v => if v = z then some (.ref D) else m v) := ⟨hn₂, fun b o e => hs₂.extBut b o (fun q => by rw [q, hL₀] at e; cases e) (F'.keep b o e), F'.above⟩
  have N₂ : News h₀ env.locals h₂ ((D, LCg.lst ys) :: (news ++ tl)) := fun p hp => ⟨hs₂.extBut _ _ (N' p hp).2.1 (N' p hp).1, (N' p hp).2⟩
  refine ⟨m', hn.sameBut hs₂ hCL, fun h'' same => ?_⟩
  have z := home F₂ N₂ hC₀ hCL hCD offC same
  exact fin ys tl D h'' _ z.1 z.2 ap off hl gd
/-- a turn whose test is False -/
def TurnF (prog : Program) (w : World) (A : Around) (h₀ : Heap) (L : Addr) (m : Str → Option Value) (env : Env) (ct : PySem.Expr) (x : Str) (scope : Scope) (cl : List (Str × Addr)) (s : Shared) (news : Led) (v : Value) : Prop :=
  ∀ I oI C oC D oD m₂ h tk (E' : Value → Shared → Prop), InComp news → LCg.NsObj oC m₂ → m₂ x = some v → Fr h₀ L h m → News h₀ L h ((I, oI) :: (C, oC) :: (D, oD) :: news) →
    wpAny (model prog w) A (isTrue ct (compEnvC scope cl C env) (eval ct (compEnvC scope cl C env))) (fun ok s' => ok = false ∧ ∃ tk', s' = { s with heap := h, toks := tk' }) E' { s with heap := h, toks := tk }
def FSrc (prog : Program) (w : World) (A : Around) (h₀ : Heap) (L : Addr) (m : Str → Option Value) (env : Env) (ct : PySem.Expr) (x : Str) (scope : Scope) (cl : List (Str × Addr)) (Q : Value → Shared → Prop) (xv : Value) (s₁ : Shared) : Prop :=
  ∃ (ax : Addr) (vs : List Value) (ep : Nat) (news : Led), xv = .ref ax ∧ A.handled = none ∧ Fr h₀ L s₁.heap m ∧ News h₀ L s₁.heap news ∧ (ax, lstO vs ep) ∈ news ∧ vs.length ≤ sizeLine ∧
    (∀ v ∈ vs, TurnF prog w A h₀ L m env ct x scope cl s₁ news v) ∧
    ∀ D h tk, Fr h₀ L h m → News h₀ L h ((D, lstO [] 0) :: news) → (∀ q ∈ news, @Ne Nat q.1 D) → Q (.ref D) { s₁ with heap := h, toks := tk }
set_option linter.unusedVariables false in
theorem ListComp_F {ct elt iter : PySem.Expr} {x : Str} {px : Pos} {scope : Scope} {cl : List (Str × Addr)} {pos : Pos} {Q : Value → Shared → Prop} (F₀ : Fr h₀ L s.heap m)
    (hclos : closureFor scope env = pure cl) (hcell : ∀ y ∈ scope.names, y.2 ≠ .cell) (hkind : scope.kind = .function)
    (hnames : ∀ y ∈ scope.names, y.2 = .local → scope.names.lookup y.1 = some .local) (hx : scope.names.lookup x = some .local)
    (h : wpAny (model prog w) A (eval iter env) (FSrc prog w A h₀ L m env ct x scope cl Q) E s)
    (hs : ∀ x, foldedSetIterable iter env x = pure x := by intro _; rfl) :
    wpAny (model prog w) A (eval (.ListComp elt [⟨.Name x px, iter, [ct], 0⟩] scope pos) env) Q E s := by
  rw [eval_ListComp]
  refine wpAny_comprehension_free (use := none) rfl hs hclos hkind hnames (wpAny_mono h (fun xv s₁ h₁ => ?_) fun _ _ e => e)
  obtain ⟨ax, vs, ep, news, rfl, hh, F, N, hm, hsz, turn, hfin⟩ := h₁
  have lt : ax < s₁.heap.objs.size := Heap.lt_size (N _ hm).1
  obtain ⟨o, S, St, W, ho, keep, st0, hS, it⟩ := feed (prog := prog) (w := w) hh F N (.inl ⟨ep, hm⟩)
  have up : ∀ b x, s₁.heap.get? b = some x → (s₁.heap.push o).get? b = some x := fun _ _ => Heap.get?_push_of_some _
  have S0 : S news := by simpa using hS []
  have rest : ∀ j i, i + j = vs.length → LCt.CompRestT prog w A h₀ L m env ct elt x scope cl { s₁ with heap := s₁.heap.push o } S (fun i v => vs[i]? = some v) (fun ys nw => ys = [] ∧ nw = news) j i [] news := by
    intro j
    induction j with
    | zero => exact fun _ _ => .zero ⟨rfl, rfl⟩
    | succ j ih =>
      refine fun i hi => .succ fun v I oI C oC D m₂ h tk E' hv hC hx' F' N' off _ => ?_
      refine wpAny_mono (turn v (List.mem_of_getElem? hv) I oI C oC D _ m₂ h tk E' trivial hC hx' F' N') (fun ok s₂ hq => ?_) fun _ _ e => e
      obtain ⟨rfl, tk', rfl⟩ := hq
      exact ⟨h, tk', news, rfl, F', N', off, S0, ih (i + 1) (by omega)⟩
  refine it _ _ (LCt.block_T W hsz ho keep hcell hkind hx st0 (in_push lt) (F.keeps up) (N.grown up) (Nat.ne_of_lt F.ns.lt) (next_is_new F) (fun p hp => Nat.ne_of_lt (Heap.lt_size (N p hp).1)) S0 (rest _ 0 (Nat.zero_add _)) ?_)
  rintro D C h tk m' ys led F' N' o1 hn hC₀ _ hCL _ hCD offC ⟨rfl, rfl⟩
  refine ⟨m', hn, fun h'' same => ?_⟩
  have z := home F' N' hC₀ hCL hCD offC same
  exact hfin D h'' tk z.1 z.2 (ne_of_off1 o1)
end

section
variable {prog : Program} {w : World} {A : Around} {E : Value → Shared → Prop} {s : Shared}
/-- a draw from a tuple's iterator, up to the look at its place -/
theorem tuple_look {it t : Addr} {i : Nat} {items : Array Value} {Q : Value → Shared → Prop} (hit : s.heap.IsTupleIter it t i) (ht : s.heap.IsTuple t items)
    (h : ∀ io, s.heap.get? it = some io → io.cls = .type "tuple_iterator" → io.data = .fields #[.ref t, .int i 0] → wpAny (model prog w) A.in1 (match items[i]? with
      | some x => do
        setField (.ref it) 1 (rawInt (i + 1))
        ret x
      | none => do
        rule (toString "tuple_iterator.__next__" ++ toString ".end")
        setField (.ref it) 0 .none
        Builtin.SmallTypes.stopIteration) (fun fin s' => ∃ v, fin = .done (.ret v) ∧ Q v s') E s) :
    wpAny (model prog w) A (Builtin.SmallTypes.nextOf (.ref it)) Q E s := by
  obtain ⟨io, hi, hc, hd⟩ := id hit
  replace h := h io hi hc hd
  obtain ⟨ic, id, idt, isl⟩ := io
  obtain ⟨⟨tc, td, tdt, tsl⟩, hl, rfl, n, rfl⟩ := ht
  subst hc hd
  refine wpAny_bind (wpAny_callSpecial?_slot (name := Str.ofString "__next__") hit.typeIs F.slot_tuple_iterator_next (wpAny_call_entry F.slot_tuple_iterator_next hit.typeIs F.entry_tuple_iterator_next ?_ (F.args_tuple_iterator_next_1 _)))
  obtain ⟨hp, g, d, tk, os⟩ := s
  wp_walk using AutoSeq1.wpAny_loadPart' hi, AutoSeq1.wpAny_loadPart' hl
  exact wpAny_mono h (fun fin s' q => q.imp fun v q => ⟨q.1, wpAny_pure q.2⟩) fun _ _ e => e
theorem nextOf_tuple_item {it t : Addr} {i : Nat} {items : Array Value} {x : Value} {Q : Value → Shared → Prop} (hit : s.heap.IsTupleIter it t i) (ht : s.heap.IsTuple t items) (hx : items[i]? = some x)
    (hQ : ∀ h', h'.IsTupleIter it t (i + 1) → Heap.SameBut it s.heap h' → Q x { s with heap := h' }) :
    wpAny (model prog w) A (Builtin.SmallTypes.nextOf (.ref it)) Q E s := by
  refine tuple_look hit ht fun io hi hc hd => ?_
  rw [hx]
  refine wpAny_bind (wpAny_setField hi hd (by simp) (wpAny_pure ⟨x, rfl, hQ _ ⟨_, Heap.get?_update_self _ hi ?_, ?_, ?_⟩ (Heap.SameBut.update ..)⟩))
  · exact Obj.isFreed_of_fields (Obj.data_mapFields hd _)
  · rw [Obj.cls_mapFields, hc]
  · rw [Obj.data_mapFields hd]; rfl
theorem nextOf_tuple_end {it t : Addr} {i : Nat} {items : Array Value} {Q : Value → Shared → Prop} (hh : A.handled = none) (hit : s.heap.IsTupleIter it t i) (ht : s.heap.IsTuple t items) (hx : items[i]? = none)
    (hE : ∀ h' e, Heap.ExtBut it s.heap h' → (∃ o, h'.get? e = some o ∧ o.cls = .type "StopIteration") → E (.ref e) { s with heap := h' }) :
    wpAny (model prog w) A (Builtin.SmallTypes.nextOf (.ref it)) Q E s := by
  refine tuple_look hit ht fun io hi hc hd => ?_
  rw [hx]
  refine wpAny_bind (wpAny_rule (wpAny_bind (wpAny_setField hi hd (by simp) ?_)))
  unfold Builtin.SmallTypes.stopIteration
  wp_walk
  exact wpAny_raiseNew_none (A := A.in1) hh (hE _ _ (((Heap.SameBut.update ..).extBut.push _).push _) ⟨_, Heap.get?_push_size _ rfl, rfl⟩)
end
theorem drawsTuple {prog : Program} {w : World} {A : Around} (hh : A.handled = none) (it l : Addr) (hne : l ≠ it) (items : Array Value) :
    Draws prog w A it [it, l] items.size (fun i v => items[i]? = some v) (fun i h => h.IsTupleIter it l i ∧ h.IsTuple l items) where
  live := fun _ _ st => let ⟨o, ho, _⟩ := st.1; ⟨o, ho⟩
  frame := fun _ _ _ st hk => ⟨st.1.at fun o e => hk it (by simp) o e, st.2.at fun o e => hk l (by simp) o e⟩
  item := fun i s Q E hi st hQ => by
    refine nextOf_tuple_item st.1 st.2 (x := items[i]) (by simp [hi]) fun h' hit' hs' => ?_
    exact hQ _ h' s.toks (by simp [hi]) ⟨hit', st.2.extBut hs'.extBut hne⟩ hs'
  done := fun s Q E st hE => nextOf_tuple_end hh st.1 st.2 (by simp) hE
set_option maxHeartbeats 2000000 in
theorem enumerate_newT (l : Addr) (items : Array Value) (n : Nat) (dct : Option Addr) (sl : Array (Option Value)) :
    Meets (Builtin.«enumerate.__new__» ⟨[.type "enumerate", .ref l], []⟩) (fun _ R s => s.heap.get? l = some { cls := .type "tuple", dict := dct, data := .seq items n, slots := sl } ∧
      R (.ok (.ret (.ref (s.heap.push { cls := .type "tuple_iterator", data := .fields #[.ref l, .int 0 0] }).objs.size)))
        { s with heap := (s.heap.push { cls := .type "tuple_iterator", data := .fields #[.ref l, .int 0 0] }).push { cls := .type "enumerate", data := .fields #[.none, .bool false, .ref s.heap.objs.size, rawInt 0, .none, .none] } }) :=
  .of_wp fun prog w A R s h => by
    obtain ⟨hp, g, d, tk, os⟩ := s
    obtain ⟨hl, h⟩ := h
    have hsub := sub_enumerate
    have hL : Heap.IsTuple (Shared.heap ⟨hp, g, d, tk, os⟩) l items := ⟨_, hl, rfl, n, rfl⟩
    wp_walk using AutoSeq1.wpAny_loadPart' hl
    refine wpAny_stack_any fun st => wpAny_pure ?_
    split
    · rename_i c _ _ _ _ _
      cases (c == Value.type "enumerate")
      · wp_walk using AutoSeq1.wpAny_loadPart' hl, wpAny_pyIter_tuple hL
        exact ⟨_, rfl, h⟩
      · wp_walk using AutoSeq1.wpAny_loadPart' hl, wpAny_pyIter_tuple hL
        exact ⟨_, rfl, h⟩
    · wp_walk using AutoSeq1.wpAny_loadPart' hl, wpAny_pyIter_tuple hL
      exact ⟨_, rfl, h⟩
section
variable {prog : Program} {w : World} {A : Around} {E : Value → Shared → Prop} {s : Shared}
theorem call_enumerate_tuple {l : Addr} {items : Array Value} {Q : Value → Shared → Prop} (hL : s.heap.IsTuple l items)
    (h : ∀ h', IsEnum h' (s.heap.objs.size + 1) s.heap.objs.size 0 .none → h'.IsTupleIter s.heap.objs.size l 0 → (∀ b o, s.heap.get? b = some o → h'.get? b = some o) → Q (.ref (s.heap.objs.size + 1)) { s with heap := h' }) :
    wpAny (model prog w) A (call (.type "enumerate") [.ref l]) Q E s := by
  obtain ⟨⟨c, dct, dt, sl⟩, hl, hc, n, hd⟩ := hL
  replace hc : c = .type "tuple" := hc
  replace hd : dt = .seq items n := hd
  subst hc hd
  refine callType_new F.called_enumerate (by decide) (F.typeCall_enumerate_1 _) (F.newCall_enumerate_1 _) (fun obj => F.args_object_init_2 obj _) F.entry_enumerate_new (enumerate_newT l items n dct sl) ⟨hl, ?_⟩
  have hz : (s.heap.push { cls := .type "tuple_iterator", data := .fields #[.ref l, .int 0 0] }).objs.size = s.heap.objs.size + 1 := Heap.size_push ..
  show _ ∧ _
  rw [hz]
  have he : IsEnum ((s.heap.push { cls := .type "tuple_iterator", data := .fields #[.ref l, .int 0 0] }).push
      { cls := .type "enumerate", data := .fields #[.none, .bool false, .ref s.heap.objs.size, rawInt 0, .none, .none] }) (s.heap.objs.size + 1) s.heap.objs.size 0 .none := by
    have e := Heap.get?_push_size (s.heap.push { cls := .type "tuple_iterator", data := .fields #[.ref l, .int 0 0] })
      (o := { cls := .type "enumerate", data := .fields #[.none, .bool false, .ref s.heap.objs.size, rawInt 0, .none, .none] }) rfl
    rw [hz] at e
    exact e
  exact ⟨⟨_, he, rfl⟩, h _ he ⟨_, Heap.get?_push_of_some _ (Heap.get?_push_size _ rfl), rfl, rfl⟩ fun b o x => Heap.get?_push_of_some _ (Heap.get?_push_of_some _ x)⟩
end
section
variable {prog : Program} {w : World} {A : Around} {E : Value → Shared → Prop} {s : Shared} {env : Env} {h₀ : Heap} {body : List Stmt} {Q : Flow → Shared → Prop}
theorem of_two {α : Type} {x a b : α} (h : x ∈ [a, b]) : x = a ∨ x = b :=
  (List.mem_cons.mp h).imp id List.mem_singleton.mp
theorem enumT {elts : List PySem.Expr} {k : Nat} {pos : Pos} {l : Addr} {vs : List Value} {m₀ : Str → Option Value} {news : Led}
    (hh : A.handled = none) (F : Fr h₀ env.locals s.heap m₀) (N : News h₀ env.locals s.heap news) (hm : (l, tupO vs) ∈ news)
    (rest₀ : ∀ I : Addr, (∀ p ∈ news, p.1 < I) → ItemsRest prog w A E h₀ env (.Tuple elts k pos) body Q s [(I + 1, "enumerate"), (I, "tuple_iterator")] [(l, tupO vs)] (enumItems 0 vs) m₀ news) :
    wpAny (model prog w) A (call (.type "enumerate") [.ref l]) (fun xv s₁ => wpAny (model prog w) A (pyIter xv) (fun it s₂ => TurnsAt prog w A h₀ env (.Tuple elts k pos) body Q E it s₂) E s₁) E s := by
  have below : ∀ p ∈ news, p.1 < s.heap.objs.size := fun p hp => Heap.lt_size (N p hp).1
  have hL : env.locals < s.heap.objs.size := F.ns.lt
  have hl : s.heap.IsTuple l vs.toArray := ⟨_, (N _ hm).1, rfl, 0, rfl⟩
  have up : ∀ {a : Nat}, a < s.heap.objs.size → a ≠ s.heap.objs.size + 1 ∧ a ≠ s.heap.objs.size := fun h => ⟨by omega, by omega⟩
  have hlt := up (below _ hm)
  have D := drawsTuple (prog := prog) (w := w) (A := A.in1) hh s.heap.objs.size l hlt.2 vs.toArray
  refine call_enumerate_tuple hl fun h' hE hI hk => wpAny_pyIter_enum hE ?_
  have W := (WalksT.enumerateD D (s.heap.objs.size + 1) (Nat.succ_ne_self _) (fun h => ?offs) (.head _)).toU
  case offs => exact (List.mem_cons.mp h).elim (fun e => Nat.succ_ne_self _ e) fun h => hlt.1 (List.mem_singleton.mp h).symm
  refine ktu_core (tk0 := s.toks) (keep := [(l, tupO vs)]) (KTurns.ofWalksU W) (enumItems_length ..).symm ?item ?objs ?ws ?wr ?fp ?loc ?nw ⟨⟨.none, hE⟩, hI, hl.at fun o e => hk l o e⟩ (F.keeps hk) (N.grown hk) ⟨hm, trivial⟩ (rest₀ _ below)
  case item =>
    intro i v h p
    obtain ⟨T, _, rfl, ⟨t, x, hx, rfl⟩, hT⟩ := p
    have g := enumItems_get vs 0 i (v := x) (by simpa using hx)
    rw [Nat.zero_add] at g
    exact ⟨_, g, T, t, rfl, hT⟩
  case objs =>
    intro i h st
    obtain ⟨⟨old, he⟩, ⟨oi, hoi, hic, _⟩, _⟩ := st
    have named : ∃ o, h.get? (s.heap.objs.size + 1) = some o ∧ o.cls = .type "enumerate" := ⟨_, he, rfl⟩
    obtain ⟨oe, hoe, hec⟩ := named
    exact ⟨[(_, oe), (_, oi)], ⟨⟨rfl, hec⟩, ⟨rfl, hic⟩, trivial⟩, List.forall_mem_cons.mpr ⟨hoe, List.forall_mem_singleton.mpr hoi⟩⟩
  case ws =>
    intro b hb
    rcases of_two hb with rfl | rfl
    · exact ⟨.head _, ktu_new F (Nat.le_succ _)⟩
    · exact ⟨.tail _ (.head _), ktu_new F (Nat.le_refl _)⟩
  case wr => exact fun b hb => hb
  case fp =>
    intro b hb
    rcases List.mem_cons.mp hb with rfl | hb
    · exact .inl (.head _)
    rcases of_two hb with rfl | rfl
    · exact .inl (.tail _ (.head _))
    · exact .inr ⟨_, .head _⟩
  case loc =>
    intro hb
    rcases List.mem_cons.mp hb with e | hb
    · exact (up hL).1 e
    rcases of_two hb with e | e
    · exact (up hL).2 e
    · exact (N _ hm).2.1 e.symm
  case nw => exact fun p hp hb => (of_two hb).elim (up (below p hp)).1 (up (below p hp)).2
/-- a list of things without those of the iterator -/
inductive Cut (its : Led) : Led → Led → Prop where
  | here {r : Led} : (∀ p ∈ r, ∀ q ∈ its, @Ne Nat p.1 q.1) → Cut its (its ++ r) r
  | skip {p : Addr × Obj} {l r : Led} : (∀ q ∈ its, @Ne Nat p.1 q.1) → Cut its l r → Cut its (p :: l) (p :: r)
theorem Cut.mem {its l r : Led} (c : Cut its l r) : ∀ p ∈ its ++ r, p ∈ l := by
  induction c with
  | here _ => exact fun p hp => hp
  | skip _ _ ih =>
    intro p hp
    rcases List.mem_append.mp hp with hp | hp
    · exact .tail _ (ih p (List.mem_append_left _ hp))
    · rcases List.mem_cons.mp hp with rfl | hp
      · exact .head _
      · exact .tail _ (ih p (List.mem_append_right _ hp))
theorem Cut.off {its l r : Led} (c : Cut its l r) : ∀ p ∈ r, ∀ q ∈ its, p.1 ≠ q.1 := by
  induction c with
  | here h => exact h
  | skip h _ ih =>
    intro p hp
    rcases List.mem_cons.mp hp with rfl | hp
    · exact h
    · exact ih p hp
theorem turnEnd {L : Addr} {s₁ : Shared} {its l r : Led} {rest : (Str → Option Value) → Led → Prop} {h' : Heap} {tk : Nat} {m' : Str → Option Value} (F : Fr h₀ L h' m') (N : News h₀ L h' l) (c : Cut its l r) (h : rest m' r) :
    UnrEndW h₀ L s₁ its rest { s₁ with heap := h', toks := tk } := ⟨h', tk, m', r, rfl, F, fun p hp => N p (c.mem p hp), c.off, h⟩
end
theorem off_its {I : Nat} {r r' its : Led} (l : ∀ p ∈ r', p.1 < I) (e : r.map (·.1) = r'.map (·.1)) (h : ∀ q ∈ its, I ≤ q.1) : ∀ p ∈ r, ∀ q ∈ its, @Ne Nat p.1 q.1 := fun p hp q hq => by
  have hm : p.1 ∈ r'.map (·.1) := e ▸ List.mem_map_of_mem hp
  obtain ⟨p', hp', e'⟩ := List.mem_map.mp hm
  exact Nat.ne_of_lt (Nat.lt_of_lt_of_le (e' ▸ l p' hp') (h q hq))
theorem off_two {I : Nat} {oe oi : Obj} : ∀ q ∈ [(I + 1, oe), (I, oi)], I ≤ q.1 := fun q hq => by
  rcases List.mem_cons.mp hq with rfl | hq
  · exact Nat.le_succ _
  · rw [List.mem_singleton.mp hq]; exact Nat.le_refl _
theorem off_one {I : Nat} {oi : Obj} : ∀ q ∈ [(I, oi)], I ≤ q.1 := fun q hq => by rw [List.mem_singleton.mp hq]; exact Nat.le_refl _

theorem cut_one {I : Addr} {o : Obj} {r : Led} (h : ∀ q ∈ r, @Ne Nat q.1 I) : ∀ p ∈ r, ∀ q ∈ [(I, o)], @Ne Nat p.1 q.1 := fun p hp q hq => by
  rw [List.mem_singleton.mp hq]; exact h p hp
theorem cut_two {I J : Addr} {o o' : Obj} {r : Led} (h : ∀ q ∈ r, @Ne Nat q.1 I) (h' : ∀ q ∈ r, @Ne Nat q.1 J) : ∀ p ∈ r, ∀ q ∈ [(I, o), (J, o')], @Ne Nat p.1 q.1 := fun p hp q hq => by
  rcases List.mem_cons.mp hq with rfl | hq
  · exact h p hp
  · rw [List.mem_singleton.mp hq]; exact h' p hp
theorem Cut.one1 {I : Addr} {o : Obj} {r : Led} (h : ∀ q ∈ r, @Ne Nat q.1 I) : Cut [(I, o)] ((I, o) :: r) r := .here (cut_one h)
theorem Cut.two2 {I J : Addr} {o o' : Obj} {r : Led} (h : ∀ q ∈ r, @Ne Nat q.1 I) (h' : ∀ q ∈ r, @Ne Nat q.1 J) : Cut [(I, o), (J, o')] ((I, o) :: (J, o') :: r) r := .here (cut_two h h')

-- chains as data: == and != of two of them
def Ch.data : Ch → PyData
  | .sym s => .tuple [.str (Str.ofString "sym"), .str s.str]
  | .call n k c => .tuple [.str (Str.ofString "call"), .str n.str, .tuple (List.replicate k c.data)]
def Ch.pos : Ch → Bool
  | .sym _ => true
  | .call _ k c => decide (1 ≤ k) && c.pos
theorem readsAll_rep {h : Heap} {d : PyData} : ∀ vs : List Value, (∀ v ∈ vs, ∃ as, Reads h v d as) → ∃ as, ReadsAll h vs (List.replicate vs.length d) as
  | [], _ => ⟨[], .nil⟩
  | v :: r, hv => by
    obtain ⟨a, h1⟩ := hv v (.head _)
    obtain ⟨b, h2⟩ := readsAll_rep r fun v hv' => hv v (.tail _ hv')
    exact ⟨_, .cons h1 h2⟩
theorem TmIn.reads {h₀ h : Heap} {L : Addr} {news : Led} (N : News h₀ L h news) {v : Value} {c : Ch} (t : TmIn news v c) : ∃ as, Reads h v c.data as := by
  induction t with
  | sym hm => exact ⟨_, .tuple (N _ hm).1 rfl rfl (.cons (.str _ _) (.cons (.str _ _) .nil))⟩
  | call h1 h2 hz _ ih =>
    obtain ⟨as, r⟩ := readsAll_rep _ ih
    exact ⟨_, .tuple (N _ h1).1 rfl rfl (.cons (.str _ _) (.cons (.str _ _) (.cons (.tuple (N _ h2).1 rfl rfl r) .nil)))⟩
theorem eqvAll_rep {a b : PyData} : ∀ k k' : Nat, PyData.eqvAll (List.replicate k a) (List.replicate k' b) = (decide (k = k') && (decide (k = 0) || PyData.eqv a b))
  | 0, 0 => by simp [PyData.eqvAll]
  | 0, k' + 1 => by simp [PyData.eqvAll, List.replicate_succ]
  | k + 1, 0 => by simp [PyData.eqvAll, List.replicate_succ]
  | k + 1, k' + 1 => by
    rw [List.replicate_succ, List.replicate_succ, PyData.eqvAll, eqvAll_rep k k']
    cases PyData.eqv a b <;> by_cases h : k = k' <;> by_cases h0 : k = 0 <;> simp [h, h0] <;> omega
theorem eqv_self : ∀ c : Ch, PyData.eqv c.data c.data = true
  | .sym s => by simp [Ch.data, PyData.eqv, PyData.eqvAll]
  | .call n k c => by simp [Ch.data, PyData.eqv, PyData.eqvAll, eqvAll_rep, eqv_self c]
theorem nm_inj : ∀ {n n' : Nm}, (n.str == n'.str) = true → n = n' := by
  intro n n' h
  by_cases e : n = n'
  · exact e
  · rw [nm_ne e] at h; cases h
theorem sy_inj : ∀ {n n' : Sy}, (n.str == n'.str) = true → n = n' := by
  intro n n' h
  cases n <;> cases n' <;> first | rfl | exact absurd h (by decide)
theorem eqv_inj : ∀ {c d : Ch}, c.pos = true → d.pos = true → PyData.eqv c.data d.data = true → c = d
  | .sym s, .sym s', _, _, h => by
    simp only [Ch.data, PyData.eqv, PyData.eqvAll, Bool.and_eq_true] at h
    rw [sy_inj h.2.1]
  | .sym s, .call n k c, _, _, h => by simp [Ch.data, PyData.eqv, PyData.eqvAll] at h
  | .call n k c, .sym s, _, _, h => by simp [Ch.data, PyData.eqv, PyData.eqvAll] at h
  | .call n k c, .call n' k' c', hc, hd, h => by
    simp only [Ch.pos, Bool.and_eq_true, decide_eq_true_eq] at hc hd
    simp only [Ch.data, PyData.eqv, PyData.eqvAll, Bool.and_eq_true, eqvAll_rep, decide_eq_true_eq, Bool.or_eq_true] at h
    obtain ⟨_, h1, ⟨h2, h3⟩, _⟩ := h
    have h4 : PyData.eqv c.data c'.data = true := h3.resolve_left (by omega)
    rw [nm_inj h1, h2, eqv_inj hc.2 hd.2 h4]
theorem canLay_rep {d : PyData} (h : d.canLay0 = true) : ∀ k : Nat, PyData.canLayAll0 (List.replicate k d) = true
  | 0 => by simp [PyData.canLayAll0]
  | k + 1 => by rw [List.replicate_succ, PyData.canLayAll0, h, canLay_rep h k]; rfl
theorem canLay_ch : ∀ c : Ch, c.data.canLay0 = true
  | .sym s => by cases s <;> decide +kernel
  | .call n k c => by
    have h1 : PyData.strOk (Str.ofString "call") = true := by decide +kernel
    have h2 : PyData.strOk n.str = true := by cases n <;> decide +kernel
    simp [Ch.data, PyData.canLay0, PyData.canLayAll0, canLay_rep (canLay_ch c), h1, h2]
theorem depth_rep {d : PyData} : ∀ k : Nat, PyData.depthAll (List.replicate k d) ≤ d.depth
  | 0 => by simp [PyData.depthAll]
  | k + 1 => by
    rw [List.replicate_succ, PyData.depthAll]
    have := depth_rep (d := d) k
    omega
theorem depth_ch : ∀ c : Ch, c.data.depth ≤ 2 * c.depth
  | .sym s => by simp [Ch.data, PyData.depth, PyData.depthAll, Ch.depth]
  | .call n k c => by
    have h1 := depth_ch c
    have h2 := depth_rep (d := c.data) k
    simp only [Ch.data, PyData.depth, PyData.depthAll, Ch.depth]
    omega
section
variable {prog : Program} {w : World} {A : Around} {E : Value → Shared → Prop} {s : Shared} {h₀ : Heap} {L : Addr} {news : Led} {v v' : Value} {c d : Ch} {Q : Value → Shared → Prop}
theorem chEq (N : News h₀ L s.heap news) (t : TmIn news v c) (t' : TmIn news v' d) (hu : A.units + 2 * min c.depth d.depth < cLine) (b : Bool) (hb : PyData.eqv c.data d.data = b) (h : Q (.bool b) s) :
    wpAny (model prog w) A (compareOp .Eq v v') Q E s := by
  obtain ⟨as, r⟩ := t.reads N
  obtain ⟨bs, r'⟩ := t'.reads N
  refine SeqAt.compareEq_reads r r' (canLay_ch c) (canLay_ch d) ?_ (by rw [hb]; exact h)
  have h1 := depth_ch c
  have h2 := depth_ch d
  omega
theorem chNe (N : News h₀ L s.heap news) (t : TmIn news v c) (t' : TmIn news v' d) (hu : A.units + 2 * min c.depth d.depth < cLine) (b : Bool) (hb : PyData.eqv c.data d.data = !b) (h : Q (.bool b) s) :
    wpAny (model prog w) A (compareOp .NotEq v v') Q E s := by
  obtain ⟨as, r⟩ := t.reads N
  obtain ⟨bs, r'⟩ := t'.reads N
  refine SeqAt.compareNe_reads r r' (canLay_ch c) (canLay_ch d) ?_ (by rw [hb, Bool.not_not]; exact h)
  have h1 := depth_ch c
  have h2 := depth_ch d
  omega
end

-- the own exception's fields: Exception.__init__, the first store (the dict is made), a further store
abbrev excO (t : Addr) (D : Option Addr) : Obj := { cls := .ref 31, dict := D, data := .fields #[.ref t, .none, .none, .none, .bool false, .none] }
/-- a namespace by its object -/
def DObj (o : Obj) (m : Str → Option Value) : Prop := ∃ es ep, o.data = .dict es ep ∧ StrKeys es ∧ UniqKeys es ∧ ∀ name, nsFind es name = m name
theorem DObj.ns {o : Obj} {m : Str → Option Value} (x : DObj o m) {h : Heap} {a : Addr} (e : h.get? a = some o) : h.Ns1 a m := let ⟨es, ep, r⟩ := x; ⟨o, es, ep, e, r⟩
theorem ns1_obj {h : Heap} {a : Addr} {m : Str → Option Value} (x : h.Ns1 a m) : ∃ o, h.get? a = some o ∧ DObj o m := let ⟨o, es, ep, e, r⟩ := x; ⟨o, e, es, ep, r⟩
section
open Builtin Builtin.ObjectAttr
variable {prog : Program} {w : World} {A : Around} {E : Value → Shared → Prop} {h : Heap} {g : Array GenState} {d : Drawn} {t : Nat} {os : OsState}
variable {nm q : Str} {N x t0 : Addr} {bs : List Value} {sn : List Str} {sub : List Value} {ab : Bool} {col : Option Bool} {dd : Option Addr} {k0 k1 k2 k3 k5 : Option Value} {newId : String} {mN : Str → Option Value} {name : Str} {v : Value}
abbrev excBm : List Value := [.type "Exception", .type "BaseException", .type "object"]
/-- a name goes into a dict with nothing in it -/
theorem into_empty {s : Shared} {D : Addr} {tk : Tok} {Q : Fin → Shared → Prop} (hD : s.heap.get? D = some { cls := .type "dict", data := .dict #[] })
    (hq : ∀ h' tk', h'.Ns1 D (fun y => if y = name then some v else none) → Heap.SameBut D s.heap h' → Q (.done (.ret .none)) { s with heap := h', toks := tk' }) :
    wpAny (model prog w) A (storeInDict D (.str name tk) name v) Q E s := by
  have n0 : s.heap.Ns1 D fun _ => none := .of_empty ⟨_, #[], _, hD, rfl, (fun _ h => absurd h (Array.not_mem_empty _)), fun _ => rfl⟩
  unfold storeInDict newKeyGuard
  refine wpAny_bind (wpAny_pure (wpAny_bind (wpAny_nsSet1 n0 fun h' n1 same => ?_)))
  obtain ⟨o, es, ep, ho, hd, few⟩ := n1.count (Within.cons name v .nil)
  have room : es.size ≤ sizeLine + 1 := Nat.le_trans few (Nat.le_add_left 1 _)
  refine wpAny_bind (wpAny_lookBehind ho (by rw [hd]; exact pastItsLine_dict room) ?_)
  wp_walk
  exact hq h' _ n1 same
/-- no built-in of the class's own bars the store -/
theorem not_refused {Q : Unit → Shared → Prop} {sa owner : String} {s : Shared} (SF : StoreFacts "Exception" excBm sa owner) (hC : s.heap.get? 31 = some (excClassObj nm q 31 N bs excBm true sn sub ab col dd k0 k1 k2 k3 k5 newId))
    (hx : s.heap.get? x = some (excO t0 none)) (hq : Q () s) : wpAny (model prog w) A (refuseIfOverridden (.ref x) (Str.ofString "__setattr__")) Q E s := by
  have whole := (refuseLoop_ref (.ref x) (Str.ofString "__setattr__") 31 excBm).trans (SF.passes (.ref x))
  obtain ⟨h, g, d, t, os⟩ := s
  rw [refuse_eq]
  wp_walk using wpAny_loadPart_at hx, wpAny_mroOf_exc hC
  exact hq
theorem store_new {tk : Tok} {Q : Fin → Shared → Prop} {sa owner : String} (SF : StoreFacts "Exception" excBm sa owner) (hC : h.get? 31 = some (excClassObj nm q 31 N bs excBm true sn sub ab col dd k0 k1 k2 k3 k5 newId)) (hn : h.Ns N mN) (hna : mN name = none)
    (hB : typeLookup (.type "Exception") name = pure none) (hx : h.get? x = some (excO t0 none))
    (hq : ∀ h' tk', h'.get? x = some (excO t0 (some h.objs.size)) → h'.Ns1 h.objs.size (fun y => if y = name then some v else none) → (∀ b o, b ≠ x → h.get? b = some o → h'.get? b = some o) → Q (.done (.ret .none)) ⟨h', g, d, tk', os⟩) :
    wpAny (model prog w) A (Builtin.«object.__setattr__» ⟨[.ref x, .str name tk, v], []⟩) Q E ⟨h, g, d, t, os⟩ := by
  unfold Builtin.«object.__setattr__»
  wp_walk using wpAny_loadPart_at hx, wpAny_typeLookup_exc hC hn SF.mro hB, not_refused SF hC hx
  rw [hna]
  have ne : x ≠ h.objs.size := Nat.ne_of_lt (Heap.lt_size hx)
  have here : ∀ f, ((h.push { cls := .type "dict", data := .dict #[] }).update x f).get? h.objs.size = some { cls := .type "dict", data := .dict #[] } :=
    fun f => (Heap.get?_update_other _ f ne).trans (Heap.get?_push_at rfl rfl)
  wp_walk using wpAny_loadPart_at hx, into_empty (here _)
  refine fun h' tk' n1 same => hq h' tk' ((same.2 x ne).trans (Heap.get?_update_self _ (Heap.get?_push_of_some _ hx) rfl)) n1 fun b o q hb => ?_
  exact (same.2 b (Nat.ne_of_lt (Heap.lt_size hb))).trans ((Heap.get?_update_other _ _ (Ne.symm q)).trans (Heap.get?_push_of_some _ hb))
theorem set_first {Q : Unit → Shared → Prop} {sa owner : String} (SF : StoreFacts "Exception" excBm sa owner) (hC : h.get? 31 = some (excClassObj nm q 31 N bs excBm true sn sub ab col dd k0 k1 k2 k3 k5 newId)) (hn : h.Ns N mN) (hns : mN "__setattr__" = none) (hna : mN name = none)
    (hB : typeLookup (.type "Exception") name = pure none) (hx : h.get? x = some (excO t0 none))
    (hq : ∀ h' tk', h'.get? x = some (excO t0 (some h.objs.size)) → h'.Ns1 h.objs.size (fun y => if y = name then some v else none) → (∀ b o, b ≠ x → h.get? b = some o → h'.get? b = some o) → Q () ⟨h', g, d, tk', os⟩) :
    wpAny (model prog w) A (setAttr (.ref x) name v) Q E ⟨h, g, d, t, os⟩ := by
  have b3 := SF.slot.bind (.ref x)
  unfold setAttr callSpecial? specialOf
  wp_walk using wpAny_loadPart_at hx, wpAny_typeLookup_exc hC hn SF.mro SF.slot.lookup
  rw [hns]
  wp_walk using wpAny_of_eq b3
  exact codeAny_call_builtin SF.slot.plain SF.entry (wpAny_check_sa SF hC hx rfl (store_new SF hC hn hna hB hx fun h' tk' a b c => wpAny_pure (wpAny_pure (hq h' tk' a b c))))
end

-- a loop over enumerate of any list, by what holds between its turns
section
variable {prog : Program} {w : World} {A : Around} {E : Value → Shared → Prop} {Q : Flow → Shared → Prop} {s : Shared} {env : Env} {h₀ : Heap} {target : PySem.Expr} {body : List Stmt} {ws : List (Addr × String)} {keep : Led}
theorem allObj_mono : ∀ {ws : List (Addr × String)} {k k' : Led → Prop}, AllObj ws k → (∀ its, k its → k' its) → AllObj ws k'
  | [], _, _, h, f => f _ h
  | _ :: _, _, _, h, f => fun o e => allObj_mono (h o e) fun its => f _
theorem post_mono {L : Addr} {s₁ : Shared} {its : Led} {r r' : (Str → Option Value) → Led → Prop} {f : Flow} {s₂ : Shared} (h : UnrPostW h₀ L s₁ its r Q f s₂) (hr : ∀ m n, r m n → r' m n) : UnrPostW h₀ L s₁ its r' Q f s₂ := by
  cases f with
  | ret v => exact h
  | brk => exact h
  | next => obtain ⟨h', tk, m', n', e, F, N, o, x⟩ := h; exact ⟨h', tk, m', n', e, F, N, o, hr _ _ x⟩
  | cont => obtain ⟨h', tk, m', n', e, F, N, o, x⟩ := h; exact ⟨h', tk, m', n', e, F, N, o, hr _ _ x⟩
theorem items_enum (Inv : (Str → Option Value) → Led → Prop) {vs : List Value}
    (turn : ∀ (i : Nat) (v : Value), v ∈ vs → ∀ m nw, Inv m nw → ∀ T t h tk, IsTup h T #[.int (i : Int) t, v] → Fr h₀ env.locals h m → AllObj ws (fun its => News h₀ env.locals h (its ++ nw) →
      wpAny (model prog w) A (assign target env (.ref T)) (fun _ s₂ => wpAny (model prog w) A (execs body env) (UnrPostW h₀ env.locals { s with heap := h, toks := tk } its (fun m' n' => SubL keep n' ∧ Inv m' n') Q) E s₂) E { s with heap := h, toks := tk }))
    (fin : ∀ m nw, Inv m nw → ∀ h tk, Fr h₀ env.locals h m → News h₀ env.locals h nw → Q .next { s with heap := h, toks := tk }) :
    ∀ (xs : List Value) (i : Nat), (∀ v ∈ xs, v ∈ vs) → ∀ m nw, Inv m nw → ItemsRest prog w A E h₀ env target body Q s ws keep (enumItems i xs) m nw := by
  intro xs
  induction xs with
  | nil => exact fun i _ m nw hI => ItemsRest.zero (fin m nw hI)
  | cons v r ih =>
    intro i hs m nw hI
    refine ItemsRest.pair fun T t h tk hT F => allObj_mono (turn i v (hs v (.head _)) m nw hI T t h tk hT F) fun its hq N => ?_
    refine wpAny_mono (hq N) (fun _ s₂ h₂ => ?_) fun _ _ e => e
    exact wpAny_mono h₂ (fun f s₃ h₃ => post_mono h₃ fun m' n' x => ⟨x.1, ih (i + 1) (fun u hu => hs u (.tail _ hu)) m' n' x.2⟩) fun _ _ e => e
end

-- a loop over range(n), n not written, by what holds between its turns
section
variable {prog : Program} {w : World} {A : Around} {E : Value → Shared → Prop} {Q : Flow → Shared → Prop} {s : Shared} {env : Env} {h₀ : Heap} {x : Str} {body : List Stmt}
theorem rpost_mono {L I : Addr} {it : Obj} {s₁ : Shared} {r r' : (Str → Option Value) → Led → Prop} {f : Flow} {s₂ : Shared} (h : UnrPost h₀ L s₁ I it r Q f s₂) (hr : ∀ m n, r m n → r' m n) : UnrPost h₀ L s₁ I it r' Q f s₂ := by
  cases f with
  | ret v => exact h
  | brk => exact h
  | next => obtain ⟨h', tk, m', n', e, F, N, o, x⟩ := h; exact ⟨h', tk, m', n', e, F, N, o, hr _ _ x⟩
  | cont => obtain ⟨h', tk, m', n', e, F, N, o, x⟩ := h; exact ⟨h', tk, m', n', e, F, N, o, hr _ _ x⟩
/-- one turn with k turns behind it -/
def RTurn (prog : Program) (w : World) (A : Around) (E : Value → Shared → Prop) (h₀ : Heap) (env : Env) (x : Str) (body : List Stmt) (Q : Flow → Shared → Prop) (s : Shared) (I : Addr) (a : Int) (n : Nat) (Inv : Nat → (Str → Option Value) → Led → Prop) : Prop :=
  ∀ k i m nw, i + (k + 1) = n → Inv (k + 1) m nw → ∀ t h tk, Fr h₀ env.locals h (fun y => if y = x then some (.int (a + (i : Int)) t) else m y) → News h₀ env.locals h ((I, itR (a + ((i + 1 : Nat) : Int)) ((n : Int) - ((i + 1 : Nat) : Int))) :: nw) →
    wpAny (model prog w) A (execs body env) (UnrPost h₀ env.locals { s with heap := h, toks := tk } I (itR (a + ((i + 1 : Nat) : Int)) ((n : Int) - ((i + 1 : Nat) : Int))) (Inv k) Q) E { s with heap := h, toks := tk }
theorem range_all {I : Addr} {a : Int} {n : Nat} (Inv : Nat → (Str → Option Value) → Led → Prop) (turn : RTurn prog w A E h₀ env x body Q s I a n Inv)
    (fin : ∀ m nw, Inv 0 m nw → ∀ h tk, Fr h₀ env.locals h m → News h₀ env.locals h nw → Q .next { s with heap := h, toks := tk }) :
    ∀ (k i : Nat) m nw, i + k = n → Inv k m nw → RangeRest prog w A E h₀ env x body Q s I a n k i m nw := by
  intro k
  induction k with
  | zero => exact fun i m nw _ hI => RangeRest.zero (fin m nw hI)
  | succ k ih =>
    intro i m nw hi hI
    refine RangeRest.succ fun t h tk F N => ?_
    exact wpAny_mono (turn k i m nw hi hI t h tk F N) (fun f s₃ h₃ => rpost_mono h₃ fun m' n' x => ih (i + 1) m' n' (by omega) x) fun _ _ e => e
end

-- (v,) * k
section
open Builtin
theorem noFill_tuple_mul : fillsNumberSlot (.type "tuple") "mul" = pure false :=
  PySem.fillsNumberSlot_seq (id := "tuple.__mul__") (r := some (.builtin "tuple.__rmul__")) PySem.F.slot_tuple_mul.lookup (by decide +kernel) PySem.F.slot_tuple_rmul.lookup (by decide +kernel)
theorem repeat_tuple : seqRepeat? (.type "tuple") = pure (some (.builtin "tuple.__mul__")) := by
  unfold seqRepeat?
  rw [PySem.seqSlot_of (T := "tuple") (name := "__mul__") (id := "tuple.__mul__") PySem.F.slot_tuple_mul.lookup (by decide +kernel), PySem.seqSlot_of (T := "tuple") (name := "__rmul__") (id := "tuple.__rmul__") PySem.F.slot_tuple_rmul.lookup (by decide +kernel)]
  rfl
theorem tm_int_rmul (a : Int) (t : Tok) (l : Addr) (items : Array Value) :
    Meets (Builtin.«int.__rmul__» ⟨[.int a t, .ref l], []⟩) (fun _ R s => s.heap.get? l = some { cls := .type "tuple", data := .seq items 0 } ∧ R (.ok (.ret Value.notImplemented)) s) :=
  .of_wp fun prog w A R s h => by obtain ⟨hp, g, d, tk, os⟩ := s; obtain ⟨hl, h⟩ := h; wp_walk; exact ⟨_, rfl, h⟩
theorem tm_foldl (v : Value) : ∀ (k : Nat) (a : Array Value), List.foldl (fun x1 x2 => x1 ++ x2) a (List.replicate k #[v]) = a ++ (List.replicate k v).toArray
  | 0, a => by simp
  | k + 1, a => by rw [List.replicate_succ, List.foldl_cons, tm_foldl v k, List.replicate_succ]; apply Array.ext'; simp
theorem tm_mul (l : Addr) (v : Value) (x : Int) (u : Tok) (h2 : 2 ≤ x) (hz : x ≤ 1000) :
    Meets (Builtin.«tuple.__mul__» ⟨[.ref l, .int x u], []⟩) (fun _ R s => s.heap.get? l = some { cls := .type "tuple", data := .seq #[v] 0 } ∧ R (.ok (.ret (Value.ref s.heap.objs.size))) { s with heap := s.heap.push { cls := Value.type "tuple", data := Data.seq (List.foldl (fun x1 x2 => x1 ++ x2) #[] (List.replicate x.toNat #[v])) }, toks := s.toks }) :=
  .of_wp fun prog w A R s h => by
    obtain ⟨hp, g, d, tk, os⟩ := s; obtain ⟨hl, h⟩ := h
    have hs : (List.foldl (fun x1 x2 => x1 ++ x2) #[] (List.replicate x.toNat #[v])).size ≤ sizeLine := by rw [tm_foldl, sizeLine_eq]; simp; omega
    wp_walk
    rw [if_neg (by simp; omega)]
    wp_walk
    rw [if_neg (by simp; omega)]
    wp_walk
    rw [if_neg (by simp; omega)]
    wp_walk
    rw [if_neg (by simp; omega)]
    wp_walk
    rw [if_neg (by simp [Tuple.tupleTooMany, sizeLine]; omega)]
    wp_walk
    exact ⟨_, rfl, h⟩
variable {prog : Program} {w : World} {A : Around} {E : Value → Shared → Prop} {s : Shared} {h₀ : Heap} {L l : Addr} {m : Str → Option Value} {news : Led} {v : Value} {k : Nat} {u : Tok} {Q : Value → Shared → Prop}
theorem tmul (F : Fr h₀ L s.heap m) (N : News h₀ L s.heap news) (hm : (l, tupO [v]) ∈ news) (hk : 2 ≤ k ∧ k ≤ 1000) (h : ∀ D h', Fr h₀ L h' m → News h₀ L h' ((D, tupO (List.replicate k v)) :: news) → (∀ p ∈ news, p.1 < D) → Q (.ref D) { s with heap := h' }) :
    wpAny (model prog w) A (binaryOp .Mult (.ref l) (.int (k : Int) u)) Q E s := by
  have ho := (N _ hm).1
  refine PySem.wpAny_binaryOp_repeat_ref (T := "tuple") (U := "int") (by decide) ⟨_, ho, rfl⟩ (fun s' => typeIs_int s' _ u) noFill_tuple_mul PySem.F.fills_int_mul PySem.F.slot_int_rmul repeat_tuple PySem.F.slot_int_index.lookup
    (call_meets PySem.F.slot_int_rmul (typeIs_int s _ u) PySem.F.entry_int_rmul (PySem.F.args_int_rmul_2 _ _) (tm_int_rmul _ u l #[v])
      ⟨ho, rfl, ⟨_, ho, rfl⟩, call_meets PySem.F.slot_tuple_mul ⟨_, ho, rfl⟩ PySem.F.entry_tuple_mul (PySem.F.args_tuple_mul_2 _ _)
        (tm_mul l v _ u (by omega) (by omega)) ⟨ho, ?_⟩⟩)
  have N' := News.push F N { cls := Value.type "tuple", data := Data.seq (List.foldl (fun x1 x2 => x1 ++ x2) #[] (List.replicate (k : Int).toNat #[v])) }
  have e : List.foldl (fun x1 x2 => x1 ++ x2) #[] (List.replicate (k : Int).toNat #[v]) = (List.replicate k v).toArray := by rw [tm_foldl]; simp
  rw [e] at N'
  rw [e]
  exact h _ _ (F.push _) N' (fun p hp => Heap.lt_size (N p hp).1)
end

-- the law is well said (by the library's twin of the test, the program as it stands): its greatest parts apart, so that the kernel holds less at once
noncomputable abbrev lawProg : Program := (PySem.W.Fast.tw2368527892694137696 PySem.Challenge.rw_rh0041_02).prog
theorem both {a b : Bool} (ha : a = true) (hb : b = true) : (a && b) = true := by rw [ha, hb]; rfl
theorem said_a : PySem.W.Fast.tw8377067652309620493 lawProg = true := by kernel_rfl
theorem said_b : (PySem.W.Fast.tw17119622794617984870 lawProg lawProg.main.body fun _ n => PySem.W.Fast.tw17868728402115742887 n) = true := by kernel_rfl
theorem said_c : PySem.W.Fast.tw8326940854005059898 { strict := !PySem.W.R.allR (PySem.W.Fast.tw5923862056798008813 lawProg.main.body) (@PySem.W.Fast.tw3471404346716756564 Str (@instBEqOfDecidableEq Str PySem.W.Fast.sDec) PySem.W.Fast.tw17691160309236699985), foot := none, bare := PySem.W.R.filterR (PySem.W.Fast.tw13343964577679436407 lawProg lawProg.main.body) [{ cps := { toList := [118, 97, 114, 115] } }, { cps := { toList := [100, 105, 114] } }, { cps := { toList := [108, 111, 99, 97, 108, 115] } }] } lawProg.main.body = true := by kernel_rfl
theorem said : PySem.W.Fast.tw9446332074065402090 PySem.Challenge.rw_rh0041_02 = true := by
  unfold PySem.W.Fast.tw9446332074065402090
  unfold PySem.W.Fast.tw17960256430627541270
  unfold PySem.W.Fast.tw2436336058641802641
  unfold PySem.W.Fast.tw12908688711261696721
  repeat' (with_reducible refine both ?_ ?_)
  all_goals first | with_reducible exact said_a | with_reducible exact said_b | with_reducible exact said_c | kernel_rfl

local macro_rules | `(tactic| walk_at $s:str) => `(tactic| k_extra $s)
theorem rows1 : True := by
  k_with "mine memR" => (((repeat (first | (with_reducible exact Mine.mem_here) | (with_reducible assumption) | (with_reducible refine Mine.mem_skip ?_) | (with_reducible refine Mine.mem_left ?_))); done))
  k_with "mine memD" => (first | exact Mine.mem_here | ((with_reducible refine Mine.mem_skip ?_); walk_at "mine memD") | ((with_reducible refine Mine.mem_left ?_); walk_at "mine memD") | ((with_reducible refine Mine.mem_right ?_); walk_at "mine memD") | assumption)
  k_with "mine mem" => (first | walk_at "mine memR" | walk_at "mine memD" | ktr_member)
  trivial
local macro_rules | `(tactic| k_mem) => `(tactic| walk_at "mine mem")
theorem rows2 : True := by
  k_with "mine size" => ((try rw [PySem.sizeLine_eq]); (try simp only [List.size_toArray, List.length_cons, List.length_nil, List.length_append, List.length_map]); omega)
  k_with "subscriptTail" => ((k_here; (with_reducible show wpAny _ _ (subscriptTail _ _ (Value.ref _) (Value.int _ _)) _ _ _); k_dflt (first | (refine' Mine.subL (by k_asm) (by walk_at "mine memR") (by decide) (by decide) (by rfl) ?_ (by with_unfolding_all rfl); k_whole) | (refine' Mine.subT (by k_asm) (by walk_at "mine memR") (by decide) (by decide) (by rfl) ?_ (by with_unfolding_all rfl); k_whole) | (refine' Mine.subL (by k_asm) (by walk_at "mine mem") (by decide) (by decide) (by rfl) ?_ (by with_unfolding_all rfl); k_whole) | (refine' Mine.subT (by k_asm) (by walk_at "mine mem") (by decide) (by decide) (by rfl) ?_ (by with_unfolding_all rfl); k_whole))))
  k_with "compareOp In str ref" => ((k_here; (with_reducible show wpAny _ _ (compareOp CmpOp.In (Value.str _ _) (Value.ref _)) _ _ _); k_dflt (refine' in_tuple_strs (by exact kun_topT (by k_asm) (by k_asm) (by k_is)) (by kde_strs) ?_; k_whole)))
  k_with "subscriptTail Name Constant ref int" => (walk_at "subscriptTail")
  k_with "subscriptTail Name Name ref int" => (walk_at "subscriptTail")
  k_with "subscriptTail Subscript Constant ref int" => (walk_at "subscriptTail")
  k_with "call type:tuple" => ((k_here; (with_reducible show wpAny _ _ (call (Value.type _) [Value.ref _]) _ _ _); k_dflt (refine' kde_tupleOf (by k_asm) (by k_asm) (by exact News.isList (by k_asm) (by k_mem)) (by walk_at "mine size") (by exact rfl) ?_; k_whole); intro D' h' F' N' l1; (try k_lt l1); (try k_sweep)))
  k_with "call type:list" => ((k_here; (with_reducible show wpAny _ _ (call (Value.type _) [Value.ref _]) _ _ _); k_dflt (refine' kup_listOfT (by k_asm) (by k_asm) (by k_mem) (by exact rfl) ?_ (by walk_at "mine size"); k_whole); intro D' c' h' F' N' l1; (try k_lt l1); (try k_sweep)))
  k_with "call builtin:len" => ((k_here; (with_reducible show wpAny _ _ (call (Value.builtin "len") [Value.ref _]) _ _ _); k_dflt (first | (refine' kun_lenL (by exact News.isList (by k_asm) (by walk_at "mine memR")) (by kun_count) (by decide) ?_; k_whole) | (refine' kun_lenT (by exact News.isTup (by k_asm) (by walk_at "mine memR")) (by kun_count) (by decide) ?_; k_whole) | (refine' Mine.lenL (by k_asm) (by walk_at "mine memR") (by walk_at "mine size") ?_; k_whole) | (refine' Mine.lenT (by k_asm) (by walk_at "mine memR") (by walk_at "mine size") ?_; k_whole) | (refine' kun_lenL (by exact News.isList (by k_asm) (by k_mem)) (by kun_count) (by decide) ?_; k_whole) | (refine' kun_lenT (by exact News.isTup (by k_asm) (by k_mem)) (by kun_count) (by decide) ?_; k_whole) | (refine' Mine.lenL (by k_asm) (by k_mem) (by walk_at "mine size") ?_; k_whole) | (refine' Mine.lenT (by k_asm) (by k_mem) (by walk_at "mine size") ?_; k_whole))))
  k_with "call builtin:len cons nil" => (walk_at "call builtin:len")
  k_with "mine conj" => (repeat (rename (_ ∧ _) => hx9; cases hx9))
  k_with "mine apart" => (first | (with_reducible assumption) | (with_reducible exact Mine.ne_of_lts (by assumption)) | (with_reducible refine Mine.ne_of_lts_sub (by with_reducible assumption) (by walk_at "mine sub")) | exact Mine.ne_of_allLt_sub (by with_reducible assumption) (by walk_at "mine sub") | (with_reducible exact Mine.ne_of_lts (by assumption)) | (with_reducible exact Mine.ne_of_lts1 (by assumption)) | (with_reducible exact Mine.ne_of_lts2 (by assumption)) | (with_reducible exact Mine.ne_of_lts11 (by assumption)) | exact Mine.Apart.sub (by with_reducible assumption) (by walk_at "mine sub") | (with_reducible exact Mine.ne_of_off1 (by assumption)) | (intro q8 hq8; simp only [List.mem_cons, List.not_mem_nil, or_false] at hq8; subst hq8; refine neN ?_; dsimp only; omega) | exact fun q9 hq9 => (by assumption : ∀ q ∈ _, _) q9 (by simp only [List.mem_cons, List.mem_append, hq9, true_or, or_true]))
  k_with "mine sub" => ((intro q9 hq9; simp only [List.mem_cons, List.mem_append, hq9, true_or, or_true]))
  k_with "mine fin" => ((refine' Mine.fin (by assumption) (by assumption) (by assumption) (by k_asm) (by k_asm) (by k_asm) (by walk_at "mine front") ?_))
  k_with "mine front" => (first | (with_reducible exact Mine.Front.nil) | exact Mine.Front.cons (by walk_at "mine apart") (by walk_at "mine front") | exact Mine.Front.app (by walk_at "mine front") (by walk_at "mine apart"))
  k_with "mine room" => (((try simp only [depth_under_make, depth_under_kw, depth_in1, depth_deeper, depth_caller] at *); (try dsimp only [ktrTop] at *); (try simp only [recursionLimit] at *); omega))
  k_with "mine enter" => ((refine' code_defG (by k_asm) (by k_asm) (by k_asm) (by k_asm) (by k_asm) (by exact rfl) (by exact rfl) (by assumption) (by k_is) (by k_is) (by walk_at "mine room") (by exact BindsTo.of_eq rfl) (by exact locs rfl) ?_ (by exact rfl) (by exact rfl) (by exact rfl) (by decide); k_whole; intro g' L' h' FG' F' N' B' X' T' kG'; (try dsimp only); (try k_fold)))
  k_with "mine enterC" => ((refine' Mine.enterC (by k_asm) (by k_asm) (by k_asm) (by k_asm) (by k_asm) (by exact rfl) (by exact rfl) (by assumption) (by k_is) (by k_is) (by walk_at "mine room") (by exact BindsTo.of_eq rfl) (by exact rfl) (by decide +kernel) ?_ (by exact rfl) (by exact rfl) (by exact rfl); k_whole; intro g' L' h' tk' cells' FG' F' N' Y' B' X' T' l1 kG'; (try k_lt l1); k_cells Y'; (try simp only [List.cons_append, List.nil_append] at N'); (try dsimp only); (try k_fold)))
  k_with "eval ListComp" => ((k_here; k_dflt (refine Mine.ListComp_M (F₀ := by k_asm) (by with_unfolding_all rfl) (by decide) (by rfl) (by decide) (by rfl) ?_)))
  k_with "mine led" => (first | exact Mine.inC (by assumption) (by k_asm) | k_asm)
  trivial
local macro_rules | `(tactic| walk_at "mine inline") => `(tactic| (refine' code_def ?k1 ?k2 ?k3 ?k4 ?k5 ?kA ?kF ?kK ?k6 ?k7 ?k8 ?k9 ?kB ?_ ?c2 ?c3 ?c4 ?c5; (case kA => exact rfl); (case kF => exact rfl); (case kK => first | exact rfl | assumption); (case k1 => k_asm); (case k2 => k_asm); (case k3 => k_asm); (case k4 => k_asm); (case k5 => k_asm); (case k6 => k_is); (case k7 => k_is); (case k8 => walk_at "mine room"); (case k9 => exact BindsTo.of_eq rfl); (case c5 => decide); (case kB => exact locs rfl); (case c2 => exact rfl); (case c3 => exact rfl); (case c4 => exact rfl); k_whole; intro g' L' h' FG' F' N' B' X' T'; (try dsimp only); (try k_fold)))
theorem rows3 : True := by
  k_with "call ref" => ((k_here; k_dflt (refine wpAny_call ?_; walk_at "mine inline")))
  k_with "call ref" => ((k_here; k_dflt (first | (refine' Mine.Tells1.useA (by k_asm) (by k_asm) (by k_asm) (by k_asm) (by walk_at "mine contract") (by walk_at "mine led") (by first | assumption | exact rfl) (by walk_at "mine rel") (by walk_at "mine room") (by walk_at "mine units") ?_; k_whole; intro r9 tl9 h9 tk9 k9 f9 F9 N9 o9; (have a9 := Mine.apart_fresh (by k_asm) f9); (try simp only [List.cons_append] at N9 o9); (try walk_at "mine out"); (try dsimp only); (try k_fold)) | (refine' Mine.Tells1.use (by k_asm) (by k_asm) (by k_asm) (by k_asm) (by assumption) (by walk_at "mine led") (by first | assumption | exact rfl) (by walk_at "mine rel") (by walk_at "mine room") (by walk_at "mine units") ?_; k_whole; intro r9 tl9 h9 tk9 k9 f9 F9 N9 o9; (have a9 := Mine.apart_fresh (by k_asm) f9); (try simp only [List.cons_append] at N9 o9); (try walk_at "mine out"); (try dsimp only); (try k_fold)))))
  k_with "mine units" => (((try simp only [units_in1, units_deeper, Around.mark_units, units_caller] at *); (try dsimp only [ktrTop] at *); (try simp only [cLine] at *); omega))
  trivial
-- loops
theorem rows4 : True := by
  k_with "mine cutoff" => (first | exact Mine.off_its (by assumption) (by rfl) Mine.off_two | exact Mine.off_its (by assumption) (by rfl) Mine.off_one | (intro q9 hq9; simp only [List.mem_cons, List.not_mem_nil, or_false] at hq9; (first | (rcases hq9 with rfl | rfl <;> (refine neN ?_; dsimp only; omega)) | (subst hq9; refine neN ?_; dsimp only; omega))))
  k_with "mine cutoff2" => (first | ((with_reducible refine Mine.cut_one ?_); walk_at "mine off1") | ((with_reducible refine Mine.cut_two ?_ ?_); (focus walk_at "mine off1"); walk_at "mine off1"))
  k_with "mine cutoff3" => (first | ((with_reducible refine List.forall_mem_cons.mpr ⟨?_, ?_⟩); (focus (refine neN ?_; dsimp only; omega)); walk_at "mine cutoff3") | (with_reducible exact List.forall_mem_nil _))
  k_with "mine cutR" => (first | (refine' Mine.Cut.one1 (by walk_at "mine off1")) | (refine' Mine.Cut.two2 (by walk_at "mine off1") (by walk_at "mine off1")) | (refine' Mine.Cut.here (by walk_at "mine cutoff2")) | (refine' Mine.Cut.skip (by walk_at "mine cutoff3") (by walk_at "mine cutR")))
  k_with "mine cut" => (((walk_at "mine conj"); walk_at "mine cutR"))
  k_with "UnrEndW" => (k_dflt (refine' Mine.turnEnd (by k_asm) (by k_asm) (by walk_at "mine cut") ?_; refine And.intro (And.intro (by k_mem) True.intro) ?_))
  k_with "UnrEndW cons" => (walk_at "UnrEndW")
  k_with "mine for" => (((rename Fr _ _ _ _ => lF'); (with_unfolding_all refine' For_turns lF' ?_; k_whole)))
  k_with "exec For Tuple Call cons nil" => ((k_here; walk_at "mine for"))
  k_with "exec For Name Name cons nil" => ((k_here; walk_at "mine for"))
  k_with "exec For Tuple Name cons nil" => ((k_here; walk_at "mine for"))
  k_with "call type:enumerate" => ((k_here; (with_reducible show wpAny _ _ (call (Value.type _) [Value.ref _]) (fun xv s₁ => wpAny _ _ (pyIter xv) (fun it s₂ => TurnsAt _ _ _ _ _ _ _ _ _ it s₂) _ s₁) _ _); k_dflt (refine' Mine.enumT (by rfl) (by k_asm) (by k_asm) (by k_mem) ?_; k_whole); intro I l1; (have l1' := l1); (try k_lt l1'); (try dsimp only [enumItems])))
  k_with "pyIter ref" => ((k_here; (with_reducible show wpAny _ _ (pyIter (Value.ref _)) (fun it s₂ => TurnsAt _ _ _ _ _ _ _ _ _ it s₂) _ _); k_dflt (refine' iter_listTurns (lo := lstO _ _) (by rfl) (by k_asm) (by k_asm) (by k_mem) (by rfl) (by rfl) ?_; k_whole); intro I l1; (have l1' := l1); (try k_lt l1'); (try dsimp only [List.map])))
  k_with "mine off1" => (first | (with_reducible exact List.forall_mem_nil _) | (with_reducible assumption) | (with_reducible exact Mine.ne_of_allLt (by assumption)) | (with_reducible exact Mine.ne_of_lts (by assumption)) | (with_reducible exact Mine.ne_of_allLt1 (by assumption)) | (with_reducible exact Mine.ne_of_lts1 (by assumption)) | ((with_reducible refine List.forall_mem_cons.mpr ⟨?_, ?_⟩); (focus (first | k_ne | (refine neN ?_; dsimp only; omega))); walk_at "mine off1") | ((with_reducible refine List.forall_mem_append.mpr ⟨?_, ?_⟩); (focus walk_at "mine off1"); walk_at "mine off1") | (with_reducible exact Mine.ne_of_allLt_left (by assumption)) | (with_reducible exact Mine.ne_of_allLt_right (by assumption)) | exact Mine.ne_of_apart (by with_reducible assumption) (by walk_at "mine memR"))
  trivial
local macro_rules | `(tactic| k_all) => `(tactic| ((walk_at "mine conj"); walk_at "mine off1"))
theorem rows5 : True := by
  k_with "compareOp Eq str str" => ((k_here; (with_reducible show wpAny _ _ (compareOp CmpOp.Eq (Value.str (Mine.Nm.str _) _) (Value.str _ _)) _ _ _); k_dflt (refine' Mine.strEqB (by first | (with_reducible exact Mine.nm_self _) | (with_reducible exact Mine.nm_ne (by assumption)) | exact Mine.nm_lit (by decide +kernel) _) ?_; k_whole)))
  k_with "compareOp In str ref" => ((k_here; (with_reducible show wpAny _ _ (compareOp CmpOp.In (Value.str (Mine.Nm.str _) _) (Value.ref _)) _ _ _); k_dflt (refine' Mine.strInB (by first | exact kun_topT (by k_asm) (by k_asm) (by k_is) | exact News.isTup (by k_asm) (by walk_at "mine memR")) (by kde_strs) (by exact Mine.nm_in (by decide +kernel) _) ?_; k_whole)))
  k_with "call type:list cons nil" => ((k_here; (with_reducible show wpAny _ _ (call (Value.type "list") [Value.ref _]) _ _ _); k_dflt (refine' kup_listOfT (by k_asm) (by k_asm) (by walk_at "mine memR") (by exact rfl) ?_ (by walk_at "mine size"); k_whole); intro D' c' h' F' N' l1; (try k_lt l1); (try k_sweep)))
  trivial
inductive CoRel (news : Led) : List Value → Nm × Nat × Ch → Prop where
  | mk {D : Addr} {vs : List Value} {ep : Nat} {tk : Tok} {n : Nm} {c : Ch} : (D, lstO vs ep) ∈ news → vs.length ≤ 1000 → (∀ v ∈ vs, TmIn news v c) → CoRel news [.str n.str tk, .ref D] (n, vs.length, c)
abbrev coT : Con (Nm × Nat × Ch) where
  Rel := CoRel
  dep := fun _ => 1
  Out := fun news r d => TmIn news r (.call d.1 d.2.1 d.2.2)
section
theorem rows6 : True := by
  k_with "exec Assign cons Subscript" => ((exfalso; omega))
  trivial
theorem co_ok (w : World) (mean : ExcName → Option Value) (mg mb : Str → Option Value) : Tell w mean mg mb 355 coT := by
  unfold Tell
  intro d
  unfold Tells1
  intro dp un gd cn cs a ccd cl outer A₀ base h₀ L m news s vs Q E B F X N T hk hR hd hu hret
  cases hR with
  | @mk D vs ep tk n c hD hz hv =>
    dsimp only [coT] at hd hu hret
    refine wpAny_call ?_
    by_cases h1 : vs.length = 1
    · obtain ⟨v, rfl⟩ := List.length_eq_one_iff.mp h1
      k_dflt (walk_at "mine enter")
      k_steps
      walk_at "mine conj"
      walk_at "mine fin"
      intro n' hs
      refine' TmIn.call ?o1 ?o2 hz fun v hv' => (hv v hv').mono fun p hp => hs p (by simp only [List.mem_cons, hp, or_true])
      case o1 => exact hs _ (by k_mem)
      case o2 => exact hs _ (by k_mem)
    · k_dflt (walk_at "mine enter")
      k_steps
      walk_at "mine conj"
      walk_at "mine fin"
      intro n' hs
      refine' TmIn.call ?o1 ?o2 hz fun v hv' => (hv v hv').mono fun p hp => hs p (by simp only [List.mem_cons, hp, or_true])
      case o1 => exact hs _ (by k_mem)
      case o2 => exact hs _ (by k_mem)
end

theorem rows7 : True := by
  k_with "mine contract" => (exact Mine.co_ok _ _ _ _)
  k_with "mine rel" => ((refine' Mine.CoRel.mk (by k_mem) (by first | assumption | omega) (by first | assumption | exact Mine.all_mono (by assumption) (by walk_at "mine sub"))))
  trivial
def Ch.width : Ch → Nat
  | .sym _ => 0
  | .call _ k _ => k
def Ch.inner : Ch → Ch
  | .sym s => .sym s
  | .call _ _ c => c
inductive ItRel (news : Led) : List Value → Ch → Prop where
  | mk {v : Value} {c : Ch} : TmIn news v c → ItRel news [v] c
abbrev itT : Con Ch where
  Rel := ItRel
  dep := fun _ => 1
  Out := fun led r c => LIn (fun l u => TmIn l u c.inner) c.width led r
theorem it_ok (w : World) (mean : ExcName → Option Value) (mg mb : Str → Option Value) : Tell w mean mg mb 133 itT := by
  intro d
  unfold Tells1
  intro dp un gd cn cs a ccd cl outer A₀ base h₀ L m news s vs Q E B F X N T hk hR hd hu hret
  cases hR with
  | mk ht =>
    dsimp only [itT] at hd hu hret
    cases ht with
    | @sym ta t1 t2 sy hm =>
      refine wpAny_call ?_
      k_dflt (walk_at "mine enter")
      k_steps
      walk_at "mine conj"
      walk_at "mine fin"
      intro n' hs
      exact ⟨_, _, [], rfl, hs _ (by walk_at "mine memR"), rfl, fun _ h => nomatch h⟩
    | @call ta tb t1 t2 n vs c h1 h2 hz hv =>
      refine wpAny_call ?_
      k_dflt (walk_at "mine enter")
      k_steps
      walk_at "mine conj"
      walk_at "mine fin"
      intro n' hs
      exact ⟨_, _, vs, rfl, hs _ (by walk_at "mine memR"), rfl, fun u hu => (hv u hu).mono fun p hp => hs p (by simp only [List.mem_cons, List.mem_append, hp, true_or, or_true])⟩

theorem rows8 : True := by
  k_with "mine contract" => (exact Mine.it_ok _ _ _ _)
  k_with "mine rel" => (exact Mine.ItRel.mk (by walk_at "mine tm"))
  k_with "mine tm" => (first | assumption | exact Mine.TmIn.mono (by assumption) (by walk_at "mine sub"))
  k_with "mine out" => ((rename Mine.LIn _ _ _ _ => o8; obtain ⟨b8, ep8, us8, e8, hb8, hl8, hu8⟩ := o8; subst e8))
  trivial
/-- is_too_great on a level of n copies of c -/
def tgo : Ch → Nat → Nat → Nat → Bool
  | .sym _, n, many, here => decide (n ≠ 0) && (decide (120 < many + 1) || decide (20000 < here + n))
  | .call _ k c, n, many, here => decide (n ≠ 0) && (decide (120 < many + 1) || decide (20000 < here + n) || (decide (100 < n) && decide (20000 < here + n + n * k)) || tgo c (n * k) (many + 1) (here + n))
/-- the levels that are built are of 1000 items at most -/
def fit : Ch → Nat → Nat → Nat → Bool
  | .sym _, _, _, _ => true
  | .call _ k c, n, many, here => decide (n = 0) || decide (120 < many + 1) || decide (20000 < here + n) || (decide (100 < n) && decide (20000 < here + n + n * k)) || (decide (n * k ≤ 1000) && fit c (n * k) (many + 1) (here + n))
inductive TgRel (news : Led) : List Value → Ch → Prop where
  | mk {v : Value} {c : Ch} {t1 t2 : Tok} : TmIn news v c → fit c 1 0 0 = true → TgRel news [v, .int 120 t1, .int 20000 t2] c
abbrev tgT : Con Ch where
  Rel := TgRel
  dep := fun _ => 2
  Out := fun _ r c => r = .bool (tgo c 1 0 0)
def TgJ (R : Bool) (m0 : Str → Option Value) (news : Led) (μ : Nat) (m₁ : Str → Option Value) (nw : Led) : Prop :=
  ∃ (c : Ch) (many here : Nat) (Lv : Addr) (ep : Nat) (vs : List Value) (t1 t2 : Tok) (tl : Led), m₁ = (fun y => if y = Str.ofString "level" then some (.ref Lv) else if y = Str.ofString "many" then some (.int many t1) else if y = Str.ofString "here" then some (.int here t2) else m0 y) ∧
    nw = news ++ tl ∧ Apart news tl ∧ (Lv, lstO vs ep) ∈ news ++ tl ∧ vs.length ≤ 1000 ∧ (∀ v ∈ vs, TmIn (news ++ tl) v c) ∧ tgo c vs.length many here = R ∧ fit c vs.length many here = true ∧ μ = (if vs.length = 0 then 0 else c.depth) ∧ here ≤ 20000 ∧ many ≤ 120
def TgTurn (prog : Program) (w : World) (A : Around) (h₀ : Heap) (L : Addr) (env : Env) (test : PySem.Expr) (body : List Stmt) (m0 : Str → Option Value) (news : Led) (R : Bool) (s : Shared) (Q : Flow → Shared → Prop) (E : Value → Shared → Prop) : Prop :=
  ∀ (μ : Nat) (c' : Ch) (many here : Nat) (Lv : Addr) (ep : Nat) (vs : List Value) (t1 t2 : Tok) (tl : Led) (h₁ : Heap) (tk₁ : Nat),
      Fr h₀ L h₁ (fun y => if y = Str.ofString "level" then some (.ref Lv) else if y = Str.ofString "many" then some (.int many t1) else if y = Str.ofString "here" then some (.int here t2) else m0 y) →
      News h₀ L h₁ (news ++ tl) → Apart news tl → (Lv, lstO vs ep) ∈ news ++ tl → vs.length ≤ 1000 → (∀ v ∈ vs, TmIn (news ++ tl) v c') → tgo c' vs.length many here = R → fit c' vs.length many here = true → μ = (if vs.length = 0 then 0 else c'.depth) → here ≤ 20000 → many ≤ 120 →
      wpAny (model prog w) A (isTrue test env (eval test env)) (fun b s₂ =>
        if b = true then wpAny (model prog w) A (execs body env) (WhileStep2 h₀ L s (TgJ (R) m0 news) Q μ) E s₂ else Q .next s₂) E { s with heap := h₁, toks := tk₁ }
theorem ws_ret {h₀ : Heap} {L : Addr} {s s₃ : Shared} {J : Nat → (Str → Option Value) → Led → Prop} {Q : Flow → Shared → Prop} {n : Nat} {v : Value} (h : Q (.ret v) s₃) : WhileStep2 h₀ L s J Q n (.ret v) s₃ := h
theorem ws_next {h₀ : Heap} {L : Addr} {s : Shared} {J : Nat → (Str → Option Value) → Led → Prop} {Q : Flow → Shared → Prop} {n n' : Nat} {h' : Heap} {tk : Nat} {m₂ : Str → Option Value} {l news₂ : Led} (F : Fr h₀ L h' m₂) (N : News h₀ L h' l) (hs : ∀ p ∈ news₂, p ∈ l) (hn : n' < n) (hJ : J n' m₂ news₂) :
    WhileStep2 h₀ L s J Q n .next { s with heap := h', toks := tk } := ⟨h', tk, m₂, news₂, n', rfl, F, fun p hp => N p (hs p hp), hn, hJ⟩
theorem tgo_0 {c : Ch} {n many here : Nat} {R : Bool} (h : tgo c n many here = R) (hn : n = 0) : R = false := by
  subst hn; rw [← h]; cases c <;> simp [tgo]
theorem tgo_1 {c : Ch} {n many here : Nat} {R : Bool} (h : tgo c n many here = R) (hn : n ≠ 0) (h1 : 120 < many + 1 ∨ 20000 < here + n) : R = true := by
  rw [← h]
  cases c <;> simp only [tgo, Bool.and_eq_true, Bool.or_eq_true, decide_eq_true_eq] <;> exact ⟨hn, by rcases h1 with h1 | h1 <;> simp [h1]⟩
theorem tgo_2 {c : Ch} {n many here M : Nat} {R : Bool} (h : tgo c n many here = R) (hn : n ≠ 0) (h1 : 100 < n) (hM : n * c.width = M) (h2 : 20000 < here + n + M) (hl : n ≤ 1000) (hh : here + n ≤ 20000) : R = true := by
  rw [← h]
  subst hM
  cases c with
  | sym s => simp only [Ch.width] at h2; omega
  | call P k c => simp only [Ch.width] at h2; simp [tgo, hn, h1, h2]
theorem tgo_3 {c : Ch} {n many here : Nat} {R : Bool} (h : tgo c n many here = R) (hn : n ≠ 0) (h1 : ¬ 120 < many + 1) (h2 : ¬ 20000 < here + n) (h3 : ¬ (100 < n ∧ 20000 < here + n + n * c.width)) : tgo c.inner (n * c.width) (many + 1) (here + n) = R := by
  rw [← h]
  cases c with
  | sym s => simp [tgo, Ch.inner, Ch.width]; omega
  | call P k c =>
    simp only [Ch.inner, Ch.width] at h3 ⊢
    rw [tgo]
    simp only [hn, h1, h2, ne_eq, not_false_eq_true, decide_true, decide_false, Bool.true_and, Bool.false_or, Bool.or_self]
    rw [show (decide (100 < n) && decide (20000 < here + n + n * k)) = false by simpa using h3]
    simp
theorem fit_3 {c : Ch} {n many here : Nat} (h : fit c n many here = true) (hn : n ≠ 0) (h1 : ¬ 120 < many + 1) (h2 : ¬ 20000 < here + n) (h3 : ¬ (100 < n ∧ 20000 < here + n + n * c.width)) : n * c.width ≤ 1000 ∧ fit c.inner (n * c.width) (many + 1) (here + n) = true := by
  cases c with
  | sym s => simp [fit, Ch.inner, Ch.width]
  | call P k c =>
    simp only [Ch.inner, Ch.width] at h3 ⊢
    rw [fit] at h
    rw [show (decide (100 < n) && decide (20000 < here + n + n * k)) = false by simpa using h3] at h
    simpa [hn, h1, h2] using h
theorem tg_less {c : Ch} {n : Nat} (hn : n ≠ 0) : (if n * c.width = 0 then 0 else c.inner.depth) < (if n = 0 then 0 else c.depth) := by
  rw [if_neg hn]
  cases c with
  | sym s => simp [Ch.width, Ch.depth]
  | call P k c => simp only [Ch.inner, Ch.depth]; split <;> omega
theorem TmIn.width_le {news : Led} {v : Value} {c : Ch} (h : TmIn news v c) : c.width ≤ 1000 := by
  cases h with
  | sym _ => exact Nat.zero_le _
  | call _ _ h _ => exact h
theorem tg_next {h₀ : Heap} {L : Addr} {s : Shared} {Q : Flow → Shared → Prop} {R : Bool} {m0 : Str → Option Value} {news l X' : Led} {μ : Nat} {c : Ch} {many here ep : Nat} {Lv D : Addr} {vs ys : List Value} {t1 t2 : Tok} {X Y : Option Value} {h' : Heap} {tk : Nat}
    (F : Fr h₀ L h' (fun y => if y = Str.ofString "level" then some (.ref D) else (fun y => if y = Str.ofString "many" then some (.int ((many : Int) + 1) t1) else if y = Str.ofString "here" then some (.int ((here : Int) + (vs.length : Int)) t2) else if y = Str.ofString "level" then some (.ref Lv) else if y = Str.ofString "many" then X else if y = Str.ofString "here" then Y else m0 y) y))
    (N : News h₀ L h' l) (f : Front news l X') (hD : (D, lstO ys ep) ∈ l) (hl : ys.length = vs.length * c.width) (hg : ∀ y ∈ ys, TmIn l y c.inner)
    (j5 : tgo c vs.length many here = R) (j6 : fit c vs.length many here = true) (j7 : μ = (if vs.length = 0 then 0 else c.depth)) (hn : vs.length ≠ 0) (h1 : ¬ 120 < many + 1) (h2 : ¬ 20000 < here + vs.length) (h3 : ¬ (100 < vs.length ∧ 20000 < here + vs.length + vs.length * c.width)) :
    WhileStep2 h₀ L s (TgJ R m0 news) Q μ .next { s with heap := h', toks := tk } := by
  obtain ⟨f1, f2⟩ := fit_3 j6 hn h1 h2 h3
  refine ws_next (news₂ := news ++ X') F N f.mem (n' := if vs.length * c.width = 0 then 0 else c.inner.depth) (j7 ▸ tg_less hn)
    ⟨c.inner, many + 1, here + vs.length, D, ep, ys, t1, t2, X', ?_, rfl, f.apart, f.back _ hD, by omega, fun y hy => (hg y hy).mono f.back, hl ▸ tgo_3 j5 hn h1 h2 h3, hl ▸ f2, by rw [hl], by omega, by omega⟩
  · funext y
    by_cases e1 : y = Str.ofString "level"
    · simp only [e1, if_true]
    · by_cases e2 : y = Str.ofString "many"
      · simp only [e1, e2, if_true, if_false]; rfl
      · by_cases e3 : y = Str.ofString "here"
        · subst e3
          simp only [if_true, Int.natCast_add]; rfl
        · simp only [e1, e2, e3, if_false]
section
variable {prog : Program} {w : World} {A : Around} {E : Value → Shared → Prop} {Q : Flow → Shared → Prop} {s : Shared} {env : Env} {h₀ : Heap} {L : Addr}
theorem tg_while {test : PySem.Expr} {body : List Stmt} {pos : Pos} {m0 : Str → Option Value} {news led : Led} {c : Ch} {Lv : Addr} {v : Value} {t1 t2 : Tok}
    (F : Fr h₀ L s.heap (fun y => if y = Str.ofString "level" then some (.ref Lv) else if y = Str.ofString "many" then some (.int 0 t1) else if y = Str.ofString "here" then some (.int 0 t2) else m0 y))
    (N : News h₀ L s.heap led) (hm : (Lv, lstO [v] 0) ∈ led) (ht : TmIn news v c) (hf : fit c 1 0 0 = true) (hs : ∀ p ∈ news, p ∈ led) (ap : ∀ q ∈ news, @Ne Nat q.1 Lv)
    (turn : TgTurn prog w A h₀ L env test body m0 news (tgo c 1 0 0) s Q E)
    (hE : PassesOwn (model prog w) A env E := by passes_own) :
    wpAny (model prog w) A (exec (.While test body [] pos) env) Q E s := by
  refine While_inv2 (J := TgJ (tgo c 1 0 0) m0 news) (n₀ := c.depth) (news := news ++ [(Lv, lstO [v] 0)]) F (fun p hp => ?_) ⟨c, 0, 0, Lv, 0, [v], t1, t2, [(Lv, lstO [v] 0)], rfl, rfl, fun q hq p hp => ?_, mem_right (.head _), by simp, fun y hy => ?_, rfl, hf, rfl, by omega, by omega⟩ ?_ hE
  · rcases List.mem_append.mp hp with hp | hp
    · exact N p (hs p hp)
    · rw [List.mem_singleton.mp hp]; exact N _ hm
  · rw [List.mem_singleton.mp hp]; exact ap q hq
  · rw [List.mem_singleton.mp hy]; exact ht.mono fun p hp => List.mem_append_left _ hp
  · rintro μ m₁ nw h₁ tk₁ F₁ N₁ ⟨c', many, here, Lv, ep, vs, t1, t2, tl, rfl, rfl, j1, j2, j3, j4, j5, j6, j7, j8, j9⟩
    exact turn μ c' many here Lv ep vs t1 t2 tl h₁ tk₁ F₁ N₁ j1 j2 j3 j4 j5 j6 j7 j8 j9
end
section
variable {prog : Program} {w : World} {A : Around} {E : Value → Shared → Prop} {s : Shared} {h₀ : Heap} {L : Addr} {m : Str → Option Value}
theorem sumK {D : Addr} {ep k M : Nat} {ys : List Value} {led : Led} {Q : Value → Shared → Prop} (hh : A.handled = none) (F : Fr h₀ L s.heap m) (N : News h₀ L s.heap led) (hm : (D, lstO ys ep) ∈ led) (hy : ∀ y ∈ ys, ∃ t, y = .int (k : Int) t) (hM : ys.length * k = M)
    (h : ∀ h' tk t', Fr h₀ L h' m → News h₀ L h' led → Q (.int (M : Int) t') { s with heap := h', toks := tk }) : wpAny (model prog w) A (call (.builtin "sum") [.ref D]) Q E s := by
  have key : ∀ ys : List Value, (∀ y ∈ ys, ∃ t, y = .int (k : Int) t) → IntsAre ys (List.replicate ys.length (k : Int)) := by
    intro ys
    induction ys with
    | nil => exact fun _ => .nil
    | cons y r ih =>
      intro hy
      obtain ⟨t, rfl⟩ := hy y (.head _)
      exact .cons _ _ (ih fun z hz => hy z (.tail _ hz))
  have hsum : (List.replicate ys.length (k : Int)).sum = (M : Int) := by
    rw [← hM]
    generalize ys.length = n
    induction n with
    | zero => simp
    | succ n ih => rw [List.replicate_succ, List.sum_cons, ih, Nat.succ_mul]; push_cast; omega
  refine LSm.sum_ints F N hh (N.isList hm) (key ys hy) fun h' tk t' F' N' => ?_
  rw [hsum]
  exact h h' tk t' F' N'
end
theorem rows9 : True := by
  k_with "call builtin:sum" => ((k_here; k_dflt (refine' Mine.sumK (by rfl) (by k_asm) (by k_asm) (by walk_at "mine memR") (by assumption) (by assumption) ?_; k_whole); intro h' tk' t' F' N'))
  k_with "exec Assign cons ListComp" => ((k_here; k_dflt (refine Mine.Assign_N (F₀ := by k_asm) (by rfl) (by rfl) (by with_unfolding_all rfl) (by decide) (by rfl) (by decide) (by rfl) (by rfl) (by decide) (by rfl) (by rfl) ?_)))
  trivial
theorem ne_of_lts_left {a : Nat} {l l' : Led} (h : ∀ q ∈ l ++ l', q.1 < a) : ∀ q ∈ l, @Ne Nat q.1 a := fun q hq => Nat.ne_of_lt (h q (List.mem_append_left _ hq))
theorem rows10 : True := by
  k_with "mine apart" => ((with_reducible exact Mine.ne_of_lts_left (by assumption)))
  k_with "WhileStep2 ret" => ((k_here; k_dflt (refine Mine.ws_ret ?_)))
  k_with "exec While Compare cons nil" => ((k_here; k_dflt (refine' Mine.tg_while (by k_asm) (by k_asm) (by walk_at "mine memR") (by assumption) (by assumption) (by walk_at "mine sub") (by walk_at "mine apart") ?_)))
  k_with "eval ListComp Constant cons" => ((k_here; k_dflt (refine Mine.ListComp_F (F₀ := by k_asm) (by with_unfolding_all rfl) (by decide) (by rfl) (by decide) (by rfl) ?_)))
  trivial
theorem tg_ok (w : World) (mean : ExcName → Option Value) (mg mb : Str → Option Value) : Tell w mean mg mb 145 tgT := by
  intro d
  unfold Tells1
  intro dp un gd cn cs a ccd cl outer A₀ base h₀ L m news s vs Q E B F X N T hk hR hd hu hret
  cases hR with
  | @mk v c t1 t2 ht hfit =>
    dsimp only [tgT] at hd hu hret
    refine wpAny_call ?_
    k_dflt (walk_at "mine enter")
    k_steps
    intro μ c' many here Lv ep vs u1 u2 tl h₁ tk₁ F₁ N₁ j1 j2 j3 j4 j5 j6 j7 j8 j9
    k_steps
    case' _ => skip
    · walk_at "mine conj"
      walk_at "mine fin"
      intro n' hs
      rw [tgo_1 j5 (by omega) (.inl (by omega))]
    · walk_at "mine conj"
      walk_at "mine fin"
      intro n' hs
      rw [tgo_1 j5 (by omega) (.inr (by omega))]
    rotate_left
    · walk_at "mine conj"
      walk_at "mine fin"
      intro n' hs
      rw [tgo_0 j5 (by omega)]
    · refine' ⟨Lv, vs, ep, _, rfl, rfl, ?q4, ?q5, ?q1, ?q6, ?q2, ?q3⟩
      case q4 => k_asm
      case q5 => k_asm
      case q1 => walk_at "mine memR"
      case q6 => walk_at "mine size"
      case q2 =>
        intro v hv' I oI C oC D oD m₂ h tk E' ic hC hx F'' N''
        have tv := j4 v hv'
        cases tv with
        | sym hm =>
          try k_unmd
          try k_fold
          k_steps
        | call h1 h2 hz hv =>
          try k_unmd
          try k_fold
          k_steps
      case q3 =>
        intro D h tk F'' N'' off
        have o1 : ∀ q ∈ news, @Ne Nat q.1 D := fun q hq => off q (by simp only [List.mem_cons, List.mem_append, hq, true_or, or_true])
        have hw : c'.width ≤ 1000 := by
          obtain ⟨y, hy⟩ := List.exists_mem_of_length_pos (l := vs) (by omega)
          exact (j4 y hy).width_le
        k_steps
        case' _ => skip
        · refine' ⟨fun led y => ∃ tk, y = .int (c'.width : Int) tk, Lv, vs, _, rfl, rfl, ?q4, ?q5, .inl ⟨_, ?q1⟩, ?q6, fun _ _ _ _ h => h, ?q2, ?q3⟩
          case q4 => k_asm
          case q5 => k_asm
          case q1 => walk_at "mine memR"
          case q6 => walk_at "mine size"
          case q2 =>
            intro v hv' I oI C oC D oD m₂ tl' h tk E' ic hC hx F3 N3
            have tv := j4 v hv'
            try k_unmd
            try k_fold
            k_steps
            exact ⟨_, _, _, rfl, by assumption, by assumption, by assumption, _, congrArg (fun n : Nat => Value.int (n : Int) _) (by assumption)⟩
          case q3 =>
            intro ys tl' D2 h tk F3 N3 ap off2 hl hg
            obtain ⟨M, hM⟩ : ∃ M, ys.length * c'.width = M := ⟨_, rfl⟩
            have hMb : M ≤ 1000000 := by
              rw [← hM, hl]
              exact Nat.mul_le_mul j3 hw
            simp only [List.cons_append] at N3 off2 ap hg
            have o2 : ∀ q ∈ news, @Ne Nat q.1 D2 := fun q hq => off2 q (by simp only [List.mem_cons, List.mem_append, hq, true_or, or_true])
            have ap2 : Apart news tl' := ap.sub fun q hq => by simp only [List.mem_cons, List.mem_append, hq, true_or, or_true]
            k_steps
            case' _ => skip
            · walk_at "mine conj"
              walk_at "mine fin"
              intro n' hs
              rw [tgo_2 j5 (by omega) (by omega) (hl ▸ hM) (by omega) (by omega) (by omega)]
            · refine' ⟨fun l u => TmIn l u c'.inner, Lv, vs, _, c'.width, _, rfl, rfl, ?w4, ?w5, ?w1, ?w6, fun _ _ _ hs h => h.mono hs, ?w2, ?w3⟩
              case w4 => k_asm
              case w5 => k_asm
              case w1 => walk_at "mine memR"
              case w6 => exact Nat.le_trans (Nat.mul_le_mul j3 hw) (by rw [PySem.sizeLine_eq]; decide)
              case w2 =>
                intro v hv' I oI C oC D oD m₂ tl' h tk E' ic hC hx F3 N3
                have tv := j4 v hv'
                try k_unmd
                try k_fold
                k_steps
                exact ⟨_, _, _, rfl, by assumption, by assumption, by assumption, _, _, _, rfl, by assumption, by assumption, by assumption⟩
              case w3 =>
                intro ys2 tl2 D3 h tk F4 N4 ap2 off3 hl2 hg2
                simp only [List.cons_append] at N4 off3 ap2 hg2
                have o3 : ∀ q ∈ news, @Ne Nat q.1 D3 := fun q hq => off3 q (by simp only [List.mem_cons, List.mem_append, hq, true_or, or_true])
                have ap3 : Apart news tl2 := ap2.sub fun q hq => by simp only [List.mem_cons, List.mem_append, hq, true_or, or_true]
                k_steps
                refine' tg_next ?e1 ?e2 ?e3 ?e4 hl2 (fun y hy => (hg2 y hy).mono ?e5) j5 j6 j7 (by omega) (by omega) (by omega) ?e6
                case e1 => k_asm
                case e2 => k_asm
                case e3 => walk_at "mine front"
                case e4 => walk_at "mine memR"
                case e5 => walk_at "mine sub"
                case e6 => rw [← hl, hM]; omega
        · refine' ⟨fun l u => TmIn l u c'.inner, Lv, vs, _, c'.width, _, rfl, rfl, ?w4, ?w5, ?w1, ?w6, fun _ _ _ hs h => h.mono hs, ?w2, ?w3⟩
          case w4 => k_asm
          case w5 => k_asm
          case w1 => walk_at "mine memR"
          case w6 => exact Nat.le_trans (Nat.mul_le_mul j3 hw) (by rw [PySem.sizeLine_eq]; decide)
          case w2 =>
            intro v hv' I oI C oC D oD m₂ tl' h tk E' ic hC hx F3 N3
            have tv := j4 v hv'
            try k_unmd
            try k_fold
            k_steps
            exact ⟨_, _, _, rfl, by assumption, by assumption, by assumption, _, _, _, rfl, by assumption, by assumption, by assumption⟩
          case w3 =>
            intro ys2 tl2 D3 h tk F4 N4 ap2 off3 hl2 hg2
            simp only [List.cons_append] at N4 off3 ap2 hg2
            have o3 : ∀ q ∈ news, @Ne Nat q.1 D3 := fun q hq => off3 q (by simp only [List.mem_cons, List.mem_append, hq, true_or, or_true])
            have ap3 : Apart news tl2 := ap2.sub fun q hq => by simp only [List.mem_cons, List.mem_append, hq, true_or, or_true]
            k_steps
            refine' tg_next ?e1 ?e2 ?e3 ?e4 hl2 (fun y hy => (hg2 y hy).mono ?e5) j5 j6 j7 (by omega) (by omega) (by omega) ?e6
            case e1 => k_asm
            case e2 => k_asm
            case e3 => walk_at "mine front"
            case e4 => walk_at "mine memR"
            case e5 => walk_at "mine sub"
            case e6 => exact fun h => by omega

theorem rows11 : True := by
  k_with "mine contract" => (exact Mine.tg_ok _ _ _ _)
  k_with "mine rel" => (exact Mine.TgRel.mk (by walk_at "mine tm") (by assumption))
  k_with "mine out" => ((rename (_ = Value.bool (Mine.tgo _ _ _ _)) => o8; rename (Mine.tgo _ _ _ _ = _) => o7; rw [o7] at o8; subst o8))
  trivial
inductive SmRel (news : Led) : List Value → Ch → Prop where
  | mk {v : Value} {c : Ch} : TmIn news v c → SmRel news [v] c
abbrev smT : Con Ch where
  Rel := SmRel
  dep := fun c => c.depth + 1
  Out := TmIn
theorem rows12 : True := by
  k_with "mine rel" => (exact Mine.SmRel.mk (by assumption))
  trivial
theorem sm_ok (w : World) (mean : ExcName → Option Value) (mg mb : Str → Option Value) : Tell w mean mg mb 360 smT := by
  refine Tell.ind fun d IH => ?_
  unfold Tells1
  intro dp un gd cn cs a ccd cl outer A₀ base h₀ L m news s vs Q E B F X N T hk hR hd hu hret
  cases hR with
  | mk ht =>
    cases ht with
    | sym hm =>
      dsimp only [smT, Ch.depth] at hd hu hret
      refine wpAny_call ?_
      k_dflt (walk_at "mine enter")
      k_steps
      walk_at "mine fin"
      exact fun n' hs => (TmIn.sym hm).mono hs
    | @call a b t1 t2 n vs c h1 h2 hz hv =>
      dsimp only [smT, Ch.depth] at hd hu hret
      have IHc := IH c (Nat.lt_succ_self _)
      refine wpAny_call ?_
      k_dflt (walk_at "mine enter")
      k_steps
      refine ⟨fun led y => TmIn led y c, _, vs, _, rfl, rfl, by k_asm, by k_asm, .inr h2, by walk_at "mine size", fun _ _ _ hs h => h.mono hs, ?_, ?_⟩
      · intro v hv' I oI C oC D oD m₂ tl h tk E' ic hC hx F'' N''
        have tv := (hv v hv').mono fun (p : Addr × Obj) (h : p ∈ news) => List.mem_append_left tl h
        try k_unmd
        try k_fold
        k_steps
        exact ⟨_, _, _, rfl, by assumption, by assumption, by assumption, by assumption⟩
      · intro ys tl D h tk F'' N'' ap off hl hg
        have off1 : ∀ q ∈ news, @Ne Nat q.1 D := fun q hq => off q (List.mem_append_left _ hq)
        have hg' : ∀ y ∈ ys, TmIn ((D, lstO ys ys.length) :: (news ++ tl)) y c := fun y hy => (hg y hy).mono fun p hp => .tail _ hp
        k_steps
        walk_at "mine fin"
        intro n' hs
        rename_i o9 _ _ _ _ _
        have o8 := o9.mono hs
        rw [hl] at o8
        exact o8

theorem rows13 : True := by
  k_with "mine contract" => (exact Mine.sm_ok _ _ _ _)
  k_with "mine rel" => ((apply Mine.SmRel.mk; walk_at "mine tm"))
  trivial
theorem lk_list_keys : typeLookup (.type "list") "keys" = pure none := by rw [typeLookup_type, builtinLookup_eq_fast]; kernel_rfl
theorem entry_update_loop : entryFor table "dict.update.loop" = some Builtin.«dict.update.loop» := entryFor_of_tree (by kernel_rfl)
theorem plain_update_loop : plainId "dict.update.loop" = true := by decide +kernel
section
variable {prog : Program} {w : World} {A : Around} {E : Value → Shared → Prop} {a : Addr} {vs : List Value} {ep : Nat}
theorem no_keys {s : Shared} {Q : Option Value → Shared → Prop} (hh : A.handled = none) (hx : s.heap.get? a = some (lstO vs ep)) (hq : ∀ h' tk', InElt s.heap h' → Q none { s with heap := h', toks := tk' }) :
    wpAny (model prog w) A (getAttr? (.ref a) "keys") Q E s := by
  obtain ⟨hp, g, d, tk, os⟩ := s
  have T : ∀ tk', (⟨hp, g, d, tk', os⟩ : Shared).TypeIs (.ref a) "list" := fun _ => ⟨_, hx, rfl⟩
  have bound := F.slot_list_getattribute.bind (.ref a)
  have S := F.slot_list_getattribute
  have look := S.lookup
  have none_of := am_list_getattr_none
  have sub := sub_AttributeError
  unfold getAttr? getAttrBy? getAttrBy
  wp_walk using wpAny_typeOf (T _)
  have miss := fun (R : Result → Shared → Prop) (s : Shared) u hx h => codeAny_call_builtin (R := R) S.plain am_entry_list_getattribute (S.check _ _ _ _ _ _ _ _ (show s.TypeIs (.ref a) "list" from ⟨_, hx, rfl⟩) (F.args_list_getattribute_2 (.ref a) (.str "keys" u))
    (meets_getattribute_miss_list a vs.toArray ep #[] "keys" u lk_list_keys (by decide +kernel) (by size_fits) prog w A R s ⟨hx, hh, h⟩))
  refine miss _ _ _ hx fun h' tk' e err => ?_
  obtain ⟨_, _, there⟩ := err.there
  have te : ∀ tk, (⟨h', g, d, tk, os⟩ : Shared).TypeIs (.ref e) "AttributeError" := fun _ => ⟨_, there, rfl⟩
  dsimp only
  unfold getattributeRaised
  wp_walk using wpAny_typeOf (T _), wpAny_typeOf (te _)
  exact hq _ _ err.of.keeps
theorem call_dict_nil {knd : KeyKind prog w Str} {s : Shared} {Q : Value → Shared → Prop} (hh : A.handled = none) (hx : s.heap.get? a = some (lstO [] ep))
    (h : ∀ h' tk', (∃ o, h'.get? s.heap.objs.size = some o ∧ o.IsDictOf knd []) → InElt s.heap h' → Q (.ref s.heap.objs.size) { s with heap := h', toks := tk' }) :
    wpAny (model prog w) A (call (.type "dict") [.ref a]) Q E s := by
  refine callType_codes (Q₁ := fun obj s₁ => obj = .ref s.heap.objs.size ∧ s₁ = { s with heap := s.heap.push { cls := .type "dict", data := .dict #[] } }) F.kt_called_dict (F.kt_typeCall_dict_1 _) F.entry_dict_init (kt_code_dict_new _ ⟨rfl, rfl⟩) ?_
  rintro obj s₁ ⟨rfl, rfl⟩
  have hnew : (s.heap.push { cls := .type "dict", data := .dict #[] }).DictOf knd s.heap.objs.size [] := Heap.DictOf.new s.heap
  have hx' : (s.heap.push { cls := .type "dict", data := .dict #[] }).get? a = some (lstO [] ep) := Heap.get?_push_of_some _ hx
  refine ⟨hnew.typeIs, F.args_dict_init_2 _ _, ?_⟩
  unfold Builtin.«dict.__init__»
  refine wpAny_bind ?_
  unfold Builtin.Dict.selfAndRest
  refine wpAny_bind (wpAny_notOrdered_dict hnew.typeIs ?_)
  show wpAny _ _ (pure (s.heap.objs.size, [Value.ref a])) _ _ _
  refine wpAny_pure ?_
  show wpAny _ _ (Builtin.Dict.updateFrom "dict.__init__" s.heap.objs.size (.ref a) [] .none) _ _ _
  unfold Builtin.Dict.updateFrom
  refine wpAny_bind (wpAny_typeOf (T := "list") ⟨_, hx', rfl⟩ ?_)
  rw [if_pos (by decide)]
  refine wpAny_bind (no_keys (A := A.in1.in1) hh hx' fun h₁ tk₁ k₁ => ?_)
  simp only [Option.isNone_none, if_true]
  refine wpAny_bind (wpAny_rule (wpAny_bind ?_))
  have hl₁ : h₁.IsList a #[] := ⟨_, k₁ _ _ hx', rfl, _, rfl⟩
  refine wpAny_pyIter_list hl₁ (wpAny_pure ⟨plainId_quiet plain_update_loop _, codeAny_builtin entry_update_loop ?_⟩)
  unfold Builtin.«dict.update.loop»
  have hlt : a < h₁.objs.size := Heap.lt_size (k₁ _ _ hx')
  refine wpAny_bind (wpAny_pyNext_list_end (hh : A.handled = none) (l := a) (i := 0) ⟨_, Heap.get?_push_size _ rfl, rfl, rfl⟩ (hl₁.push _) (by simp) fun h₂ e₂ => ?_)
  refine wpAny_bind (wpAny_pure (wpAny_pure ?_))
  have up : InElt (s.heap.push { cls := .type "dict", data := .dict #[] }) h₂ := fun b o e => e₂ b o (Nat.ne_of_lt (Heap.lt_size (k₁ _ _ e))) (Heap.get?_push_of_some _ (k₁ _ _ e))
  obtain ⟨o, ho, hd⟩ := Heap.dictOf_iff.mp hnew
  exact ⟨rfl, h h₂ _ ⟨o, up _ _ ho, hd⟩ fun b o e => up b o (Heap.get?_push_of_some _ e)⟩
end
theorem dictN {prog : Program} {w : World} {A : Around} {E : Value → Shared → Prop} {s : Shared} {h₀ : Heap} {L a : Addr} {m : Str → Option Value} {news : Led} {ep : Nat} {Q : Value → Shared → Prop} (hh : A.handled = none) (F : Fr h₀ L s.heap m) (N : News h₀ L s.heap news) (hbig : h₀.NoLimit) (hm : (a, lstO [] ep) ∈ news)
    (h : ∀ (D : Addr) h' tk' o, Fr h₀ L h' m → News h₀ L h' ((D, o) :: news) → (∀ q ∈ news, q.1 < D) → (D == sysModules) = false → o.IsDictOf (PySem.strKind prog w) [] → Q (.ref D) { s with heap := h', toks := tk' }) :
    wpAny (model prog w) A (call (.type "dict") [.ref a]) Q E s := by
  refine call_dict_nil (knd := PySem.strKind prog w) hh (N _ hm).1 fun h' tk' ⟨o, ho, hd⟩ k => ?_
  have hn : s.heap.objs.size ≠ L := Nat.ne_of_gt F.ns.lt
  refine h _ h' tk' o (F.keeps k) (fun p hp => ?_) (fun q hq => Heap.lt_size (N q hq).1) (F.notModules (modules_low hbig)) hd
  rcases List.mem_cons.mp hp with rfl | hp
  · exact ⟨ho, hn, next_is_new F⟩
  · exact ⟨k _ _ (N p hp).1, (N p hp).2⟩
/-- the dict that binds the blank to v -/
inductive FdIn (w : World) (news : Led) : Value → Value → Prop where
  | mk {F : Addr} {o : Obj} {v : Value} : (F, o) ∈ news → Obj.IsDictOf (PySem.strKind PySem.Challenge.rw_rh0041_02.row.prog w) o [(Str.ofString "a_", v)] → (F == sysModules) = false → FdIn w news (.ref F) v
theorem FdIn.mono {w : World} {news news' : Led} {f v : Value} (h : FdIn w news f v) (hs : ∀ p ∈ news, p ∈ news') : FdIn w news' f v := by
  cases h with
  | mk h1 h2 h3 => exact .mk (hs _ h1) h2 h3
inductive IbRel (news : Led) : List Value → Ch → Prop where
  | mk {v : Value} {c : Ch} : TmIn news v c → IbRel news [v] c
def Ch.blank : Ch → Bool
  | .sym .a => true
  | _ => false
abbrev ibT : Con Ch where
  Rel := IbRel
  dep := fun _ => 1
  Out := fun _ r c => r = .bool c.blank
theorem ib_ok (w : World) (mean : ExcName → Option Value) (mg mb : Str → Option Value) : Tell w mean mg mb 377 ibT := by
  intro d
  unfold Tells1
  intro dp un gd cn cs a ccd cl outer A₀ base h₀ L m news s vs Q E B F X N T hk hR hd hu hret
  cases hR with
  | mk ht =>
    cases ht with
    | @sym a t1 t2 sy hm =>
      cases sy
      all_goals
        simp only [Sy.str] at hm
        dsimp only [ibT] at hd hu hret
        refine wpAny_call ?_
        k_dflt (walk_at "mine enter")
        k_steps
        walk_at "mine conj"
        walk_at "mine fin"
        exact fun n' hs => rfl
    | call h1 h2 hz hv =>
      dsimp only [ibT] at hd hu hret
      refine wpAny_call ?_
      k_dflt (walk_at "mine enter")
      k_steps
      walk_at "mine conj"
      walk_at "mine fin"
      exact fun n' hs => rfl

theorem rows14 : True := by
  k_with "call type:list" => ((k_here; (with_reducible show wpAny _ _ (call (Value.type "list") [Value.ref _]) _ _ _); k_dflt (refine' kdx_listN (knd := PySem.strKind _ _) (enc := PyData.str) (ps := []) (by exact rfl) (by k_asm) (by k_asm) (by k_mem) (by k_mem) (by k_asm) (by exact Nat.le_of_ble_eq_true rfl) (by exact fun _ _ h => Value.isStrOf_shape h) (by exact rfl) ?_; k_whole); intro B l1; refine KdxOpen.nil ?_; intro c' h' tk' l9 F' N'; (try k_lt l1); (try simp only [List.nil_append] at N')))
  k_with "call type:dict" => ((k_here; (with_reducible show wpAny _ _ (call (Value.type "dict") [Value.ref _]) _ _ _); k_dflt (refine' Mine.dictN (by exact rfl) (by k_asm) (by k_asm) (by exact Top.nolimit (by k_asm)) (by k_mem) ?_; k_whole); intro D' h' tk' o' F' N' l1 lo' hd'; (try k_lt l1)))
  k_with "setItem ref str ref" => ((k_here; k_dflt (refine' kda_set (knd := PySem.strKind _ _) (by k_asm) (by k_asm) (by k_updF) (by k_asm) (strKind_is _ _ _ _) (by kob_size) ?_); intro h' o' F' N' hd'; (try dsimp only at N')))
  k_with "compareOp In str ref" => ((k_here; k_dflt (refine' kda_in (knd := PySem.strKind _ _) (by k_asm) (by k_mem) (by k_asm) (by k_asm) (strKind_is _ _ _ _) false (by exact rfl) ?_; k_whole)))
  k_with "mine contract" => (exact Mine.ib_ok _ _ _ _)
  k_with "mine tm" => (first | assumption | exact Mine.TmIn.mono (by assumption) (by walk_at "mine sub"))
  k_with "mine rel" => (exact Mine.IbRel.mk (by walk_at "mine tm"))
  k_with "mine out" => ((rename (_ = Value.bool _) => o8; (try simp only [Mine.Ch.blank] at o8); subst o8))
  k_with "getMethod ref" => ((k_here; (with_reducible show wpAny _ _ (getMethod (Value.ref _) (Str.ofString "items") _) _ _ _); k_dflt (refine' kdl_method (knd := PySem.strKind _ _) PySem.F.slot_dict_items PySem.F.type_dict_items (by k_asm) (by walk_at "mine memR") (by k_asm) ?_; k_whole)))
  trivial
/-- a list of one dict that binds the blank to v -/
inductive BbOut (w : World) (led : Led) : Value → Value → Prop where
  | mk {B D : Addr} {ep : Nat} {o : Obj} {v : Value} : (B, lstO [.ref D] ep) ∈ led → (D, o) ∈ led → Obj.IsDictOf (PySem.strKind PySem.Challenge.rw_rh0041_02.row.prog w) o [(Str.ofString "a_", v)] → (D == sysModules) = false → BbOut w led (.ref B) v
inductive BbRel (w : World) (news : Led) : List Value → Value → Prop where
  | mk {F : Addr} {o : Obj} {tk : Tok} {a : Addr} : (F, o) ∈ news → Obj.IsDictOf (PySem.strKind PySem.Challenge.rw_rh0041_02.row.prog w) o [] → (F == sysModules) = false → BbRel w news [.ref F, .str (Str.ofString "a_") tk, .ref a] (.ref a)
abbrev bbT (w : World) : Con Value where
  Rel := BbRel w
  dep := fun _ => 1
  Out := BbOut w
theorem bb_ok (w : World) (mean : ExcName → Option Value) (mg mb : Str → Option Value) : Tell w mean mg mb 391 (bbT w) := by
  intro d
  unfold Tells1
  intro dp un gd cn cs a ccd cl outer A₀ base h₀ L m news s vs Q E B F X N T hk hR hd hu hret
  cases hR with
  | @mk F o tk v hF ho hlo =>
    dsimp only [bbT] at hd hu hret
    refine wpAny_call ?_
    k_dflt (walk_at "mine enter")
    k_steps
    walk_at "mine conj"
    walk_at "mine fin"
    intro n' hs
    refine' BbOut.mk ?o1 ?o2 ?o3 ?o4
    case o1 => exact hs _ (by k_mem)
    case o2 => exact hs _ (by k_mem)
    case o3 => assumption
    case o4 => assumption

theorem rows15 : True := by
  k_with "mine contract" => (exact Mine.bb_ok _ _ _ _)
  k_with "mine rel" => ((refine' Mine.BbRel.mk (by walk_at "mine memR") (by k_asm) (by k_asm)))
  k_with "mine out" => ((rename Mine.BbOut _ _ _ _ => o8; cases o8))
  trivial
local macro_rules | `(tactic| walk_at "call builtin:list.extend") => `(tactic| (k_here; (with_reducible show wpAny _ _ (call (Value.builtin _) [Value.ref _, Value.ref _]) _ _ _); k_dflt (refine' kl_extend ?F ?N ?b ?e ?ne ?U ?d ?z ?y ?_; (case F => k_asm); (case N => k_asm); (case b => walk_at "mine memR"); (case U => k_upd); (case e => kl_lit); (case ne => kl_some); (case d => kl_no); (case z => kl_room); (case y => kl_room)); kl_rest))
theorem keepD {prog : Program} {w : World} {D : Addr} {oD : Obj} {es : List (Str × Value)} {l l' : Led} (hs : ∀ p ∈ l, p ∈ l' ∨ p.2.cls ≠ .type "dict") (h : (D, oD) ∈ l) (hd : Obj.IsDictOf (PySem.strKind prog w) oD es) : (D, oD) ∈ l' := by
  rcases hs _ h with q | q
  · exact q
  · obtain ⟨_, _, hx, _⟩ := hd
    exact absurd hx.1 q
theorem not_dict {o : Obj} {T : String} (h : o.cls = .type T) (hT : T ≠ "dict") : o.cls ≠ .type "dict" := by
  rw [h]
  intro e
  injection e with e
  exact hT e
theorem fdK {w : World} {D : Addr} {oD : Obj} {v : Value} {l l' n' : Led} (hs' : ∀ p ∈ l', p ∈ n') (hd : Obj.IsDictOf (PySem.strKind PySem.Challenge.rw_rh0041_02.row.prog w) oD [(Str.ofString "a_", v)]) (h : (D, oD) ∈ l)
    (hs : ∀ p ∈ l, p ∈ l' ∨ p.2.cls ≠ .type "dict") (lo : (D == sysModules) = false) : FdIn w n' (.ref D) v := .mk (hs' _ (keepD hs h hd)) hd lo
theorem chg_cons {p : Addr × Obj} {l : Led} {P : Addr × Obj → Prop} (h : P p) (h' : ∀ q ∈ l, P q) : ∀ q ∈ p :: l, P q := List.forall_mem_cons.mpr ⟨h, h'⟩
theorem chg_app {l l' : Led} {P : Addr × Obj → Prop} (h : ∀ q ∈ l, P q) (h' : ∀ q ∈ l', P q) : ∀ q ∈ l ++ l', P q := List.forall_mem_append.mpr ⟨h, h'⟩
theorem rows16 : True := by
  k_with "mine chg" => (first | ((with_reducible refine Mine.chg_cons ?_ ?_); (focus (first | (with_reducible exact .inr (Mine.not_dict (by assumption) (by decide))) | exact .inr (Mine.not_dict (T := "list") rfl (by decide)) | exact .inl (by walk_at "mine memR"))); walk_at "mine chg") | ((with_reducible refine Mine.chg_app ?_ ?_); (focus walk_at "mine chg"); walk_at "mine chg") | exact fun q9 hq9 => .inl (by simp only [List.mem_cons, List.mem_append, hq9, true_or, or_true]))
  trivial
theorem TmIn.ref_of {news : Led} {v : Value} {c : Ch} (h : TmIn news v c) : ∃ a, v = .ref a := by cases h <;> exact ⟨_, rfl⟩
theorem TmIn.sym_inv {news : Led} {v : Value} {sy : Sy} (h : TmIn news v (.sym sy)) : ∃ a t1 t2, v = .ref a ∧ (a, tupO [.str (Str.ofString "sym") t1, .str sy.str t2]) ∈ news := by
  generalize hx : Ch.sym sy = pc at h
  cases h with
  | sym hm => cases hx; exact ⟨_, _, _, rfl, hm⟩
  | call => cases hx
theorem TmIn.call_inv {news : Led} {v : Value} {n : Nm} {k : Nat} {c : Ch} (h : TmIn news v (.call n k c)) : ∃ a b t1 t2 vs, v = .ref a ∧ vs.length = k ∧ (a, tupO [.str (Str.ofString "call") t1, .str n.str t2, .ref b]) ∈ news ∧
    (b, tupO vs) ∈ news ∧ vs.length ≤ 1000 ∧ ∀ v ∈ vs, TmIn news v c := by
  generalize hx : Ch.call n k c = pc at h
  cases h with
  | sym hm => cases hx
  | call h1 h2 h3 h4 => cases hx; exact ⟨_, _, _, _, _, rfl, rfl, h1, h2, h3, h4⟩
theorem TmIn.call1_inv {news : Led} {v : Value} {n : Nm} {c : Ch} (h : TmIn news v (.call n 1 c)) : ∃ a b t1 t2 v', v = .ref a ∧ (a, tupO [.str (Str.ofString "call") t1, .str n.str t2, .ref b]) ∈ news ∧
    (b, tupO [v']) ∈ news ∧ TmIn news v' c := by
  obtain ⟨a, b, t1, t2, vs, rfl, hl, h1, h2, _, hv⟩ := h.call_inv
  obtain ⟨v', rfl⟩ := List.length_eq_one_iff.mp hl
  exact ⟨a, b, t1, t2, v', rfl, h1, h2, hv v' (.head _)⟩
inductive MtRel (news : Led) : List Value → Nm × Ch → Prop where
  | mk {vp vt : Value} {P : Nm} {c : Ch} : TmIn news vp (.call P 1 (.sym .a)) → TmIn news vt c → (∀ k c', c = .call P k c' → k = 1) → MtRel news [vp, vt] (P, c)
/-- what stands in the pattern's place -/
def Ch.got (P : Nm) : Ch → Option Ch
  | .sym _ => none
  | .call n _ c => if P = n then some c else none
def MtOut (w : World) (led : Led) (r : Value) (o : Option Ch) : Prop := match o with
  | none => r = .none
  | some c => ∃ v, FdIn w led r v ∧ TmIn led v c
abbrev mtT (w : World) : Con (Nm × Ch) where
  Rel := MtRel
  dep := fun _ => 5
  Out := fun led r d => MtOut w led r (d.2.got d.1)
theorem mt_ok (w : World) (mean : ExcName → Option Value) (mg mb : Str → Option Value) : Tell w mean mg mb 424 (mtT w) := by
  intro d
  unfold Tells1
  intro dp un gd cn cs a ccd cl outer A₀ base h₀ L m news s vs Q E B F X N T hk hR hd hu hret
  cases hR with
  | @mk vp vt P c hp ht hn1 =>
    dsimp only [mtT] at hd hu hret
    have hp0 := hp
    have ht0 := ht
    obtain ⟨pa, pb, p1, p2, pv, rfl, hp1, hp2, hpv⟩ := hp.call1_inv
    obtain ⟨qa, q1, q2, rfl, hq⟩ := hpv.sym_inv
    simp only [Sy.str] at hq
    cases ht with
    | @sym ta t1 t2 sy hm =>
      refine wpAny_call ?_
      k_dflt (walk_at "mine enter")
      k_steps
      walk_at "mine conj"
      walk_at "mine fin"
      exact fun n' hs => rfl
    | @call ta tb t1 t2 tn tvs tc ht1 ht2 htz htv =>
      by_cases hn : P = tn
      · subst hn
        obtain ⟨tv, rfl⟩ := List.length_eq_one_iff.mp (hn1 _ _ rfl)
        have htv1 := htv tv (.head _)
        obtain ⟨tva, rfl⟩ := htv1.ref_of
        refine wpAny_call ?_
        k_dflt (walk_at "mine enter")
        k_steps
        walk_at "mine conj"
        walk_at "mine fin"
        intro n' hs
        dsimp only [Ch.got, MtOut]
        rw [if_pos rfl]
        refine' ⟨.ref tva, fdK hs ?d2 ?d1 ?dc ?d3, htv1.mono fun p hp => hs p ?d4⟩
        case d2 => with_reducible assumption
        case d1 => with_reducible assumption
        case dc => walk_at "mine chg"
        case d3 => with_reducible assumption
        case d4 => simp only [List.mem_cons, List.mem_append, hp, true_or, or_true]
      · refine wpAny_call ?_
        k_dflt (walk_at "mine enter")
        k_steps
        walk_at "mine conj"
        walk_at "mine fin"
        intro n' hs
        dsimp only [Ch.got, MtOut]
        rw [if_neg hn]
theorem mt_none {w : World} {led : Led} {r : Value} {o : Option Ch} (g : o = none) (h : MtOut w led r o) : r = .none := by subst g; exact h
theorem mt_some {w : World} {led : Led} {r : Value} {o : Option Ch} {c : Ch} (g : o = some c) (h : MtOut w led r o) : ∃ F v, r = .ref F ∧ FdIn w led (.ref F) v ∧ TmIn led v c := by
  subst g
  obtain ⟨v, hf, ht⟩ := h
  cases hf with
  | mk h1 h2 h3 => exact ⟨_, v, rfl, .mk h1 h2 h3, ht⟩

theorem rows17 : True := by
  k_with "mine contract" => (exact Mine.mt_ok _ _ _ _)
  k_with "mine rel" => ((refine' Mine.MtRel.mk (by walk_at "mine tm") (by walk_at "mine tm") (by assumption)))
  k_with "mine out" => ((rename Mine.MtOut _ _ _ _ => o8; (first | (replace o8 := Mine.mt_none (by assumption) o8; subst o8) | (obtain ⟨F8, v8, e8, hf8, ht8⟩ := Mine.mt_some (by assumption) o8; subst e8))))
  trivial
/-- the blanks filled -/
def Ch.put (cv : Ch) : Ch → Ch
  | .sym .a => cv
  | .sym .x => .sym .x
  | .call n k c => .call n k (Ch.put cv c)
inductive PbRel (w : World) (news : Led) : List Value → Ch × Ch → Prop where
  | mk {v f fv : Value} {c cv : Ch} : TmIn news v c → FdIn w news f fv → TmIn news fv cv → PbRel w news [v, f] (c, cv)
abbrev pbT (w : World) : Con (Ch × Ch) where
  Rel := PbRel w
  dep := fun d => d.1.depth + 1
  Out := fun led r d => TmIn led r (Ch.put d.2 d.1)
theorem rows18 : True := by
  k_with "mine fd" => (first | assumption | exact Mine.FdIn.mono (by assumption) (by walk_at "mine sub"))
  k_with "mine rel" => ((refine' Mine.PbRel.mk (by walk_at "mine tm") (by walk_at "mine fd") (by walk_at "mine tm")))
  trivial
theorem va_a {v : Value} : valueAt [(Str.ofString "a_", v)] (Str.ofString "a_") = some v := by simp [valueAt]
theorem va_x {v : Value} : valueAt [(Str.ofString "a_", v)] (Str.ofString "x") = none := by
  have h : ¬ (Str.ofString "a_" = Str.ofString "x") := by decide +kernel
  have h' : ¬ (Str.ofString "x" = Str.ofString "a_") := fun e => h e.symm
  simp [valueAt, h, h']
section
theorem rows19 : True := by
  k_with "getMethod ref" => ((k_here; (with_reducible show wpAny _ _ (getMethod (Value.ref _) (Str.ofString "get") _) _ _ _); k_dflt (refine' kdg_method (knd := PySem.strKind _ _) (by k_asm) (by walk_at "mine memR") (by k_asm) ?_; k_whole)))
  k_with "call builtin:dict.get" => ((k_here; k_dflt (first | (refine' kdg_get2 (knd := PySem.strKind _ _) (by k_asm) (by walk_at "mine memR") (by k_asm) (by k_asm) (strKind_is _ _ _ _) (some _) Mine.va_a ?_; k_whole) | (refine' kdg_get2 (knd := PySem.strKind _ _) (by k_asm) (by walk_at "mine memR") (by k_asm) (by k_asm) (strKind_is _ _ _ _) none Mine.va_x ?_; k_whole)); (try dsimp only [Option.getD])))
  trivial
theorem pb_ok (w : World) (mean : ExcName → Option Value) (mg mb : Str → Option Value) : Tell w mean mg mb 429 (pbT w) := by
  refine Tell.ind fun d IH => ?_
  unfold Tells1
  intro dp un gd cn cs a ccd cl outer A₀ base h₀ L m news s vs Q E B F X N T hk hR hd hu hret
  cases hR with
  | @mk v f fv c cv ht hf hfv =>
    cases ht with
    | @sym ta t1 t2 sy hm =>
      dsimp only [pbT, Ch.depth] at hd hu hret
      cases hf with
      | @mk Fa o _ hF1 hF2 hF3 =>
      refine wpAny_call ?_
      k_dflt (walk_at "mine enterC")
      cases sy
      · simp only [Sy.str] at *
        k_steps
        walk_at "mine conj"
        walk_at "mine fin"
        exact fun n' hs => ((TmIn.sym (s := .x) hm).mono (by walk_at "mine sub")).mono hs
      · simp only [Sy.str] at *
        k_steps
        walk_at "mine conj"
        walk_at "mine fin"
        exact fun n' hs => (hfv.mono (by walk_at "mine sub")).mono hs
    | @call ta tb t1 t2 n vs c h1 h2 hz hv =>
      dsimp only [pbT, Ch.depth] at hd hu hret
      have IHc := IH (c, cv) (Nat.lt_succ_self _)
      refine wpAny_call ?_
      k_dflt (walk_at "mine enterC")
      k_steps
      refine' ⟨fun led y => TmIn led y (Ch.put cv c), _, vs, _, rfl, rfl, ?q4, ?q5, .inl ⟨_, ?q1⟩, ?q6, fun _ _ _ hs h => h.mono hs, ?q2, ?q3⟩
      case q4 => k_asm
      case q5 => k_asm
      case q6 => walk_at "mine size"
      case q1 => walk_at "mine memR"
      case q2 =>
        intro v hv' I oI C oC D oD m₂ tl h tk E' ic hC hx F'' N''
        have tv := (hv v hv')
        try k_unmd
        try k_fold
        k_steps
        exact ⟨_, _, _, rfl, by assumption, by assumption, by assumption, by assumption⟩
      case q3 =>
        intro ys tl D h tk F'' N'' ap off hl hg
        simp only [List.cons_append] at N'' off hg
        have off1 : ∀ q ∈ news, @Ne Nat q.1 D := fun q hq => off q (by simp only [List.mem_cons, List.mem_append, hq, true_or, or_true])
        k_steps
        walk_at "mine conj"
        walk_at "mine fin"
        intro n' hs
        show TmIn n' _ (Ch.call n vs.length (Ch.put cv c))
        rw [← hl]
        refine' TmIn.call ?o1 ?o2 ?o3 fun y hy => (hg y hy).mono fun p hp => hs p ?o4
        case o1 => exact hs _ (by walk_at "mine memR")
        case o2 => exact hs _ (by walk_at "mine memR")
        case o3 => omega
        case o4 => simp only [List.mem_cons, List.mem_append] at hp ⊢; simp only [hp, or_true]
end

theorem rows20 : True := by
  k_with "mine contract" => (exact Mine.pb_ok _ _ _ _)
  k_with "mine fd" => (first | assumption | exact Mine.FdIn.mono (by assumption) (by walk_at "mine sub"))
  k_with "mine rel" => ((refine' Mine.PbRel.mk (by walk_at "mine tm") (by walk_at "mine fd") (by walk_at "mine tm")))
  trivial
inductive StRel (news : Led) : List Value → Ch → Prop where
  | mk {v : Value} {c : Ch} {l m : Int} {t1 t2 : Tok} : TmIn news v c → StRel news [v, .int l t1, .int m t2] c
abbrev stT : Con Ch where
  Rel := StRel
  dep := fun c => c.depth + 1
  Out := TmIn
theorem rows21 : True := by
  k_with "mine rel" => (exact Mine.StRel.mk (by walk_at "mine tm"))
  trivial
theorem st_ok (w : World) (mean : ExcName → Option Value) (mg mb : Str → Option Value) : Tell w mean mg mb 370 stT := by
  refine Tell.ind fun d IH => ?_
  unfold Tells1
  intro dp un gd cn cs a ccd cl outer A₀ base h₀ L m news s vs Q E B F X N T hk hR hd hu hret
  cases hR with
  | @mk v c l0 m0 tl0 tm0 ht =>
    cases ht with
    | @sym ta t1 t2 sy hm =>
      dsimp only [stT, Ch.depth] at hd hu hret
      refine wpAny_call ?_
      k_dflt (walk_at "mine enterC")
      k_steps
      refine' ⟨fun led y => False, _, [], _, rfl, rfl, ?q4, ?q5, .inl ⟨_, ?q1⟩, ?q6, fun _ _ _ hs h => h, ?q2, ?q3⟩
      case q4 => k_asm
      case q5 => k_asm
      case q1 => walk_at "mine memR"
      case q6 => walk_at "mine size"
      case q2 => exact fun _ h => nomatch h
      case q3 =>
        intro ys tl D h tk F'' N'' ap off hl hg
        obtain rfl : ys = [] := List.eq_nil_of_length_eq_zero hl
        simp only [List.cons_append] at N'' off
        have off1 : ∀ q ∈ news, @Ne Nat q.1 D := fun q hq => off q (by simp only [List.mem_cons, List.mem_append, hq, true_or, or_true])
        k_steps
        walk_at "mine conj"
        walk_at "mine fin"
        exact fun n' hs => ((TmIn.sym hm).mono (by walk_at "mine sub")).mono hs
    | @call ta tb t1 t2 n vs c h1 h2 hz hv =>
      dsimp only [stT, Ch.depth] at hd hu hret
      have IHc := IH c (Nat.lt_succ_self _)
      refine wpAny_call ?_
      k_dflt (walk_at "mine enterC")
      k_steps
      refine' ⟨fun led y => TmIn led y c, _, vs, _, rfl, rfl, ?q4, ?q5, .inl ⟨_, ?q1⟩, ?q6, fun _ _ _ hs h => h.mono hs, ?q2, ?q3⟩
      case q4 => k_asm
      case q5 => k_asm
      case q1 => walk_at "mine memR"
      case q6 => walk_at "mine size"
      case q2 =>
        intro v hv' I oI C oC D oD m₂ tl h tk E' ic hC hx F'' N''
        have tv := (hv v hv')
        try k_unmd
        try k_fold
        k_steps
        exact ⟨_, _, _, rfl, by assumption, by assumption, by assumption, by assumption⟩
      case q3 =>
        intro ys tl D h tk F'' N'' ap off hl hg
        simp only [List.cons_append] at N'' off hg
        have off1 : ∀ q ∈ news, @Ne Nat q.1 D := fun q hq => off q (by simp only [List.mem_cons, List.mem_append, hq, true_or, or_true])
        have hz' : ys.length ≤ 1000 := by omega
        k_steps
        walk_at "mine conj"
        walk_at "mine fin"
        intro n' hs
        rename_i o9 _ _ _ _ _
        rw [← hl]
        exact TmIn.mono (by assumption) hs

theorem rows22 : True := by
  k_with "mine contract" => (exact Mine.st_ok _ _ _ _)
  k_with "mine rel" => (exact Mine.StRel.mk (by walk_at "mine tm"))
  trivial
theorem ns_some_of {K : Frag} {h : Heap} {N : Addr} {mg : Str → Option Value} {n : Str} {v : Value} (X : K.In h) (G : h.Ns N mg) (e : nsIn K N n = some (some v)) : mg n = some v := by
  obtain ⟨o, es, ep, ho, hd, _, hf⟩ := G
  unfold nsIn at e
  split at e
  · rename_i c d es' n' sl q
    have := X _ _ q
    rw [ho] at this
    cases this
    cases hd
    split at e
    · rename_i he
      cases e
      rw [← hf]
      unfold nsFind findBy
      rw [← Array.find?_toList, he]
      rfl
    · split at e <;> cases e
  · cases e
theorem cls31 {w : World} {h : Heap} (X : (Mine.part w.params).In h) : ∃ nm q bs sn sub ab col dd k0 k1 k2 k3 k5 mN, h.get? 31 = some (excClassObj nm q 31 30 bs excBm true sn sub ab col dd k0 k1 k2 k3 k5 "Exception.__new__") ∧ h.Ns 30 mN ∧
    mN "__init__" = some (.ref 28) ∧ mN "__setattr__" = none ∧ mN "kind" = none ∧ mN "text" = none ∧ mN "__getattribute__" = none ∧ mN "__getattr__" = none := by
  have hn : h.Ns 30 (h.nsMap 30) := .of_isNs (isNs_of_in X (by kernel_rfl))
  exact ⟨_, _, _, _, _, _, _, _, _, _, _, _, _, _, X 31 _ (by k_is), hn, ns_some_of X hn (by k_is), ns_none_of X hn (by k_is), ns_none_of X hn (by k_is), ns_none_of X hn (by k_is), ns_none_of X hn (by k_is), ns_none_of X hn (by k_is)⟩
theorem no_kind : typeLookup (.type "Exception") "kind" = pure none := by rw [typeLookup_type, builtinLookup_eq_fast]; kernel_rfl
theorem no_text : typeLookup (.type "Exception") "text" = pure none := by rw [typeLookup_type, builtinLookup_eq_fast]; kernel_rfl
section
variable {prog : Program} {w : World} {A : Around} {E : Value → Shared → Prop} {s : Shared} {h₀ : Heap} {L e t0 : Addr} {m : Str → Option Value} {news : Led} {g : Obj → Led}
theorem einit {rest : List Value} {Q : Value → Shared → Prop} (F : Fr h₀ L s.heap m) (N : News h₀ L s.heap news) (X : (Mine.part w.params).In h₀) (U : UpdF e (excO t0 none) news g) (hz : rest.length ≤ 1000)
    (h : ∀ D h', Fr h₀ L h' m → News h₀ L h' ((D, tupO rest) :: g (excO D none)) → (∀ q ∈ news, q.1 < D) → Q .none { s with heap := h' }) : wpAny (model prog w) A (call (.builtin "Exception.__init__") (.ref e :: rest)) Q E s := by
  obtain ⟨pre, post, rfl, hg, a, b⟩ := U.split
  have he := (N (e, excO t0 none) (by simp)).1
  obtain ⟨nm, q, bs, sn, sub, ab, col, dd, k0, k1, k2, k3, k5, mN, hC, -⟩ := cls31 (X.keeps F.keep)
  obtain ⟨hp, gs, d, tk, os⟩ := s
  have FB := PySem.F.excBase_Exception
  refine wpAny_call (codeAny_call_builtin FB.init.plain FB.initEntry (wpAny_check_init_sub FB hC he rfl ?_))
  unfold Builtin.«BaseException.__init__»
  dsimp only
  rw [if_neg (by simp)]
  unfold newTuple Builtin.BaseException.bexcPut
  have up : ∀ b o, hp.get? b = some o → (hp.push { cls := .type "tuple", data := .seq rest.toArray }).get? b = some o := fun b o e => Heap.get?_push_of_some _ e
  have he₁ := up _ _ he
  refine wpAny_bind (wpAny_newObj_type (wpAny_bind (wpAny_bind (wpAny_field he₁ rfl (x := .ref t0) rfl (wpAny_bind (wpAny_setField he₁ rfl (by simp) ?_))))) (by show rest.toArray.size ≤ sizeLine; rw [List.size_toArray, sizeLine_eq]; omega))
  refine wpAny_letGo (wpAny_pure ?_)
  obtain ⟨U1, U2⟩ := news_upd (f := Obj.mapFields (·.setIfInBounds 0 (.ref hp.objs.size))) (o' := excO hp.objs.size none) (F.keeps up) (N.grown up) a b rfl rfl
  have hlt : ∀ q ∈ pre ++ (e, excO t0 none) :: post, q.1 < hp.objs.size := fun q hq => Heap.lt_size (N q hq).1
  refine h hp.objs.size _ U1 (fun p hp' => ?_) hlt
  rcases List.mem_cons.mp hp' with rfl | hp'
  · refine ⟨(Heap.get?_update_ne _ _ _ _ fun z => ?_).trans (Heap.get?_push_size _ rfl), Nat.ne_of_gt F.ns.lt, next_is_new F⟩
    exact Nat.lt_irrefl _ (z ▸ Heap.lt_size he)
  · rw [hg] at hp'; exact U2 p hp'
theorem eset1 {name : Str} {v : Value} {Q : Unit → Shared → Prop} (F : Fr h₀ L s.heap m) (N : News h₀ L s.heap news) (X : (Mine.part w.params).In h₀) (U : UpdF e (excO t0 none) news g) (hname : name = "kind" ∨ name = "text")
    (h : ∀ D od h' tk', Fr h₀ L h' m → News h₀ L h' ((D, od) :: g (excO t0 (some D))) → (∀ q ∈ news, q.1 < D) → DObj od (fun y => if y = name then some v else none) → Q () { s with heap := h', toks := tk' }) : wpAny (model prog w) A (setAttr (.ref e) name v) Q E s := by
  obtain ⟨pre, post, rfl, hg, a, b⟩ := U.split
  have he := (N (e, excO t0 none) (by simp)).1
  obtain ⟨nm, q, bs, sn, sub, ab, col, dd, k0, k1, k2, k3, k5, mN, hC, hn, -, hs, n1, n2, -⟩ := cls31 (X.keeps F.keep)
  obtain ⟨hp, gs, d, tk, os⟩ := s
  have hlt : ∀ q ∈ pre ++ (e, excO t0 none) :: post, q.1 < hp.objs.size := fun q hq => Heap.lt_size (N q hq).1
  refine set_first PySem.F.store_Exception hC hn hs (by rcases hname with e | e <;> rw [e] <;> assumption) (by rcases hname with e | e <;> rw [e]; exact no_kind; exact no_text) he fun h' tk' x1 x2 x3 => ?_
  obtain ⟨od, hod, hdo⟩ := ns1_obj x2
  have z := N (e, excO t0 none) (by simp)
  refine h hp.objs.size od h' tk' ⟨F.ns.at' fun o q => x3 _ _ (Ne.symm z.2.1) q, fun b o q => x3 b o (fun y => by rw [y, z.2.2] at q; cases q) (F.keep b o q), F.above⟩ (fun p hp' => ?_) hlt hdo
  rcases List.mem_cons.mp hp' with rfl | hp'
  · exact ⟨hod, Nat.ne_of_gt F.ns.lt, next_is_new F⟩
  · rw [hg] at hp'
    rcases List.mem_append.mp hp' with hp' | hp'
    · have y := N p (List.mem_append_left _ hp')
      exact ⟨x3 _ _ (a p hp') y.1, y.2⟩
    · rcases List.mem_cons.mp hp' with rfl | hp'
      · exact ⟨x1, z.2⟩
      · have y := N p (List.mem_append_right _ (.tail _ hp'))
        exact ⟨x3 _ _ (b p hp') y.1, y.2⟩
theorem eset2 {name : Str} {v : Value} {D : Addr} {od : Obj} {mA : Str → Option Value} {ns : List Str} {Q : Unit → Shared → Prop} (F : Fr h₀ L s.heap m) (N : News h₀ L s.heap news) (X : (Mine.part w.params).In h₀) (hm : (e, excO t0 (some D)) ∈ news) (hd : DObj od mA) (U : UpdF D od news g) (hname : name = "kind" ∨ name = "text") (hw : Within mA ns) (hsz : ns.length ≤ 1000)
    (h : ∀ od' h' tk', Fr h₀ L h' m → News h₀ L h' (g od') → DObj od' (fun y => if y = name then some v else mA y) → Q () { s with heap := h', toks := tk' }) : wpAny (model prog w) A (setAttr (.ref e) name v) Q E s := by
  have he : s.heap.get? e = some (excO t0 (some D)) := (N _ hm).1
  obtain ⟨pre, post, rfl, hg, a, b⟩ := U.split
  have hD := N (D, od) (by simp)
  obtain ⟨nm, q, bs, sn, sub, ab, col, dd, k0, k1, k2, k3, k5, mN, hC, hn, -, hs, n1, n2, -⟩ := cls31 (X.keeps F.keep)
  obtain ⟨hp, gs, d, tk, os⟩ := s
  have hne : D ≠ e := by
    rintro rfl
    have : od = excO t0 (some D) := Option.some.inj (hD.1.symm.trans he)
    obtain ⟨es, ep, q, _⟩ := hd
    rw [this] at q
    cases q
  have he31 : e ≠ 31 := by
    rintro rfl
    have := hC.symm.trans he
    cases this
  refine store_attr PySem.F.store_Exception hC hn hs (by rcases hname with e | e <;> rw [e] <;> assumption) (by rcases hname with e | e <;> rw [e]; exact no_kind; exact no_text) he31 (mA := mA) (show hp.Inst e 31 mA from ⟨excO t0 (some D), he, rfl, (fun _ q => nomatch q), .inr ⟨D, rfl, hne, hd.ns hD.1⟩⟩) (fun h' tk' x1 x2 x3 => ?_) hw (by rw [sizeLine_eq]; omega)
  obtain ⟨o1, y1, y2, y3, y4, y5⟩ := x3 _ he
  have kp : ∀ b o, b ≠ D → hp.get? b = some o → h'.get? b = some o := fun b o nb q => by
    by_cases hb : b = e
    · subst hb
      have := he.symm.trans q
      cases this
      rw [y1]
      obtain ⟨c1, c2, c3, c4⟩ := o1
      have := y5 D rfl
      dsimp only at this y2 y3 y4
      subst this y2 y3 y4
      rfl
    · exact x2 b o hb (fun o₀ dx q1 q2 => by have := he.symm.trans q1; cases this; cases q2; exact nb) q
  obtain ⟨o2, z1, z2, z3, z4⟩ := x1
  have : o2 = excO t0 (some D) := by have := z1.symm.trans (kp e _ (Ne.symm hne) he); cases this; rfl
  subst this
  rcases z4 with ⟨z5, _⟩ | ⟨dx, z5, z6, z7⟩
  · cases z5
  cases z5
  obtain ⟨od', hod', hdo⟩ := ns1_obj z7
  refine h od' h' tk' ⟨F.ns.at' fun o q => kp _ _ (Ne.symm hD.2.1) q, fun b o q => kp b o (fun y => by rw [y, hD.2.2] at q; cases q) (F.keep b o q), F.above⟩ (fun p hp' => ?_) hdo
  rw [hg] at hp'
  rcases List.mem_append.mp hp' with hp' | hp'
  · have y := N p (List.mem_append_left _ hp')
    exact ⟨kp _ _ (a p hp') y.1, y.2⟩
  · rcases List.mem_cons.mp hp' with rfl | hp'
    · exact ⟨hod', hD.2⟩
    · have y := N p (List.mem_append_right _ (.tail _ hp'))
      exact ⟨kp _ _ (b p hp') y.1, y.2⟩
end
theorem rows23 : True := by
  k_with "getMethod type:Exception" => ((k_here; refine' method_type (by k_asm) (by k_asm) (by kernel_rfl) (by decide +kernel) (by k_dflt k_is) (by k_handed) ?_))
  k_with "call builtin:Exception.__init__" => ((k_here; k_dflt (refine' Mine.einit (by k_asm) (by k_asm) (by k_asm) (by k_updF) (by exact Nat.le_of_ble_eq_true rfl) ?_; k_whole); intro D' h' F' N' l1; (try k_lt l1); (try dsimp only at N')))
  k_with "setAttr ref str" => ((k_here; k_dflt (refine' Mine.eset1 (by k_asm) (by k_asm) (by k_asm) (by k_updF) (by exact .inl rfl) ?_; k_whole); intro D' od' h' tk' F' N' l1 hd'; (try k_lt l1); (try dsimp only at N')))
  k_with "setAttr ref str" => ((k_here; k_dflt (refine' Mine.eset2 (by k_asm) (by k_asm) (by k_asm) (by walk_at "mine memR") (by assumption) (by k_updF) (by exact .inr rfl) (by exact Within.cons _ _ Within.nil) (by exact Nat.le_of_ble_eq_true rfl) ?_; k_whole); intro od' h' tk' F' N' hd'; (try dsimp only at N')))
  trivial
theorem cas_pick {h₀ h : Heap} {L D t' e : Addr} {od o1 : Obj} {p : Addr × Obj} {news : Led} (N : News h₀ L h ((D, od) :: (t', o1) :: (e, excO t' (some D)) :: p :: news)) : News h₀ L h ((e, excO t' (some D)) :: (D, od) :: news) := fun q hq => N q (by
  simp only [List.mem_cons] at hq ⊢
  rcases hq with rfl | rfl | hq
  · simp
  · simp
  · simp [hq])
theorem cas_keep {h hA g' h' : Heap} {L' e t : Addr} {o1 o2 : Obj} {m' : Str → Option Value} {news : Led} (k1 : InElt h hA) (hne : h.get? e = none) (ht0 : h.get? t = none) (hN0 : ∀ q ∈ news, h.get? q.1 = some q.2 ∧ hA.get? q.1 = some q.2)
    (G : GSub hA g' (((e, o1) :: (t, o2) :: news).map (·.1))) (F' : Fr g' L' h' m') (N' : ∀ p ∈ news, h'.get? p.1 = some p.2) : InElt h h' := fun b o q => by
  by_cases hb : b ∈ news.map (·.1)
  · obtain ⟨p, hp, rfl⟩ := List.mem_map.mp hb
    have z := (hN0 p hp).1
    rw [q] at z
    cases z
    exact N' p hp
  · refine F'.keep b o (G b o (k1 b o q) ?_)
    simp only [List.map_cons, List.mem_cons, not_or]
    exact ⟨(fun z => by rw [z, hne] at q; cases q), (fun z => by rw [z, ht0] at q; cases q), hb⟩
theorem cas_call (w : World) (mean : ExcName → Option Value) (mg mb : Str → Option Value) (dp un : Nat) (gd : Option (List Code)) (cn : Str) (cs : Scope) (a : Addr) (ccd : Value) (cl : List (Str × Addr)) (outer : List Env) (A₀ : Around) (base h₀ : Heap) (L : Addr) (m : Str → Option Value) (news : Led) (s : Shared) (t1 t2 : Tok)
    (Q E : Value → Shared → Prop) (B : Below A₀ base outer h₀) (F : Fr h₀ L s.heap m) (X : (Mine.part w.params).In h₀) (N : News h₀ L s.heap news) (T : Top Mine.view (looseW Mine.view [Str.ofString "RANKS", Str.ofString "EXP_ONE", Str.ofString "MOST_FACTORED"]) mean mg mb h₀) (hk : cs.kind = .function) (hd : dp + 5 < recursionLimit) (hu : un + 50 < cLine)
    (hret : ∀ (e t D : Addr) (od : Obj) (h' : Heap) (tk' : Nat), InElt s.heap h' → s.heap.get? e = none → Fr h₀ L h' m → News h₀ L h' ((e, excO t (some D)) :: (D, od) :: news) → DObj od (fun y => if y = "text" then some (.str (Str.ofString "a term of too many levels or terms by rules") t2) else if y = "kind" then some (.str (Str.ofString "limit") t1) else none) → Q (.ref e) { s with heap := h', toks := tk' }) :
    wpAny (model PySem.Challenge.rw_rh0041_02.row.prog w) (ktrTop dp un gd cn cs L a ccd cl outer) (call (.ref 31) [.str (Str.ofString "limit") t1, .str (Str.ofString "a term of too many levels or terms by rules") t2]) Q E s := by
  have X' := X.keeps F.keep
  obtain ⟨nm, q, bs, sn, sub, ab, col, dd, k0, k1, k2, k3, k5, mN, hC, hn, hi, -⟩ := cls31 X'
  have hf : s.heap.get? 28 = _ := X' 28 _ (by k_is)
  obtain ⟨h, g, d, tk, os⟩ := s
  refine wpAny_call_exc_init PySem.F.excBase_Exception hC hn hi hf rfl fun h' e hm => ?_
  obtain ⟨t, he, ht0, ht⟩ := hm.there
  have k1 : InElt h h' := hm.keeps
  have hne : h.get? e = none := hm.new
  have F1 : Fr h₀ L h' m := F.keeps hm.keeps
  have fr0 : ∀ b : Addr, h.get? b = none → b ≠ L ∧ h₀.get? b = none := by
    intro b hb
    constructor
    · intro q
      obtain ⟨o, _, _, q1, _⟩ := F.ns
      rw [q, show h.get? L = some o from q1] at hb
      cases hb
    · cases q : h₀.get? b with
      | none => rfl
      | some o => have := F.keep b o q; rw [show h.get? b = none from hb] at this; cases this
  have N1 : News h₀ L h' ((e, excO t none) :: (t, tupO [.str (Str.ofString "limit") t1, .str (Str.ofString "a term of too many levels or terms by rules") t2]) :: news) := by
    intro p hp
    rcases List.mem_cons.mp hp with rfl | hp
    · exact ⟨he, fr0 _ hne⟩
    · rcases List.mem_cons.mp hp with rfl | hp
      · exact ⟨ht, fr0 _ ht0⟩
      · exact ⟨k1 _ _ (N p hp).1, (N p hp).2⟩
  have l0 : ∀ q ∈ news, @Ne Nat q.1 e := fun q hq z => by have := (N q hq).1; rw [z, show _ = none from hne] at this; cases this
  have l2 : @Ne Nat t e := by
    rintro rfl
    have := ht.symm.trans he
    cases this
  have hN0 : ∀ q ∈ news, h.get? q.1 = some q.2 ∧ h'.get? q.1 = some q.2 := fun q hq => ⟨(N q hq).1, (N1 q (.tail _ (.tail _ hq))).1⟩
  clear hC hn hi hf hm N F X' he ht
  refine wpAny_call ?_
  k_dflt (walk_at "mine enter")
  k_steps
  walk_at "mine conj"
  rename GSub _ _ _ => kG9
  rename News h₀ _ _ _ => kN9
  rename DObj _ _ => hD9
  rename Fr g' _ _ _ => kF9
  exact hret e _ _ _ _ _ (cas_keep k1 hne ht0 hN0 kG9 kF9 fun p hp => (kN9 p (.tail _ (.tail _ (.tail _ (.tail _ hp))))).1) hne (by assumption) (cas_pick kN9) hD9

def RaisedV (w : World) (E : Value → Shared → Prop) (v : Value) (s : Shared) : Prop := ∃ e t D, v = .ref e ∧ (Mine.part w.params).In s.heap ∧ s.heap.get? e = some (excO t D) ∧ E (.ref e) s
section
variable {prog : Program} {w : World} {A : Around} {E : Value → Shared → Prop} {s : Shared} {env : Env}
theorem raise_go {x : PySem.Expr} {pos : Pos} {Q : Flow → Shared → Prop} (hh : A.handled = none) (h : wpAny (model prog w) A (eval x env) (RaisedV w E) E s) : wpAny (model prog w) A (exec (.Raise (some x) none pos) env) Q E s := by
  rw [arm_exec_Raise]
  simp only [evalOpt, Option.map]
  refine wpAny_bind (wpAny_standAt ?_)
  unfold raiseStmt
  refine wpAny_bind (wpAny_bind (wpAny_mono h (fun v s₁ h₁ => wpAny_bind (wpAny_standAt (wpAny_pure ?_))) fun _ _ x => x))
  obtain ⟨e, t, D, rfl, X, he, hE⟩ := h₁
  obtain ⟨nm, q, bs, sn, sub, ab, col, dd, k0, k1, k2, k3, k5, mN, hC, -⟩ := cls31 X
  obtain ⟨hp, g, d, tk, os⟩ := s₁
  wp_walk using wpAny_loadPart_at he, wpAny_loadPart_at hC, wpAny_isSubtype_exc hC
  exact wpAny_raiseNew_none hh hE
end
theorem cas_use {w : World} {mean : ExcName → Option Value} {mg mb : Str → Option Value} {dp un : Nat} {gd : Option (List Code)} {cn : Str} {cs : Scope} {a : Addr} {ccd : Value} {cl : List (Str × Addr)} {outer : List Env} {A₀ : Around} {base h₀ : Heap} {L : Addr} {m : Str → Option Value} {news : Led} {s : Shared} {t1 t2 : Tok}
    {Q E : Value → Shared → Prop} (B : Below A₀ base outer h₀) (F : Fr h₀ L s.heap m) (X : (Mine.part w.params).In h₀) (N : News h₀ L s.heap news) (T : Top Mine.view (looseW Mine.view [Str.ofString "RANKS", Str.ofString "EXP_ONE", Str.ofString "MOST_FACTORED"]) mean mg mb h₀) (hk : cs.kind = .function) (hd : dp + 5 < recursionLimit) (hu : un + 50 < cLine)
    (hret : ∀ (e t D : Addr) (od : Obj) (h' : Heap) (tk' : Nat), InElt s.heap h' → s.heap.get? e = none → Fr h₀ L h' m → News h₀ L h' ((e, excO t (some D)) :: (D, od) :: news) → DObj od (fun y => if y = "text" then some (.str (Str.ofString "a term of too many levels or terms by rules") t2) else if y = "kind" then some (.str (Str.ofString "limit") t1) else none) → Q (.ref e) { s with heap := h', toks := tk' }) :
    wpAny (model PySem.Challenge.rw_rh0041_02.row.prog w) (ktrTop dp un gd cn cs L a ccd cl outer) (call (.ref 31) [.str (Str.ofString "limit") t1, .str (Str.ofString "a term of too many levels or terms by rules") t2]) Q E s :=
  cas_call w mean mg mb dp un gd cn cs a ccd cl outer A₀ base h₀ L m news s t1 t2 Q E B F X N T hk hd hu hret
/-- the namespace of the exception: its kind -/
def KindIs (od : Obj) : Prop := ∃ es ep t, od.data = .dict es ep ∧ StrKeys es ∧ nsFind es (Str.ofString "kind") = some (.str (Str.ofString "limit") t)
/-- the heap without the frames of l -/
abbrev bare (h : Heap) (l : List Env) : Heap := hideAll h (l.filterMap (·.frame))
/-- what a raising call hands on: the exception over the caller's frames; all that stood but the frames stands -/
def RetX (l : List Env) (s : Shared) (E : Value → Shared → Prop) : Prop :=
  ∀ e D od h' tk', XAt (bare s.heap l) l e (.ref 31) (some D) .none h' → s.heap.UpToSlots h' → h'.get? D = some od → KindIs od → E (.ref e) { s with heap := h', toks := tk' }
theorem funFrames_less {b1 b2 h : Heap} (k : ∀ b o, b1.get? b = some o → b2.get? b = some o) : ∀ {l : List Env}, h.FunFrames b2 l → h.FunFrames b1 l := fun {_} => funFrames_base k
theorem xAt_less {b1 b2 h : Heap} {l : List Env} {e : Addr} {C fl : Value} {D : Option Addr} (k : ∀ b o, b1.get? b = some o → b2.get? b = some o) (x : XAt b2 l e C D fl h) : XAt b1 l e C D fl h := by
  obtain ⟨f1, f2, f3, oe, vs, T, oT, ts, a1, a2, a3, a4, a5, a6⟩ := x
  exact ⟨fun b o q => f1 b o (k b o q), fresh_of_stays k f2, funFrames_base k f3, oe, vs, T, oT, ts, a1, a2, a3, a4, fresh_of_stays k a5, a6⟩
/-- from the function's start to the state behind the failing call -/
structure XUp (s : Shared) (L' : Addr) (h1 h9 : Heap) : Prop where
  keeps : InElt s.heap h1
  fresh : s.heap.get? L' = none
  up : h1.UpToSlots h9
theorem x_up {s : Shared} {g h1 h9 h₀ : Heap} {L L' : Addr} {m' : Str → Option Value} {news l : Led} (N : News h₀ L s.heap news) (G : GSub s.heap g (news.map (·.1))) (u : h1.UpToSlots h9) (F' : Fr g L' h1 m') (N' : News g L' h1 l) (hs : ∀ p ∈ news, p ∈ l) : XUp s L' h1 h9 := by
  refine ⟨elt_after (InElt.start _) G N F' N' hs, ?_, u⟩
  cases q : s.heap.get? L' with
  | none => rfl
  | some o =>
    by_cases hm : L' ∈ news.map (·.1)
    · obtain ⟨p, hp, e⟩ := List.mem_map.mp hm
      exact absurd e (N' p (hs p hp)).2.1
    · have := G _ _ q hm
      rw [Heap.get?_none_of_le F'.above] at this
      cases this
theorem fresh_e {s : Shared} {g h1 h₀ : Heap} {L L' e : Addr} {m' : Str → Option Value} {news l : Led} (N : News h₀ L s.heap news) (G : GSub s.heap g (news.map (·.1))) (f : h1.get? e = none) (F' : Fr g L' h1 m') (N' : News g L' h1 l) (hs : ∀ p ∈ news, p ∈ l) : s.heap.get? e = none := by
  cases q : s.heap.get? e with
  | none => rfl
  | some o => have := elt_after (InElt.start _) G N F' N' hs e o q; rw [f] at this; cases this
theorem bare_less {s : Shared} {L' : Addr} {h1 : Heap} {env : Env} {l : List Env} (hf : env.frame = some L') (k : InElt s.heap h1) (f : s.heap.get? L' = none) : ∀ b o, (bare s.heap l).get? b = some o → (bare h1 (env :: l)).get? b = some o := fun b o q => by
  have q0 := of_hideAll _ q
  refine hideAll_get _ (k b o q0) fun hm => ?_
  rw [List.filterMap_cons_some hf] at hm
  rcases List.mem_cons.mp hm with e | hm
  · rw [e, f] at q0; cases q0
  · rw [hideAll_none _ hm] at q; cases q
structure Con2 (D : Type) where
  Rel : Led → List Value → D → Prop
  dep : D → Nat
  bad : D → Bool
  Out : Led → Value → D → Prop
def Tells2 {D : Type} (prog : Program) (w : World) (K : Frag) (p : Program) (loose : List Str) (mean : ExcName → Option Value) (mg mb : Str → Option Value) (f : Addr) (c : Con2 D) (d : D) : Prop :=
  ∀ (dp un : Nat) (gd : Option (List Code)) (cn : Str) (cs : Scope) (a : Addr) (ccd : Value) (cl : List (Str × Addr)) (outer : List Env) (A₀ : Around) (base h₀ : Heap) (L : Addr) (m : Str → Option Value) (news : Led) (s : Shared) (vs : List Value)
    (Q E : Value → Shared → Prop),
    Below A₀ base outer h₀ → Fr h₀ L s.heap m → K.In h₀ → News h₀ L s.heap news → Top p loose mean mg mb h₀ → cs.kind = .function → c.Rel news vs d → dp + c.dep d < recursionLimit → un + 10 * c.dep d < cLine →
    (c.bad d = false → Ret h₀ L news s (fun led r => c.Out led r d) Q) → (c.bad d = true → RetX (envX cn cs L a ccd cl :: outer) s E) →
    wpAny (model prog w) (ktrTop dp un gd cn cs L a ccd cl outer) (call (.ref f) vs) Q E s
noncomputable abbrev Tell2 {D : Type} (w : World) (mean : ExcName → Option Value) (mg mb : Str → Option Value) (f : Addr) (c : Con2 D) : Prop :=
  ∀ d, Tells2 PySem.Challenge.rw_rh0041_02.row.prog w (Mine.part w.params) Mine.view (looseW Mine.view [Str.ofString "RANKS", Str.ofString "EXP_ONE", Str.ofString "MOST_FACTORED"]) mean mg mb f c d
theorem Tells2.useA {D : Type} {prog : Program} {w : World} {K : Frag} {p : Program} {loose : List Str} {mean : ExcName → Option Value} {mg mb : Str → Option Value} {f : Addr} {c : Con2 D} {d : D}
    {dp un : Nat} {gd : Option (List Code)} {cn : Str} {cs : Scope} {a : Addr} {ccd : Value} {cl : List (Str × Addr)} {outer : List Env} {A₀ : Around} {base h₀ : Heap} {L : Addr} {m : Str → Option Value} {news : Led} {s : Shared} {vs : List Value}
    {Q E : Value → Shared → Prop}
    (B : Below A₀ base outer h₀) (F : Fr h₀ L s.heap m) (X : K.In h₀) (T : Top p loose mean mg mb h₀) (C : ∀ d, Tells2 prog w K p loose mean mg mb f c d) (N : News h₀ L s.heap news) (hk : cs.kind = .function) (R : c.Rel news vs d) (hd : dp + c.dep d < recursionLimit) (hu : un + 10 * c.dep d < cLine)
    (ret : c.bad d = false → ∀ r tl h' tk', InElt s.heap h' → (∀ p ∈ tl, s.heap.get? p.1 = none) → Fr h₀ L h' m → News h₀ L h' (news ++ tl) → c.Out (news ++ tl) r d → Q r { s with heap := h', toks := tk' })
    (bad : c.bad d = true → RetX (envX cn cs L a ccd cl :: outer) s E) :
    wpAny (model prog w) (ktrTop dp un gd cn cs L a ccd cl outer) (call (.ref f) vs) Q E s :=
  C d _ _ _ _ _ _ _ _ _ _ _ _ _ _ _ _ _ _ _ B F X N T hk R hd hu (fun b r tl h' tk' k9 f9 N9 o9 => ret b r tl h' tk' k9 f9 (F.keeps k9) N9 o9) bad
theorem KindIs.slots {od : Obj} {sl : Array (Option Value)} (h : KindIs od) : KindIs { od with slots := sl } := h
theorem KindIs.not_fields {od : Obj} (h : KindIs od) : ∀ vs, od.data ≠ .fields vs := fun vs e => by
  obtain ⟨es, ep, t, h1, _⟩ := h
  rw [h1] at e
  cases e
section
variable {M : Model} {A : Around} {s : Shared} {h : Heap} {tk : Nat} {E E2 : Value → Shared → Prop} {base : Heap} {env : Env} {l : List Env} {e D L' : Addr} {od : Obj}
theorem x_out {h1 : Heap} (hfr : (A.deeper env).frames = some (env :: l)) (hf : env.frame = some L') (hbad : RetX l s E) (x : XAt (bare h1 (env :: l)) (env :: l) e (.ref 31) (some D) .none h) (up : XUp s L' h1 h) (hD : h.get? D = some od) (hK : KindIs od) :
    wpAny M (A.deeper env) (leaving env (.ref e)) (fun _ s'' => E (.ref e) s'') E2 { s with heap := h, toks := tk } := by
  refine x_leave hfr hf x fun h' x' up' => ?_
  obtain ⟨sl, hD'⟩ := up' D od hD hK.not_fields
  exact hbad e D _ h' tk (xAt_less (bare_less hf up.keeps up.fresh) x') (((Heap.UpToSlots.of_keeps up.keeps).trans up.up).trans up') hD' hK.slots
theorem x_out_first {t : Addr} {g : Heap} {news : Led} (hfr : (A.deeper env).frames = some (env :: l)) (hf : env.frame = some L') (hbad : RetX l s E) (B : h.FunFrames base (env :: l)) (he : s.heap.get? e = none) (fr : s.heap.get? L' = none) (N : News g L' h ((e, excO t (some D)) :: (D, od) :: news)) (up : InElt s.heap h) (hK : KindIs od) :
    wpAny M (A.deeper env) (leaving env (.ref e)) (fun _ s'' => E (.ref e) s'') E2 { s with heap := h, toks := tk } := by
  have z := N _ (.head _)
  have st : ∀ b o, (bare s.heap l).get? b = some o → s.heap.get? b = some o := fun b o q => of_hideAll _ q
  have hb := bare_less (l := l) hf up fr
  have B2 : h.FunFrames (bare h (env :: l)) (env :: l) := funFrames_hide B fun env' he' a hf' => List.mem_filterMap.mpr ⟨env', he', hf'⟩
  refine x_leave_first (base := bare s.heap l) (D := some D) (C := .ref 31) hfr (funFrames_base hb B2) hf z.1 (fun b o q => up b o (st b o q)) (fresh_of_stays st he) rfl rfl ⟨rfl, rfl⟩ fun h' x' up' => ?_
  obtain ⟨sl, hD'⟩ := up' D od (N _ (.tail _ (.head _))).1 hK.not_fields
  exact hbad e D _ h' tk x' ((Heap.UpToSlots.of_keeps up).trans up') hD' hK.slots
end
theorem Tells2.good {D : Type} {prog : Program} {w : World} {K : Frag} {p : Program} {loose : List Str} {mean : ExcName → Option Value} {mg mb : Str → Option Value} {f : Addr} {c : Con2 D} {d : D}
    {dp un : Nat} {gd : Option (List Code)} {cn : Str} {cs : Scope} {a : Addr} {ccd : Value} {cl : List (Str × Addr)} {outer : List Env} {A₀ : Around} {base h₀ : Heap} {L : Addr} {m : Str → Option Value} {news : Led} {s : Shared} {vs : List Value}
    {Q E : Value → Shared → Prop}
    (B : Below A₀ base outer h₀) (F : Fr h₀ L s.heap m) (X : K.In h₀) (T : Top p loose mean mg mb h₀) (C : ∀ d, Tells2 prog w K p loose mean mg mb f c d) (N : News h₀ L s.heap news) (hk : cs.kind = .function) (R : c.Rel news vs d) (hb : c.bad d = false) (hd : dp + c.dep d < recursionLimit) (hu : un + 10 * c.dep d < cLine)
    (ret : ∀ r tl h' tk', InElt s.heap h' → (∀ p ∈ tl, s.heap.get? p.1 = none) → Fr h₀ L h' m → News h₀ L h' (news ++ tl) → c.Out (news ++ tl) r d → Q r { s with heap := h', toks := tk' }) :
    wpAny (model prog w) (ktrTop dp un gd cn cs L a ccd cl outer) (call (.ref f) vs) Q E s :=
  Tells2.useA B F X T C N hk R hd hu (fun _ => ret) fun b => absurd (hb.symm.trans b) Bool.false_ne_true
theorem Tells2.ill {D : Type} {prog : Program} {w : World} {K : Frag} {p : Program} {loose : List Str} {mean : ExcName → Option Value} {mg mb : Str → Option Value} {f : Addr} {c : Con2 D} {d : D}
    {dp un : Nat} {gd : Option (List Code)} {cn : Str} {cs : Scope} {a : Addr} {ccd : Value} {cl : List (Str × Addr)} {outer : List Env} {A₀ : Around} {base h₀ : Heap} {L : Addr} {m : Str → Option Value} {news : Led} {s : Shared} {vs : List Value}
    {Q E : Value → Shared → Prop}
    (B : Below A₀ base outer h₀) (F : Fr h₀ L s.heap m) (X : K.In h₀) (T : Top p loose mean mg mb h₀) (C : ∀ d, Tells2 prog w K p loose mean mg mb f c d) (N : News h₀ L s.heap news) (hk : cs.kind = .function) (R : c.Rel news vs d) (hb : c.bad d = true) (hd : dp + c.dep d < recursionLimit) (hu : un + 10 * c.dep d < cLine)
    (bad : ∀ e D od h' tk', XAt (bare s.heap (envX cn cs L a ccd cl :: outer)) (envX cn cs L a ccd cl :: outer) e (.ref 31) (some D) .none h' → s.heap.UpToSlots h' → h'.get? D = some od → KindIs od → E (.ref e) { s with heap := h', toks := tk' }) :
    wpAny (model prog w) (ktrTop dp un gd cn cs L a ccd cl outer) (call (.ref f) vs) Q E s :=
  Tells2.useA B F X T C N hk R hd hu (fun b => absurd (b.symm.trans hb) Bool.false_ne_true) fun _ => bad
theorem Tells2.good1 {D : Type} {prog : Program} {w : World} {K : Frag} {p : Program} {loose : List Str} {mean : ExcName → Option Value} {mg mb : Str → Option Value} {f : Addr} {c : Con2 D} {d : D}
    {dp un : Nat} {gd : Option (List Code)} {cn : Str} {cs : Scope} {a : Addr} {ccd : Value} {cl : List (Str × Addr)} {outer : List Env} {A₀ : Around} {base h₀ : Heap} {L : Addr} {m : Str → Option Value} {news : Led} {s : Shared} {vs : List Value}
    {Q E : Value → Shared → Prop}
    (C : Tells2 prog w K p loose mean mg mb f c d) (B : Below A₀ base outer h₀) (F : Fr h₀ L s.heap m) (X : K.In h₀) (T : Top p loose mean mg mb h₀) (N : News h₀ L s.heap news) (hk : cs.kind = .function) (R : c.Rel news vs d) (hb : c.bad d = false) (hd : dp + c.dep d < recursionLimit) (hu : un + 10 * c.dep d < cLine)
    (ret : ∀ r tl h' tk', InElt s.heap h' → (∀ p ∈ tl, s.heap.get? p.1 = none) → Fr h₀ L h' m → News h₀ L h' (news ++ tl) → c.Out (news ++ tl) r d → Q r { s with heap := h', toks := tk' }) :
    wpAny (model prog w) (ktrTop dp un gd cn cs L a ccd cl outer) (call (.ref f) vs) Q E s :=
  C _ _ _ _ _ _ _ _ _ _ _ _ _ _ _ _ _ _ _ B F X N T hk R hd hu (fun _ r tl h' tk' k9 f9 N9 o9 => ret r tl h' tk' k9 f9 (F.keeps k9) N9 o9) fun b => absurd (hb.symm.trans b) Bool.false_ne_true
theorem Tells2.ill1 {D : Type} {prog : Program} {w : World} {K : Frag} {p : Program} {loose : List Str} {mean : ExcName → Option Value} {mg mb : Str → Option Value} {f : Addr} {c : Con2 D} {d : D}
    {dp un : Nat} {gd : Option (List Code)} {cn : Str} {cs : Scope} {a : Addr} {ccd : Value} {cl : List (Str × Addr)} {outer : List Env} {A₀ : Around} {base h₀ : Heap} {L : Addr} {m : Str → Option Value} {news : Led} {s : Shared} {vs : List Value}
    {Q E : Value → Shared → Prop}
    (C : Tells2 prog w K p loose mean mg mb f c d) (B : Below A₀ base outer h₀) (F : Fr h₀ L s.heap m) (X : K.In h₀) (T : Top p loose mean mg mb h₀) (N : News h₀ L s.heap news) (hk : cs.kind = .function) (R : c.Rel news vs d) (hb : c.bad d = true) (hd : dp + c.dep d < recursionLimit) (hu : un + 10 * c.dep d < cLine)
    (bad : ∀ e D od h' tk', XAt (bare s.heap (envX cn cs L a ccd cl :: outer)) (envX cn cs L a ccd cl :: outer) e (.ref 31) (some D) .none h' → s.heap.UpToSlots h' → h'.get? D = some od → KindIs od → E (.ref e) { s with heap := h', toks := tk' }) :
    wpAny (model prog w) (ktrTop dp un gd cn cs L a ccd cl outer) (call (.ref f) vs) Q E s :=
  C _ _ _ _ _ _ _ _ _ _ _ _ _ _ _ _ _ _ _ B F X N T hk R hd hu (fun b => absurd (b.symm.trans hb) Bool.false_ne_true) fun _ => bad

theorem rows24 : True := by
  k_with "call ref cons nil" => ((k_here; (with_reducible show wpAny _ _ (call (Value.ref 31) _) _ _ _); k_dflt (refine' Mine.cas_use (by k_asm) (by k_asm) (by k_asm) (by k_asm) (by k_asm) (by first | assumption | exact rfl) (by walk_at "mine room") (by walk_at "mine units") ?_; k_whole; intro e9 t9 D9 od9 h9 tk9 k9 f9 F9 N9 d9)))
  k_with "exec Raise some none" => ((k_here; k_dflt (refine' Mine.raise_go (by exact rfl) ?_)))
  k_with "call ref" => ((k_here; k_dflt (first | (refine' Mine.Tells2.good (by k_asm) (by k_asm) (by k_asm) (by k_asm) (by walk_at "mine contract2") (by walk_at "mine led") (by first | assumption | exact rfl) (by walk_at "mine rel") (by walk_at "mine good") (by walk_at "mine room") (by walk_at "mine units") ?_; k_whole; intro r9 tl9 h9 tk9 k9 f9 F9 N9 o9; (have a9 := Mine.apart_fresh (by k_asm) f9); (try simp only [List.cons_append] at N9 o9); (try walk_at "mine out"); (try dsimp only); (try k_fold)) | (refine' Mine.Tells2.ill (by k_asm) (by k_asm) (by k_asm) (by k_asm) (by walk_at "mine contract2") (by walk_at "mine led") (by first | assumption | exact rfl) (by walk_at "mine rel") (by walk_at "mine good") (by walk_at "mine room") (by walk_at "mine units") ?_; k_whole; intro e9 D9 od9 h9 tk9 x9 u9 d9 k9; (try dsimp only); (try k_fold)))))
  k_with "mine good" => (assumption)
  trivial
inductive NgRel (news : Led) : List Value → Ch → Prop where
  | mk {v : Value} {c : Ch} : TmIn news v c → fit c 1 0 0 = true → NgRel news [v] c
abbrev ngT : Con2 Ch where
  Rel := NgRel
  dep := fun _ => 8
  bad := fun c => tgo c 1 0 0
  Out := TmIn
theorem kind_is {od : Obj} {t1 t2 : Tok} (h : DObj od (fun y => if y = "text" then some (.str (Str.ofString "a term of too many levels or terms by rules") t2) else if y = "kind" then some (.str (Str.ofString "limit") t1) else none)) : KindIs od := by
  obtain ⟨es, ep, h1, h2, _, h3⟩ := h
  exact ⟨es, ep, t1, h1, h2, (h3 _).trans ((if_neg (by decide +kernel)).trans (if_pos rfl))⟩
theorem ng_ok (w : World) (mean : ExcName → Option Value) (mg mb : Str → Option Value) : Tell2 w mean mg mb 436 ngT := by
  intro d
  unfold Tells2
  intro dp un gd cn cs a ccd cl outer A₀ base h₀ L m news s vs Q E B F X N T hk hR hd hu hret hbad
  cases hR with
  | @mk v c ht hfit =>
    dsimp only [ngT] at hd hu hret hbad
    cases hb : tgo d 1 0 0 with
    | false =>
      replace hret := hret hb
      clear hbad
      refine wpAny_call ?_
      k_dflt (walk_at "mine enter")
      k_steps
      walk_at "mine conj"
      walk_at "mine fin"
      exact fun n' hs => ht.mono fun p hp => hs p (by simp only [List.mem_cons, List.mem_append, hp, true_or, or_true])
    | true =>
      replace hbad := hbad hb
      clear hret
      refine wpAny_call ?_
      k_dflt (walk_at "mine enter")
      k_steps
      refine ⟨e9, t9, some D9, rfl, X'.keeps F9.keep, (N9 _ (.head _)).1, ?_⟩
      have he9 := fresh_e N kG' f9 (by k_asm) (by k_asm) (by walk_at "mine sub")
      have u9 := x_up N kG' (Heap.UpToSlots.of_keeps fun _ _ e => e) F9 N9 fun p hp => .tail _ (.tail _ (List.mem_append_left _ hp))
      exact x_out_first (s := s) rfl rfl hbad (B'.push F9).frames he9 u9.fresh N9 u9.keeps (kind_is d9)

theorem rows25 : True := by
  k_with "mine contract2" => (exact Mine.ng_ok _ _ _ _)
  k_with "mine rel" => (exact Mine.NgRel.mk (by walk_at "mine tm") (by assumption))
  trivial
/-- the rules: one, its pattern P(a_) -/
inductive RuIn (led : Led) : Value → Nm → Ch → Prop where
  | mk {Rl ru : Addr} {ep : Nat} {vp vr : Value} {P : Nm} {res : Ch} : (Rl, lstO [.ref ru] ep) ∈ led → (ru, tupO [vp, vr]) ∈ led → TmIn led vp (.call P 1 (.sym .a)) → TmIn led vr res → RuIn led (.ref Rl) P res
theorem RuIn.mono {led led' : Led} {v : Value} {P : Nm} {res : Ch} (h : RuIn led v P res) (hs : ∀ p ∈ led, p ∈ led') : RuIn led' v P res := by
  cases h with
  | mk h1 h2 h3 h4 => exact .mk (hs _ h1) (hs _ h2) (h3.mono hs) (h4.mono hs)
def one (P : Nm) (c : Ch) : Prop := ∀ k c', c = .call P k c' → k = 1
structure RaD where
  P : Nm
  res : Ch
  c : Ch
inductive RaRel (led : Led) : List Value → RaD → Prop where
  | mk {vt vr : Value} {P : Nm} {res c : Ch} : TmIn led vt c → RuIn led vr P res → one P c → (∀ cv, c.got P = some cv → fit (Ch.put cv res) 1 0 0 = true) → RaRel led [vt, vr] ⟨P, res, c⟩
def RaOut (led : Led) (r : Value) (d : RaD) : Prop := match d.c.got d.P with
  | none => r = .none
  | some cv => TmIn led r (Ch.put cv d.res)
def raBad (P : Nm) (res c : Ch) : Bool := match c.got P with
  | none => false
  | some cv => tgo (Ch.put cv res) 1 0 0
theorem depth_put (cv : Ch) : ∀ r : Ch, (Ch.put cv r).depth ≤ r.depth + cv.depth
  | .sym .a => by simp [Ch.put, Ch.depth]
  | .sym .x => by simp [Ch.put, Ch.depth]
  | .call n k c => by have := depth_put cv c; simp only [Ch.put, Ch.depth]; omega
theorem got_depth {P : Nm} {c cv : Ch} (h : c.got P = some cv) : cv.depth < c.depth := by
  cases c with
  | sym s => cases h
  | call n k c =>
    simp only [Ch.got] at h
    split at h
    · cases h; exact Nat.lt_succ_self _
    · cases h
abbrev raT : Con2 RaD where
  Rel := RaRel
  dep := fun d => 12 + d.res.depth + d.c.depth
  bad := fun d => raBad d.P d.res d.c
  Out := RaOut
theorem ra_ok (w : World) (mean : ExcName → Option Value) (mg mb : Str → Option Value) : Tell2 w mean mg mb 443 raT := by
  intro d
  unfold Tells2
  intro dp un gd cn cs a ccd cl outer A₀ base h₀ L m news s vs Q E B F X N T hk hR hd hu hret hbad
  cases hR with
  | @mk vt vr P res c ht hr h1 hfit =>
    dsimp only [raT] at hd hu hret hbad
    have hc1 : 1 ≤ c.depth := by cases c <;> simp [Ch.depth]
    have hr0 := hr
    cases hr with
    | @mk Rl ru ep vp vr P res hr1 hr2 hr3 hr4 =>
    cases hg : c.got P with
    | none =>
      replace hret := hret (by simp [raBad, hg])
      clear hbad
      refine wpAny_call ?_
      k_dflt (walk_at "mine enter")
      k_steps
      walk_at "mine conj"
      walk_at "mine fin"
      intro n' hs
      show RaOut _ _ _
      unfold RaOut
      dsimp only
      rw [show c.got P = none from (by assumption)]
    | some cv =>
      have hdp := depth_put cv res
      have hgd := got_depth hg
      have hfit' := hfit cv hg
      cases hb : tgo (Ch.put cv res) 1 0 0 with
      | false =>
        replace hret := hret (by simp [raBad, hg, hb])
        clear hbad
        refine wpAny_call ?_
        k_dflt (walk_at "mine enter")
        k_steps
        walk_at "mine conj"
        walk_at "mine fin"
        intro n' hs
        show RaOut _ _ _
        unfold RaOut
        dsimp only
        rw [show c.got P = some cv from (by assumption)]
        exact TmIn.mono (by assumption) hs
      | true =>
        replace hbad := hbad (by simp [raBad, hg, hb])
        clear hret
        refine wpAny_call ?_
        k_dflt (walk_at "mine enter")
        k_steps
        exact x_out (s := s) rfl rfl hbad x9 (x_up N kG' u9 (by k_asm) (by k_asm) (by walk_at "mine sub")) d9 k9
theorem ra_none {led : Led} {r : Value} {P : Nm} {res c : Ch} (g : c.got P = none) (h : RaOut led r ⟨P, res, c⟩) : r = .none := by
  unfold RaOut at h; dsimp only at h; rw [g] at h; exact h
theorem ra_some {led : Led} {r : Value} {P : Nm} {res c cv : Ch} (g : c.got P = some cv) (h : RaOut led r ⟨P, res, c⟩) : ∃ a, r = .ref a ∧ TmIn led (.ref a) (Ch.put cv res) := by
  unfold RaOut at h; dsimp only at h; rw [g] at h; obtain ⟨a, rfl⟩ := TmIn.ref_of h; exact ⟨a, rfl, h⟩

theorem rows26 : True := by
  k_with "mine contract2" => (exact Mine.ra_ok _ _ _ _)
  k_with "mine ru" => (first | assumption | exact Mine.RuIn.mono (by assumption) (by walk_at "mine sub"))
  k_with "mine rel" => ((refine' Mine.RaRel.mk (by walk_at "mine tm") (by walk_at "mine ru") (by assumption) (by assumption)))
  k_with "mine out" => ((rename Mine.RaOut _ _ _ => o8; (first | (replace o8 := Mine.ra_none (by assumption) o8; subst o8) | (obtain ⟨v8, e8, ht8⟩ := Mine.ra_some (by assumption) o8; subst e8))))
  trivial
/-- what rule_once gives: none where it raises -/
def ro (P : Nm) (res : Ch) : Ch → Option (Ch × Bool)
  | .sym s => some (.sym s, false)
  | .call n k c => if raBad P res (.call n k c) then none else match (Ch.call n k c).got P with
      | some cv => some (Ch.put cv res, true)
      | none => match ro P res c with
        | none => none
        | some (l, true) => some (.call n k l, true)
        | some (_, false) => some (.call n k c, false)
def okRo (P : Nm) (res : Ch) : Ch → Bool
  | .sym _ => true
  | .call n k c => c.pos && decide (1 ≤ k) && (decide (P ≠ n) || decide (k = 1)) && ((Ch.call n k c).got P).all (fun cv => fit (Ch.put cv res) 1 0 0 && (Ch.put cv res).pos && decide (Ch.put cv res ≠ .call n k c)) &&
      okRo P res c && (decide (k = 1) || decide (ro P res c = some (c, false)))
theorem ro_depth {P : Nm} {res : Ch} : ∀ {c l : Ch} {b : Bool}, ro P res c = some (l, b) → l.depth ≤ res.depth + c.depth
  | .sym s, l, b, h => by simp only [ro, Option.some.injEq, Prod.mk.injEq] at h; rw [← h.1]; omega
  | .call n k c, l, b, h => by
    rw [ro] at h
    split at h
    · cases h
    · cases hg : (Ch.call n k c).got P with
      | some cv =>
        rw [hg] at h
        simp only [Option.some.injEq, Prod.mk.injEq] at h
        rw [← h.1]
        have := depth_put cv res
        have := got_depth hg
        omega
      | none =>
        rw [hg] at h
        dsimp only at h
        split at h
        · cases h
        · rename_i l' hr
          have := ro_depth hr
          simp only [Option.some.injEq, Prod.mk.injEq] at h
          rw [← h.1]
          simp only [Ch.depth] at *
          omega
        · simp only [Option.some.injEq, Prod.mk.injEq] at h
          rw [← h.1]
          omega
theorem okRo_all {P : Nm} {res c : Ch} (h : okRo P res c = true) : one P c ∧ (∀ cv, c.got P = some cv → fit (Ch.put cv res) 1 0 0 = true) ∧ c.pos = true ∧ ∀ cv, c.got P = some cv → (Ch.put cv res).pos = true ∧ Ch.put cv res ≠ c := by
  cases c with
  | sym s => exact ⟨(fun _ _ e => by cases e), (fun _ e => by cases e), rfl, (fun _ e => by cases e)⟩
  | call n k c =>
    simp only [okRo, Bool.and_eq_true, Bool.or_eq_true, decide_eq_true_eq] at h
    obtain ⟨⟨⟨⟨⟨h1, h2⟩, h3⟩, h4⟩, _⟩, _⟩ := h
    refine ⟨fun k' c' e => ?_, fun cv e => ?_, by simp [Ch.pos, h1, h2], fun cv e => ?_⟩
    · cases e; exact h3.resolve_left (fun z => z rfl)
    · rw [e] at h4; simp only [Option.all_some, Bool.and_eq_true] at h4; exact h4.1.1
    · rw [e] at h4; simp only [Option.all_some, Bool.and_eq_true, decide_eq_true_eq] at h4; exact ⟨h4.1.2, h4.2⟩
theorem okRo_in {P : Nm} {res c : Ch} {n : Nm} {k : Nat} (h : okRo P res (.call n k c) = true) : 1 ≤ k ∧ okRo P res c = true ∧ (k = 1 ∨ ro P res c = some (c, false)) := by
  simp only [okRo, Bool.and_eq_true, Bool.or_eq_true, decide_eq_true_eq] at h
  exact ⟨h.1.1.1.1.2, h.1.2, h.2⟩
inductive RoRel (led : Led) : List Value → RaD → Prop where
  | mk {vt vr : Value} {P : Nm} {res c : Ch} : TmIn led vt c → RuIn led vr P res → okRo P res c = true → RoRel led [vt, vr] ⟨P, res, c⟩
def RoOut (led : Led) (r : Value) (d : RaD) : Prop := ∀ l b, ro d.P d.res d.c = some (l, b) → ∃ T vl, r = .ref T ∧ (T, tupO [vl, .bool b]) ∈ led ∧ TmIn led vl l
abbrev roT : Con2 RaD where
  Rel := RoRel
  dep := fun d => 14 + d.res.depth + 2 * d.c.depth
  bad := fun d => (ro d.P d.res d.c).isNone
  Out := RoOut
theorem eqv_ne {c d : Ch} (hc : c.pos = true) (hd : d.pos = true) (h : c ≠ d) : PyData.eqv c.data d.data = !true := by
  cases e : PyData.eqv c.data d.data with
  | false => rfl
  | true => exact absurd (eqv_inj hc hd e) h
theorem Tell2.ind {D : Type} {w : World} {mean : ExcName → Option Value} {mg mb : Str → Option Value} {f : Addr} {c : Con2 D}
    (step : ∀ d, (∀ d', c.dep d' < c.dep d → Tells2 PySem.Challenge.rw_rh0041_02.row.prog w (Mine.part w.params) Mine.view (looseW Mine.view [Str.ofString "RANKS", Str.ofString "EXP_ONE", Str.ofString "MOST_FACTORED"]) mean mg mb f c d') →
      Tells2 PySem.Challenge.rw_rh0041_02.row.prog w (Mine.part w.params) Mine.view (looseW Mine.view [Str.ofString "RANKS", Str.ofString "EXP_ONE", Str.ofString "MOST_FACTORED"]) mean mg mb f c d) : Tell2 w mean mg mb f c := by
  have all : ∀ n, ∀ d, c.dep d < n → Tells2 PySem.Challenge.rw_rh0041_02.row.prog w (Mine.part w.params) Mine.view (looseW Mine.view [Str.ofString "RANKS", Str.ofString "EXP_ONE", Str.ofString "MOST_FACTORED"]) mean mg mb f c d := by
    intro n
    induction n with
    | zero => intro d h; exact absurd h (Nat.not_lt_zero _)
    | succ n ih => exact fun d h => step d fun d' h' => ih d' (Nat.lt_of_lt_of_le h' (Nat.le_of_lt_succ h))
  exact fun d => all _ d (Nat.lt_succ_self _)
theorem ro_some {led : Led} {r : Value} {P : Nm} {res c l : Ch} {b : Bool} (g : ro P res c = some (l, b)) (h : RoOut led r ⟨P, res, c⟩) : ∃ T vl, r = .ref T ∧ (T, tupO [vl, .bool b]) ∈ led ∧ TmIn led vl l := h l b g
theorem ne_of_lts_sub1 {a : Nat} {news l : Led} (h : ∀ q ∈ l, q.1 < a) (hs : ∀ q ∈ news, q ∈ l) : ∀ q ∈ news, @Ne Nat q.1 (a + 1) := fun q hq => Nat.ne_of_lt (Nat.lt_succ_of_lt (h q (hs q hq)))
theorem rows27 : True := by
  k_with "mine apart" => (first | (with_reducible refine Mine.ne_of_lts_sub (by with_reducible assumption) (by walk_at "mine sub")) | (with_reducible refine Mine.ne_of_lts_sub1 (by with_reducible assumption) (by walk_at "mine sub")))
  k_with "compareOp NotEq ref ref" => ((k_here; k_dflt (refine' Mine.chNe (by k_asm) (by walk_at "mine tm") (by walk_at "mine tm") (by walk_at "mine units") true (by exact Mine.eqv_ne (by assumption) (by assumption) (by assumption)) ?_; k_whole)))
  k_with "mine out" => ((rename Mine.RoOut _ _ _ => o8; obtain ⟨T8, v8, e8, hT8, ht8⟩ := Mine.ro_some (by assumption) o8; subst e8))
  trivial
theorem TmIn.call1 {news : Led} {a b : Addr} {t1 t2 : Tok} {n : Nm} {v : Value} {c : Ch} (h1 : (a, tupO [.str (Str.ofString "call") t1, .str n.str t2, .ref b]) ∈ news) (h2 : (b, tupO [v]) ∈ news) (h3 : TmIn news v c) : TmIn news (.ref a) (.call n 1 c) :=
  TmIn.call (vs := [v]) h1 h2 (by simp) fun u hu => by rw [List.mem_singleton.mp hu]; exact h3
theorem rows28 : True := by
  k_with "mine tm" => (first | assumption | exact Mine.TmIn.mono (by assumption) (by walk_at "mine sub") | (apply Mine.TmIn.call1; (focus walk_at "mine memR"); (focus walk_at "mine mem"); (focus first | assumption | exact Mine.TmIn.mono (by assumption) (by walk_at "mine sub"))))
  k_with "mine rel" => (exact Mine.RoRel.mk (by walk_at "mine tm") (by walk_at "mine ru") (by assumption))
  k_with "call ref cons nil" => ((k_here; (with_reducible show wpAny _ _ (call (Value.ref 450) _) _ _ _); k_dflt (first | (refine' Mine.Tells2.good1 (by assumption) (by k_asm) (by k_asm) (by k_asm) (by k_asm) (by walk_at "mine led") (by first | assumption | exact rfl) (by walk_at "mine rel") (by walk_at "mine good") (by walk_at "mine room") (by walk_at "mine units") ?_; k_whole; intro r9 tl9 h9 tk9 k9 f9 F9 N9 o9; (have a9 := Mine.apart_fresh (by k_asm) f9); (try simp only [List.cons_append] at N9 o9); (try walk_at "mine out"); (try dsimp only); (try k_fold)) | (refine' Mine.Tells2.ill1 (by assumption) (by k_asm) (by k_asm) (by k_asm) (by k_asm) (by walk_at "mine led") (by first | assumption | exact rfl) (by walk_at "mine rel") (by walk_at "mine good") (by walk_at "mine room") (by walk_at "mine units") ?_; k_whole; intro e9 D9 od9 h9 tk9 x9 u9 d9 k9; (try dsimp only); (try k_fold)))))
  k_with "call type:enumerate cons nil" => ((k_here; k_dflt (refine' ktu_enum (lo := lstO _ _) (by rfl) (by k_asm) (by k_asm) (by walk_at "mine memR") (by rfl) (by rfl) (by rfl) ?_; k_whole); intro I l1; (have l1' := l1); (try k_lt l1'); (try dsimp only [enumItems])))
  trivial
def OffW (ws : List (Addr × String)) (tl : Led) : Prop := ∀ x ∈ ws, ∀ q ∈ tl, @Ne Nat q.1 x.1
def QInv (ws : List (Addr × String)) (m0 : Str → Option Value) (led0 : Led) (m : Str → Option Value) (nw : Led) : Prop :=
  (∃ a b c d, m = fun y => if y = Str.ofString "is_done" then a else if y = Str.ofString "later" then b else if y = Str.ofString "part" then c else if y = Str.ofString "at" then d else m0 y) ∧ ∃ tl, nw = led0 ++ tl ∧ Apart led0 tl ∧ OffW ws tl
theorem QInv.next {ws : List (Addr × String)} {m0 m : Str → Option Value} {led0 tl tl' : Led} {a b c d a' b' c' d' : Option Value} (h1 : Apart led0 tl) (h2 : Apart led0 tl') (h3 : OffW ws tl) (h4 : OffW ws tl') (e : m = fun y => if y = Str.ofString "is_done" then a else if y = Str.ofString "later" then b else if y = Str.ofString "part" then c else if y = Str.ofString "at" then d else
      if y = Str.ofString "is_done" then a' else if y = Str.ofString "later" then b' else if y = Str.ofString "part" then c' else if y = Str.ofString "at" then d' else m0 y) : QInv ws m0 led0 m (led0 ++ tl ++ tl') := by
  refine ⟨⟨a, b, c, d, e.trans (funext fun y => ?_)⟩, tl ++ tl', List.append_assoc .., h1.app h2, fun x hx q hq => (List.mem_append.mp hq).elim (h3 x hx q) (h4 x hx q)⟩
  by_cases e1 : y = Str.ofString "is_done" <;> by_cases e2 : y = Str.ofString "later" <;> by_cases e3 : y = Str.ofString "part" <;> by_cases e4 : y = Str.ofString "at" <;> simp only [e1, e2, e3, e4, if_true, if_false]
section
variable {prog : Program} {w : World} {A : Around} {E : Value → Shared → Prop} {Q : Flow → Shared → Prop} {s : Shared} {env : Env} {h₀ : Heap} {target : PySem.Expr} {body : List Stmt} {ws : List (Addr × String)} {keep : Led}
def QTurn (prog : Program) (w : World) (A : Around) (E : Value → Shared → Prop) (h₀ : Heap) (env : Env) (target : PySem.Expr) (body : List Stmt) (Q : Flow → Shared → Prop) (s : Shared) (ws : List (Addr × String)) (keep : Led) (us : List Value) (m0 : Str → Option Value) (led0 : Led) : Prop :=
  ∀ (i : Nat) (v : Value), v ∈ us → ∀ (a b c d : Option Value) (tl : Led), Apart led0 tl → OffW ws tl → ∀ T t h tk, IsTup h T #[.int (i : Int) t, v] → Fr h₀ env.locals h (fun y => if y = Str.ofString "is_done" then a else if y = Str.ofString "later" then b else if y = Str.ofString "part" then c else if y = Str.ofString "at" then d else m0 y) → AllObj ws (fun its => News h₀ env.locals h (its ++ (led0 ++ tl)) →
      wpAny (model prog w) A (assign target env (.ref T)) (fun _ s₂ => wpAny (model prog w) A (execs body env) (UnrPostW h₀ env.locals { s with heap := h, toks := tk } its (fun m' n' => SubL keep n' ∧ QInv ws m0 led0 m' n') Q) E s₂) E { s with heap := h, toks := tk })
def QFin (h₀ : Heap) (env : Env) (Q : Flow → Shared → Prop) (s : Shared) (m0 : Str → Option Value) (led0 : Led) : Prop :=
  ∀ (a b c d : Option Value) (tl : Led), Apart led0 tl → ∀ h tk, Fr h₀ env.locals h (fun y => if y = Str.ofString "is_done" then a else if y = Str.ofString "later" then b else if y = Str.ofString "part" then c else if y = Str.ofString "at" then d else m0 y) → News h₀ env.locals h (led0 ++ tl) → Q .next { s with heap := h, toks := tk }
theorem quiet {us : List Value} {m0 : Str → Option Value} {led0 : Led} (turn : QTurn prog w A E h₀ env target body Q s ws keep us m0 led0) (fin : QFin h₀ env Q s m0 led0) : ItemsRest prog w A E h₀ env target body Q s ws keep (enumItems 0 us) m0 led0 := by
  refine items_enum (QInv ws m0 led0) (vs := us) (fun i v hv m nw hI T t h tk hT F => ?_) (fun m nw hI h tk F N => ?_) us 0 (fun _ h => h) m0 led0 ⟨⟨m0 (Str.ofString "is_done"), m0 (Str.ofString "later"), m0 (Str.ofString "part"), m0 (Str.ofString "at"), funext fun y => ?_⟩, [], (List.append_nil _).symm, Apart.nil, fun _ _ _ h => nomatch h⟩
  · obtain ⟨⟨a, b, c, d, rfl⟩, tl, rfl, ap, of⟩ := hI
    exact turn i v hv a b c d tl ap of T t h tk hT F
  · obtain ⟨⟨a, b, c, d, rfl⟩, tl, rfl, ap, of⟩ := hI
    exact fin a b c d tl ap h tk F N
  · by_cases e1 : y = Str.ofString "is_done"
    · rw [if_pos e1, e1]
    · by_cases e2 : y = Str.ofString "later"
      · rw [if_neg e1, if_pos e2, e2]
      · by_cases e3 : y = Str.ofString "part"
        · rw [if_neg e1, if_neg e2, if_pos e3, e3]
        · by_cases e4 : y = Str.ofString "at"
          · rw [if_neg e1, if_neg e2, if_neg e3, if_pos e4, e4]
          · rw [if_neg e1, if_neg e2, if_neg e3, if_neg e4]
end
theorem ro_ok (w : World) (mean : ExcName → Option Value) (mg mb : Str → Option Value) : Tell2 w mean mg mb 450 roT := by
  refine Tell2.ind fun d IH => ?_
  unfold Tells2
  intro dp un gd cn cs a ccd cl outer A₀ base h₀ L m news s vs Q E B F X N T hk hR hd hu hret hbad
  cases hR with
  | @mk vt vr P res c ht hr hok =>
    dsimp only [roT] at hd hu hret hbad
    obtain ⟨ta, rfl⟩ := ht.ref_of
    have hc1 : 1 ≤ c.depth := by cases c <;> simp [Ch.depth]
    have hw := ht.width_le
    have hok0 := okRo_all hok
    obtain ⟨h1, hfit, hpos, hpos'⟩ := hok0
    cases hg : c.got P with
    | some cv =>
      have hgd := got_depth hg
      have hfit' := hfit cv hg
      obtain ⟨hpos', hne'⟩ := hpos' cv hg
      cases c with
      | sym sy => cases hg
      | call n k c =>
      cases hb : raBad P res (.call n k c) with
      | false =>
        replace hret := hret (by simp [ro, hb, hg])
        clear hbad IH
        refine wpAny_call ?_
        k_dflt (walk_at "mine enter")
        k_steps
        walk_at "mine conj"
        walk_at "mine fin"
        intro n' hs l b e
        rw [show ro P res (Ch.call n k c) = some (Ch.put cv res, true) by rw [ro]; simp [hb, show (Ch.call n k c).got P = some cv from (by assumption)]] at e
        cases e
        exact ⟨_, _, rfl, hs _ (by walk_at "mine memR"), (TmIn.mono (by assumption) (by walk_at "mine sub")).mono hs⟩
      | true =>
        replace hbad := hbad (by simp [ro, hb])
        clear hret IH
        refine wpAny_call ?_
        k_dflt (walk_at "mine enter")
        k_steps
        exact x_out (s := s) rfl rfl hbad x9 (x_up N kG' u9 (by k_asm) (by k_asm) (by walk_at "mine sub")) d9 k9
    | none =>
      have hb : raBad P res c = false := by simp [raBad, hg]
      refine wpAny_call ?_
      k_dflt (walk_at "mine enter")
      k_steps
      cases c with
      | sym sy =>
        have e8 : us8 = [] := List.eq_nil_of_length_eq_zero hl8
        subst e8
        replace hret := hret rfl
        clear hbad
        k_steps
        walk_at "mine conj"
        walk_at "mine fin"
        intro n' hs l b e
        cases e
        exact ⟨_, _, rfl, hs _ (by walk_at "mine memR"), (ht.mono (by walk_at "mine sub")).mono hs⟩
      | call n k c =>
        obtain ⟨ta', tb, t1, t2, tvs, te, htl, hta, htb, htz, htv⟩ := ht.call_inv
        cases te
        obtain ⟨hk1, hokc, hkq⟩ := okRo_in hok
        have hdc : (Ch.call n k c).depth = c.depth + 1 := rfl
        have IHc := IH ⟨P, res, c⟩ (by show 14 + res.depth + 2 * c.depth < 14 + res.depth + 2 * (Ch.call n k c).depth; omega)
        replace hl8 : us8.length = k := hl8
        cases hro : ro P res c with
        | none =>
          have k1 : k = 1 := hkq.resolve_right (by rw [hro]; exact fun e => nomatch e)
          subst k1
          obtain ⟨u, rfl⟩ := List.length_eq_one_iff.mp hl8
          have hu9 : TmIn _ u c := hu8 u (.head _)
          have hbi : (ro P res c).isNone = true := by rw [hro]; rfl
          replace hbad := hbad (by rw [ro]; simp [hb, show (Ch.call n _ c).got P = none from (by assumption), hro])
          clear hret
          k_steps
          exact x_out (s := s) rfl rfl hbad x9 (x_up N kG' u9 (by k_asm) (by k_asm) (by walk_at "mine sub")) d9 k9
        | some lb =>
          obtain ⟨l, b⟩ := lb
          have hbi : (ro P res c).isNone = false := by rw [hro]; rfl
          have hld := ro_depth hro
          have hlc : (Ch.call n 1 l).depth = l.depth + 1 := rfl
          cases b with
          | true =>
            have k1 : k = 1 := hkq.resolve_right (by rw [hro]; exact fun e => nomatch e)
            subst k1
            obtain ⟨u, rfl⟩ := List.length_eq_one_iff.mp hl8
            have hu9 : TmIn _ u c := hu8 u (.head _)
            replace hret := hret (by rw [ro]; simp [hb, show (Ch.call n _ c).got P = none from (by assumption), hro])
            clear hbad
            k_steps
            walk_at "mine conj"
            walk_at "mine fin"
            intro n' hs l' b' e
            rw [show ro P res (Ch.call n 1 c) = some (Ch.call n 1 l, true) by rw [ro]; simp [hb, show (Ch.call n 1 c).got P = none from (by assumption), show ro P res c = some (l, true) from (by assumption)]] at e
            cases e
            exact ⟨_, _, rfl, hs _ (by walk_at "mine memR"), (TmIn.mono (by assumption) (by walk_at "mine sub")).mono hs⟩
          | false =>
            replace hret := hret (by rw [ro]; simp [hb, show (Ch.call n _ c).got P = none from (by assumption), hro])
            clear hbad
            have hu9 : ∀ u ∈ us8, TmIn _ u c := hu8
            refine quiet ?_ ?_
            · intro i u hu a1 b1 c1 d1 tl ap of1 T t h tk hT F1 oe hoe oi hoi N1
              have tu := hu9 u hu
              have of2 := of1 _ (.head _)
              have of3 := of1 _ (.tail _ (.head _))
              dsimp only at of2 of3
              simp only [List.cons_append, List.nil_append] at N1
              k_steps
              refine QInv.next ap (a9.sub fun q hq => ?_) of1 (fun x hx q hq => ?_) rfl
              · simp only [List.mem_cons, List.mem_append] at hq ⊢
                simp only [hq, true_or, or_true]
              · rcases List.mem_cons.mp hx with rfl | hx
                · exact Ne.symm (a9 _ (.head _) q hq)
                · rw [List.mem_singleton.mp hx]
                  exact Ne.symm (a9 _ (.tail _ (.head _)) q hq)
            · intro a1 b1 c1 d1 tl ap h tk F1 N1
              have ap1 : Apart news tl := ap.sub fun q hq => by simp only [List.mem_append, hq, true_or]
              k_steps
              walk_at "mine conj"
              walk_at "mine fin"
              intro n' hs l' b' e
              rw [show ro P res (Ch.call n k c) = some (Ch.call n k c, false) by rw [ro]; simp [hb, show (Ch.call n k c).got P = none from (by assumption), show ro P res c = some (l, false) from (by assumption)]] at e
              cases e
              exact ⟨_, _, rfl, hs _ (by walk_at "mine memR"), (ht.mono (by walk_at "mine sub")).mono hs⟩

theorem rows29 : True := by
  k_with "mine contract2" => (exact Mine.ro_ok _ _ _ _)
  k_with "mine rel" => ((apply Mine.RoRel.mk; (focus walk_at "mine tm"); (focus walk_at "mine ru"); assumption))
  k_with "mine out" => ((rename Mine.RoOut _ _ _ => o8; obtain ⟨T8, v8, e8, hT8, ht8⟩ := Mine.ro_some (by assumption) o8; subst e8))
  trivial
/-- what apply_rules gives: none where it raises -/
def ap (P : Nm) (res : Ch) : Nat → Ch → Option Ch
  | 0, c => some c
  | m + 1, c => match ro P res c with
    | none => none
    | some (l, false) => some l
    | some (l, true) => if tgo l 1 0 0 then none else ap P res m l
def okAp (P : Nm) (res : Ch) : Nat → Ch → Bool
  | 0, c => decide (c.depth ≤ 150)
  | m + 1, c => decide (c.depth ≤ 150) && okRo P res c && (match ro P res c with
    | some (l, true) => fit l 1 0 0 && (tgo l 1 0 0 || okAp P res m l)
    | _ => true)
structure ApD where
  P : Nm
  res : Ch
  c : Ch
  m : Nat
inductive ApRel (led : Led) : List Value → ApD → Prop where
  | mk {vt vr : Value} {tk : Tok} {P : Nm} {res c : Ch} {m : Nat} : TmIn led vt c → RuIn led vr P res → okAp P res m c = true → res.depth ≤ 150 → m ≤ 10 → ApRel led [vt, vr, .int (m : Int) tk] ⟨P, res, c, m⟩
abbrev apT : Con2 ApD where
  Rel := ApRel
  dep := fun _ => 500
  bad := fun d => (ap d.P d.res d.m d.c).isNone
  Out := fun led r d => ∀ l, ap d.P d.res d.m d.c = some l → TmIn led r l
theorem okAp_depth {P : Nm} {res : Ch} {m : Nat} {c : Ch} (h : okAp P res m c = true) : c.depth ≤ 150 := by
  cases m <;> simp only [okAp, Bool.and_eq_true, decide_eq_true_eq] at h
  · exact h
  · exact h.1.1
theorem rng_size (m : Nat) : Builtin.Range.rangeSize 0 (m : Int) 1 = (m : Int) := by
  unfold Builtin.Range.rangeSize
  simp
  try omega
theorem rng_fits {m : Nat} (h : m ≤ 1000) : Builtin.Range.rangeFitsLong (m : Int) = true := by
  unfold Builtin.Range.rangeFitsLong
  simp
  try omega
theorem rng_small {m : Nat} (h : m ≤ 1000) : Builtin.Range.small 0 (m : Int) 1 = true := by
  have h0 : Builtin.Range.rangeFitsLong 0 = true := by decide +kernel
  have h1 : Builtin.Range.rangeFitsLong 1 = true := by decide +kernel
  unfold Builtin.Range.small
  simp [rng_fits h, rng_size, h0, h1]
def ApInv (P : Nm) (res : Ch) (R : Option Ch) (I : Addr) (m0 : Str → Option Value) (led0 : Led) (k : Nat) (m : Str → Option Value) (nw : Led) : Prop :=
  ∃ (v : Value) (c : Ch) (b s' : Option Value) (tl : Led), m = (fun y => if y = Str.ofString "is_done" then b else if y = Str.ofString "t" then some v else if y = Str.ofString "step" then s' else m0 y) ∧ nw = led0 ++ tl ∧ Apart led0 tl ∧ (∀ q ∈ tl, @Ne Nat q.1 I) ∧ TmIn (led0 ++ tl) v c ∧ okAp P res k c = true ∧ ap P res k c = R
theorem TmIn.strip {led led' : Led} {v : Value} {c : Ch} (h : TmIn led v c) (hs : ∀ p ∈ led, p.2.cls = .type "tuple" → p ∈ led') : TmIn led' v c := by
  induction h with
  | sym hm => exact .sym (hs _ hm rfl)
  | call h1 h2 hz _ ih => exact .call (hs _ h1 rfl) (hs _ h2 rfl) hz ih
theorem not_dict' {o : Obj} {T T' : String} (h : o.cls = .type T) (hT : T ≠ T') : o.cls ≠ .type T' := by
  rw [h]
  intro e
  injection e with e
  exact hT e
theorem apart_head {I : Addr} {o : Obj} {l tl : Led} (h : Apart ((I, o) :: l) tl) : ∀ q ∈ tl, @Ne Nat q.1 I := fun q hq => Ne.symm (h _ (.head _) q hq)
theorem ApInv.next {P : Nm} {res l : Ch} {R : Option Ch} {I : Addr} {m0 m : Str → Option Value} {led0 tl tA tB : Led} {k : Nat} {v : Value} {b s1 b' v' s'' : Option Value} (h1 : Apart led0 tl) (h2 : Apart led0 tA) (h3 : Apart led0 tB) (o1 : ∀ q ∈ tl, @Ne Nat q.1 I) (o2 : ∀ q ∈ tA, @Ne Nat q.1 I) (o3 : ∀ q ∈ tB, @Ne Nat q.1 I)
    (t : TmIn (led0 ++ tl ++ tA ++ tB) v l) (hok : okAp P res k l = true) (hap : ap P res k l = R) (e : m = fun y => if y = Str.ofString "is_done" then b else if y = Str.ofString "t" then some v else if y = Str.ofString "step" then s1 else if y = Str.ofString "is_done" then b' else if y = Str.ofString "t" then v' else if y = Str.ofString "step" then s'' else m0 y) :
    ApInv P res R I m0 led0 k m (led0 ++ tl ++ tA ++ tB) := by
  have ea : led0 ++ tl ++ tA ++ tB = led0 ++ (tl ++ tA ++ tB) := by simp only [List.append_assoc]
  refine ⟨v, l, b, s1, tl ++ tA ++ tB, e.trans (funext fun y => ?_), ea, (h1.app h2).app h3, fun q hq => ?_, ea ▸ t, hok, hap⟩
  · by_cases e1 : y = Str.ofString "is_done" <;> by_cases e2 : y = Str.ofString "t" <;> by_cases e3 : y = Str.ofString "step" <;> simp only [e1, e2, e3, if_true, if_false]
  · rcases List.mem_append.mp hq with hq | hq
    · rcases List.mem_append.mp hq with hq | hq
      · exact o1 q hq
      · exact o2 q hq
    · exact o3 q hq
section
variable {prog : Program} {w : World} {A : Around} {E : Value → Shared → Prop} {Q : Flow → Shared → Prop} {s : Shared} {env : Env} {h₀ : Heap} {body : List Stmt}
def ATurn (prog : Program) (w : World) (A : Around) (E : Value → Shared → Prop) (h₀ : Heap) (env : Env) (body : List Stmt) (Q : Flow → Shared → Prop) (s : Shared) (I : Addr) (n : Nat) (P : Nm) (res : Ch) (R : Option Ch) (m0 : Str → Option Value) (led0 : Led) : Prop :=
  ∀ (k i : Nat) (v : Value) (c : Ch) (b s' : Option Value) (tl : Led), i + (k + 1) = n → Apart led0 tl → (∀ q ∈ tl, @Ne Nat q.1 I) → TmIn (led0 ++ tl) v c → okAp P res (k + 1) c = true → ap P res (k + 1) c = R → ∀ t h tk, Fr h₀ env.locals h (fun y => if y = Str.ofString "step" then some (.int (0 + (i : Int)) t) else if y = Str.ofString "is_done" then b else if y = Str.ofString "t" then some v else if y = Str.ofString "step" then s' else m0 y) →
    News h₀ env.locals h ((I, itR (0 + ((i + 1 : Nat) : Int)) ((n : Int) - ((i + 1 : Nat) : Int))) :: (led0 ++ tl)) →
    wpAny (model prog w) A (execs body env) (UnrPost h₀ env.locals { s with heap := h, toks := tk } I (itR (0 + ((i + 1 : Nat) : Int)) ((n : Int) - ((i + 1 : Nat) : Int))) (ApInv P res R I m0 led0 k) Q) E { s with heap := h, toks := tk }
def AFin (h₀ : Heap) (env : Env) (Q : Flow → Shared → Prop) (s : Shared) (P : Nm) (res : Ch) (R : Option Ch) (m0 : Str → Option Value) (led0 : Led) : Prop :=
  ∀ (v : Value) (c : Ch) (b s' : Option Value) (tl : Led), Apart led0 tl → TmIn (led0 ++ tl) v c → some c = R → ∀ h tk, Fr h₀ env.locals h (fun y => if y = Str.ofString "is_done" then b else if y = Str.ofString "t" then some v else if y = Str.ofString "step" then s' else m0 y) → News h₀ env.locals h (led0 ++ tl) → Q .next { s with heap := h, toks := tk }
theorem ap_loop {I : Addr} {n : Nat} {P : Nm} {res c : Ch} {v : Value} {m0 : Str → Option Value} {led0 : Led} (hm : m0 (Str.ofString "t") = some v) (tm : TmIn led0 v c) (hok : okAp P res n c = true)
    (turn : ATurn prog w A E h₀ env body Q s I n P res (ap P res n c) m0 led0) (fin : AFin h₀ env Q s P res (ap P res n c) m0 led0) : RangeRest prog w A E h₀ env (Str.ofString "step") body Q s I 0 n n 0 m0 led0 := by
  refine range_all (ApInv P res (ap P res n c) I m0 led0) (fun k i m nw hi hI t h tk F N => ?_) (fun m nw hI h tk F N => ?_) n 0 m0 led0 (Nat.zero_add _) ⟨v, c, m0 (Str.ofString "is_done"), m0 (Str.ofString "step"), [], funext fun y => ?_, (List.append_nil _).symm, Apart.nil, (fun _ h => nomatch h), (by rw [List.append_nil]; exact tm), hok, rfl⟩
  · obtain ⟨v', c', b, s', tl, rfl, rfl, h1, h2, h3, h4, h5⟩ := hI
    exact turn k i v' c' b s' tl hi h1 h2 h3 h4 h5 t h tk F N
  · obtain ⟨v', c', b, s', tl, rfl, rfl, h1, h2, h3, h4, h5⟩ := hI
    exact fin v' c' b s' tl h1 h3 h5 h tk F N
  · by_cases e1 : y = Str.ofString "is_done"
    · rw [if_pos e1, e1]
    · by_cases e2 : y = Str.ofString "t"
      · rw [if_neg e1, if_pos e2, e2, hm]
      · by_cases e3 : y = Str.ofString "step"
        · rw [if_neg e1, if_neg e2, if_pos e3, e3]
        · rw [if_neg e1, if_neg e2, if_neg e3]
end
theorem rows30 : True := by
  k_with "pyIter ref" => ((k_here; (with_reducible show wpAny _ _ (pyIter (Value.ref _)) (fun it s₂ => LoopAtV _ _ _ _ _ _ _ _ _ it s₂) _ _); k_dflt (refine' iter_rangeUnr (by rfl) (by assumption) (by exact Mine.rng_small (by omega)) (by exact Mine.rng_size _) (by k_asm) (by k_asm) ?_; k_whole); intro I l1))
  trivial
theorem ap_ok (w : World) (mean : ExcName → Option Value) (mg mb : Str → Option Value) : Tell2 w mean mg mb 457 apT := by
  intro d
  unfold Tells2
  intro dp un gd cn cs a ccd cl outer A₀ base h₀ L m news s vs Q E B F X N T hk hR hd hu hret hbad
  cases hR with
  | @mk vt vr tk0 P res c mm ht hr hok hrd hmm =>
    dsimp only [apT] at hd hu hret hbad
    have hcd := okAp_depth hok
    refine wpAny_call ?_
    k_dflt (walk_at "mine enter")
    k_steps
    refine ap_loop rfl (by with_reducible assumption) hok ?_ ?_
    · intro k i v' c' b s' tl hi ap1 of1 tm1 ok1 ap2 t h tk F1 N1
      simp only [okAp, Bool.and_eq_true, decide_eq_true_eq] at ok1
      obtain ⟨⟨hcd1, hok1⟩, hok2⟩ := ok1
      cases hro : ro P res c' with
      | none =>
        have hbi : (ro P res c').isNone = true := by rw [hro]; rfl
        replace hbad := hbad (by rw [← ap2, ap, hro]; rfl)
        clear hret
        k_steps
        exact x_out (s := s) rfl rfl hbad x9 (x_up N kG' u9 (by k_asm) (by k_asm) (by walk_at "mine sub")) d9 k9
      | some lb =>
        obtain ⟨l, b9⟩ := lb
        have hbi : (ro P res c').isNone = false := by rw [hro]; rfl
        cases b9 with
        | false =>
          replace hret := hret (by rw [← ap2, ap, hro]; rfl)
          clear hbad
          k_steps
          walk_at "mine conj"
          walk_at "mine fin"
          intro n' hs l' e
          rw [← ap2, ap, hro] at e
          cases e
          exact TmIn.mono (by assumption) (fun p hp => hs p (by simp only [List.mem_cons, List.mem_append] at hp ⊢; simp only [hp, true_or, or_true]))
        | true =>
          rw [hro] at hok2
          simp only [Bool.and_eq_true, Bool.or_eq_true] at hok2
          obtain ⟨hfit, hok3⟩ := hok2
          cases htg : tgo l 1 0 0 with
          | true =>
            replace hbad := hbad (by rw [← ap2, ap, hro]; simp [htg])
            clear hret
            k_steps
            exact x_out (s := s) rfl rfl hbad x9 (x_up N kG' u9 (by k_asm) (by k_asm) (by walk_at "mine sub")) d9 k9
          | false =>
            clear hbad hret
            k_steps
            have hok4 := hok3.resolve_left (by rw [htg]; exact Bool.false_ne_true)
            refine UnrEnd.intro (by k_asm) (by k_asm) _ (fun p hp => hp) ?_ ?_
            · walk_at "mine off1"
            · refine ApInv.next ap1 ?_ ?_ of1 ?_ ?_ (ht8.strip fun p hp hc => List.mem_append_left _ ((List.mem_cons.mp hp).resolve_left fun e => by rw [e] at hc; exact absurd hc (not_dict' rfl (by decide)))) hok4 (by rw [← ap2, ap, hro]; simp [htg]) rfl
              · exact Apart.sub (by with_reducible assumption) fun q hq => by simp only [List.mem_cons, List.mem_append] at hq ⊢; simp only [hq, true_or, or_true]
              · exact Apart.sub (by with_reducible assumption) fun q hq => by simp only [List.mem_cons, List.mem_append] at hq ⊢; simp only [hq, true_or, or_true]
              · exact apart_head (by with_reducible assumption)
              · exact apart_head (by with_reducible assumption)
    · intro v' c' b s' tl ap1 tm1 ap2 h tk F1 N1
      replace hret := hret (by rw [← ap2]; rfl)
      clear hbad
      k_steps
      walk_at "mine conj"
      walk_at "mine fin"
      intro n' hs l' e
      rw [← ap2] at e
      cases e
      exact tm1.mono (fun p hp => hs p (by simp only [List.mem_cons, List.mem_append] at hp ⊢; simp only [hp, true_or, or_true]))

theorem rows31 : True := by
  k_with "mine contract2" => (exact Mine.ap_ok _ _ _ _)
  k_with "mine rel" => ((apply Mine.ApRel.mk; (focus walk_at "mine tm"); (focus walk_at "mine ru"); (focus assumption); (focus assumption); assumption))
  trivial
-- `wrong.kind`: an attribute of the own exception, read
section
open Builtin Builtin.ObjectAttr
variable {prog : Program} {w : World} {A : Around} {E : Value → Shared → Prop} {h : Heap} {g : Array GenState} {d : Drawn} {t : Nat} {os : OsState}
variable {nm q : Str} {N x : Addr} {bs : List Value} {sn : List Str} {sub : List Value} {ab : Bool} {col : Option Bool} {dd : Option Addr} {k0 k1 k2 k3 k5 : Option Value} {newId : String} {mN : Str → Option Value} {name : Str} {v : Value} {o od : Obj} {D : Addr}
theorem kind_get {expr : Bool} {Q : Value → Shared → Prop} {mD : Str → Option Value} (hC : h.get? 31 = some (excClassObj nm q 31 N bs excBm true sn sub ab col dd k0 k1 k2 k3 k5 newId)) (hn : h.Ns N mN) (hng : mN "__getattribute__" = none) (hnh : mN "__getattr__" = none) (hna : mN name = none)
    (hB : typeLookup (.type "Exception") name = pure none) (hx : h.get? x = some o) (hc : o.cls = .ref 31) (hd : o.dict = some D) (hnc : ∀ c, o.data ≠ .cls c) (hD : h.Ns D mD) (hv : mD name = some v) (hh : handedOut v = pure v) (hq : Q v ⟨h, g, d, t + 1, os⟩) :
    wpAny (model prog w) A (getAttr (.ref x) name expr) Q E ⟨h, g, d, t, os⟩ := by
  have FB := PySem.F.attrBase_Exception
  have bound := FB.ga.bind (.ref x)
  have far : (Value.builtin "BaseException.__getattribute__" == Value.builtin "object.__getattribute__") = false := by decide +kernel
  obtain ⟨cls, dict, data, slots⟩ := o
  subst hc hd
  unfold getAttr getAttrBy getAttrByItsOwn
  wp_walk using wpAny_loadPart_at hx, wpAny_typeLookup_exc hC hn FB.mro FB.ga.lookup
  rw [hng]
  simp only [far, Bool.and_false, Bool.false_eq_true, if_false]
  wp_walk using wpAny_of_eq bound, wpAny_loadPart_at hx, wpAny_typeLookup_exc hC hn FB.mro FB.noGetattr
  have low : onTheHeap (Value.builtin "BaseException.__getattribute__") = false := rfl
  simp only [low, Bool.and_false, Bool.false_eq_true, if_false]
  wp_walk using wpAny_of_eq bound
  refine codeAny_call_builtin FB.ga.plain PySem.F.entry_bexc_ga (wpAny_check_ga_own FB hC .base hx rfl ?_)
  wp_walk using wpAny_loadPart_at hx, wpAny_typeLookup_exc hC hn FB.mro hB
  rw [hna]
  wp_walk using wpAny_loadPart_at hx, wpAny_loadPart_at hC, wpAny_nsGet hD
  split
  next e => exact absurd e (hnc _)
  unfold instanceDict
  wp_walk using wpAny_loadPart_at hx, wpAny_loadPart_at hC, wpAny_nsGet hD
  rw [hv]
  wp_walk using wpAny_of_eq hh
  exact hq
end

-- the catch of the own exception
section
variable {prog : Program} {w : World} {A₀ : Around} {E : Value → Shared → Prop} {s' : Shared} {h₀ B : Heap} {l : List Env} {L' a e : Addr} {m : Str → Option Value} {name : Str} {scope : Scope} {cd : Value} {D : Option Addr}
  {n : Str} {b₀ : Stmt} {suite : List Stmt} {pos np : Pos} {rest : List ExceptHandler} {Q : Flow → Shared → Prop} {p : Program} {loose : List Str} {mg mb : Str → Option Value} {x : Str}
theorem caught_X (hfr : (A₀.deeper (envOf name scope L' a cd)).frames = some (envOf name scope L' a cd :: l)) (hB : ∀ b o, h₀.get? b = some o → B.get? b = some o) (x9 : XAt B (envOf name scope L' a cd :: l) e (.ref 31) D .none s'.heap) (F : Fr h₀ L' s'.heap m)
    (X : (Mine.part w.params).In h₀) (T : TopRead p loose mg mb h₀) (ex : nsIn (Mine.part w.params) mainGlobals x = some (some (.ref 31)))
    (k : ∀ h₆ h₇ tk, s'.heap.UpToSlots h₆ → XAt B (envOf name scope L' a cd :: l) e (.ref 31) D .none h₆ → Heap.SameBut L' h₆ h₇ → Fr h₀ L' h₇ (fun y => if y = n then some (.ref e) else m y) →
      wpAny (model prog w) ((A₀.deeper (envOf name scope L' a cd)).mark (some (.ref e))) (execs (b₀ :: suite) (envOf name scope L' a cd))
        (fun f s₄ => wpAny (model prog w) (A₀.deeper (envOf name scope L' a cd)) (do bindName (envOf name scope L' a cd) n .none; unbindBehindTheSuite (envOf name scope L' a cd) n pos) (fun _ s₅ => Q f s₅) E s₄)
        (AsSuiteRaised (model prog w) ((A₀.deeper (envOf name scope L' a cd)).mark (some (.ref e))) (envOf name scope L' a cd) n pos (notedBy (model prog w) ((A₀.deeper (envOf name scope L' a cd)).mark (some (.ref e))) (envOf name scope L' a cd) (cameBackBy (model prog w) (A₀.deeper (envOf name scope L' a cd)) (envOf name scope L' a cd) E)))
        { s' with heap := h₇, toks := tk })
    (hk : scope.kind = .function := by rfl) (hlo : (envOf name scope L' a cd).kindOf n = some .local := by rfl) (hx : (envOf name scope L' a cd).kindOf x = some .globalImplicit := by rfl) (hd : (x == ("__debug__" : Str)) = false := by decide) :
    wpAny (model prog w) (A₀.deeper (envOf name scope L' a cd)) (noteFrame (.ref e) (envOf name scope L' a cd))
      (fun _ s₂ => wpAny (model prog w) (A₀.deeper (envOf name scope L' a cd)) (setFlight (.ref e) none) (fun _ s₃ =>
        wpAny (model prog w) (A₀.deeper (envOf name scope L' a cd)) (handleBy (.ref e) (envOf name scope L' a cd) (.ExceptHandler (some (.Name x np)) (some n) (b₀ :: suite) pos :: rest)) Q E s₃) E s₂) E s' := by
  refine x_note hfr rfl x9 fun h₄ x₄ u₄ => ?_
  refine x_lands (s := { s' with heap := h₄ }) x₄ fun h₅ x₅ u₅ => ?_
  have F₅ := F.of_stays (fun b o q => x₅.stays b o (hB b o q)) (u₄.trans u₅)
  obtain ⟨ob, vs, T₀, oT, ts, hob, ⟨hobc, _⟩, _⟩ := x₅.tr
  obtain ⟨nm, q, bs, sn, sub, ab, col, dd, k0, k1, k2, k3, k5, mN, hC, -⟩ := cls31 (X.keeps F₅.keep)
  refine wpAny_handleBy_cons (codeAny_handlers_test (name_K F₅ X T ex ?_ hk hx hd)) (by intro q; cases q)
  refine wpAny_excMatches_sub_self hC hob hobc (by decide +kernel) (codeAny_handlers_suite_as ?_)
  refine x_lands (s := { s' with heap := h₅ }) x₅ fun h₆ x₆ u₆ => ?_
  have F₆ := F.of_stays (fun b o q => x₆.stays b o (hB b o q)) ((u₄.trans u₅).trans u₆)
  refine wpAny_storeName_local hlo F₆.ns (fun h₇ hn hs => ?_) (by show (scope.kind == .class || (scope.kind == .module && L' != mainGlobals)) = false; rw [hk]; rfl)
  exact k h₆ h₇ _ ((u₄.trans u₅).trans u₆) x₆ hs (F₆.set hn hs)
end
theorem ns_kind {h : Heap} {a : Addr} {o : Obj} {m : Str → Option Value} (hn : h.Ns a m) (ho : h.get? a = some o) (hk : KindIs o) (h0 : m (Str.ofString "kind") = none) : False := by
  obtain ⟨o', es, ep, q1, q2, q3, q4⟩ := hn
  obtain ⟨es', ep', t, k1, k2, k3⟩ := hk
  rw [ho] at q1
  cases q1
  rw [k1] at q2
  cases q2
  rw [q4] at k3
  rw [h0] at k3
  cases k3
theorem KindIs.ns {h : Heap} {a : Addr} {o : Obj} (ho : h.get? a = some o) (hk : KindIs o) : ∃ m t, h.Ns a m ∧ m (Str.ofString "kind") = some (.str (Str.ofString "limit") t) := by
  obtain ⟨es, ep, t, k1, k2, k3⟩ := hk
  exact ⟨_, t, ⟨o, es, ep, ho, k1, k2, fun _ => rfl⟩, k3⟩

-- the plain law: what apply_rules gives is what the law builds
def within (n : Nm) : Nat → Ch → Ch
  | 0, c => c
  | k + 1, c => within n k (.call n 1 c)
def wides (k : Nat) : Nat → Ch → Ch
  | 0, c => c
  | m + 1, c => wides k m (.call .q k c)
def due0 (size apart : Nat) : Nat → Ch → Nat → Option Ch
  | 0, c, _ => some (within .r apart (.call .p 1 c))
  | m + 1, c, lv => if 120 < lv + size then none else due0 size apart m (within .q size c) (lv + size)
def sizeOf6 (i : Nat) : Nat := match i with
  | 0 => 3
  | 1 => 29
  | 2 => 39
  | 3 => 59
  | 4 => 118
  | _ => 119
abbrev cx : Ch := .sym .x
abbrev ca : Ch := .sym .a
def good0 (i apart most : Nat) : Bool :=
  let res := Ch.call .p 1 (within .q (sizeOf6 i) ca)
  let t := within .r apart (.call .p 1 cx)
  okAp .p res most t && decide (res.depth ≤ 150) && decide (ap .p res most t = due0 (sizeOf6 i) apart most cx (2 + apart)) && (due0 (sizeOf6 i) apart most cx (2 + apart)).all (fun l => decide (l.depth ≤ 400))
def due1 (wide apart most : Nat) : Option Ch := if wide = 150 ∧ 1 < most then none else some (within .r apart (.call .p 1 (wides wide (if wide = 2 then most else min most 1) cx)))
def good1 (wide apart most : Nat) : Bool :=
  let res := Ch.call .p 1 (.call .q wide ca)
  let t := within .r apart (.call .p 1 cx)
  okAp .p res most t && decide (ap .p res most t = due1 wide apart most) && (due1 wide apart most).all (fun l => decide (l.depth ≤ 400))
def good2 (sz apart most : Nat) : Bool :=
  let t := within .r apart (.call .p 1 (within .q sz cx))
  okAp .q ca most t && decide (ap .q ca most t = some (within .r apart (.call .p 1 (within .q (sz - most) cx)))) && decide ((within .r apart (.call .p 1 (within .q (sz - most) cx))).depth ≤ 400)
theorem all0 : ((List.range 6).all fun i => (List.range 3).all fun apart => (List.range 5).all fun most => good0 i apart most) = true := by decide +kernel
theorem all1 : ([2, 150].all fun wide => (List.range 3).all fun apart => (List.range 4).all fun most => good1 wide apart most) = true := by decide +kernel
theorem all2 : ((List.range 7).all fun sz => (List.range 3).all fun apart => (List.range 5).all fun most => good2 sz apart most) = true := by decide +kernel
/-- what the call of _law_told asks, and what it gives -/
def Told (P : Nm) (res c : Ch) (m : Nat) (due : Option Ch) : Prop := okAp P res m c = true ∧ res.depth ≤ 150 ∧ m ≤ 10 ∧ ap P res m c = due ∧ ∀ l, due = some l → l.depth ≤ 400
theorem told0 {i apart most : Nat} (hi : i < 6) (ha : apart < 3) (hm : most < 5) : Told .p (.call .p 1 (within .q (sizeOf6 i) ca)) (within .r apart (.call .p 1 cx)) most (due0 (sizeOf6 i) apart most cx (2 + apart)) := by
  have h := List.all_eq_true.mp (List.all_eq_true.mp (List.all_eq_true.mp all0 i (List.mem_range.mpr hi)) apart (List.mem_range.mpr ha)) most (List.mem_range.mpr hm)
  simp only [good0, Bool.and_eq_true, decide_eq_true_eq] at h
  refine ⟨h.1.1.1, h.1.1.2, by omega, h.1.2, fun l e => ?_⟩
  have := h.2
  rw [e] at this
  exact of_decide_eq_true this
theorem told1 {wide apart most : Nat} (hi : wide = 2 ∨ wide = 150) (ha : apart < 3) (hm : most < 4) : Told .p (.call .p 1 (.call .q wide ca)) (within .r apart (.call .p 1 cx)) most (due1 wide apart most) := by
  have h := List.all_eq_true.mp (List.all_eq_true.mp (List.all_eq_true.mp all1 wide (by rcases hi with rfl | rfl <;> simp)) apart (List.mem_range.mpr ha)) most (List.mem_range.mpr hm)
  simp only [good1, Bool.and_eq_true, decide_eq_true_eq] at h
  refine ⟨h.1.1, by simp [Ch.depth], by omega, h.1.2, fun l e => ?_⟩
  have := h.2
  rw [e] at this
  exact of_decide_eq_true this
theorem told1a {apart most : Nat} (ha : apart < 3) (hm : most < 4) : Told .p (.call .p 1 (.call .q 2 ca)) (within .r apart (.call .p 1 cx)) most (some (within .r apart (.call .p 1 (wides 2 most cx)))) := told1 (.inl rfl) ha hm
theorem told1b {apart most : Nat} (ha : apart < 3) (hm : most < 4) (h : 1 < most) : Told .p (.call .p 1 (.call .q 150 ca)) (within .r apart (.call .p 1 cx)) most none := by
  have := told1 (wide := 150) (.inr rfl) ha hm
  rwa [due1, if_pos ⟨rfl, h⟩] at this
theorem told1c {apart most : Nat} (ha : apart < 3) (hm : most < 4) (h : ¬ 1 < most) : Told .p (.call .p 1 (.call .q 150 ca)) (within .r apart (.call .p 1 cx)) most (some (within .r apart (.call .p 1 (wides 150 most cx)))) := by
  have := told1 (wide := 150) (.inr rfl) ha hm
  rwa [due1, if_neg (fun x => h x.2), if_neg (by decide), Nat.min_eq_left (by omega)] at this
theorem told2 {sz apart most : Nat} (hi : sz < 7) (ha : apart < 3) (hm : most < 5) : Told .q ca (within .r apart (.call .p 1 (within .q sz cx))) most (some (within .r apart (.call .p 1 (within .q (sz - most) cx)))) := by
  have h := List.all_eq_true.mp (List.all_eq_true.mp (List.all_eq_true.mp all2 sz (List.mem_range.mpr hi)) apart (List.mem_range.mpr ha)) most (List.mem_range.mpr hm)
  simp only [good2, Bool.and_eq_true, decide_eq_true_eq] at h
  exact ⟨h.1.1, by simp [Ch.depth], by omega, h.1.2, fun l e => by cases e; exact h.2⟩
theorem sizeOf6_le (i : Nat) : 3 ≤ sizeOf6 i ∧ sizeOf6 i ≤ 119 := by
  unfold sizeOf6
  split <;> omega
theorem told1A {wide apart m : Nat} (hw : wide = 2) (ha : apart < 3) (hm : m < 4) : Told .p (.call .p 1 (.call .q wide ca)) (within .r apart (.call .p 1 cx)) m (some (within .r apart (.call .p 1 (wides wide m cx)))) := by subst hw; exact told1a ha hm
theorem told1B {wide apart m : Nat} (hw : wide = 150) (ha : apart < 3) (hm : m < 4) (h : 1 < m) : Told .p (.call .p 1 (.call .q wide ca)) (within .r apart (.call .p 1 cx)) m none := by subst hw; exact told1b ha hm h
theorem told1C {wide apart m : Nat} (hw : wide = 150) (ha : apart < 3) (hm : m < 4) (h : ¬ 1 < m) : Told .p (.call .p 1 (.call .q wide ca)) (within .r apart (.call .p 1 cx)) m (some (within .r apart (.call .p 1 (wides wide m cx)))) := by subst hw; exact told1c ha hm h
theorem told0D {i apart m : Nat} {D : Option Ch} (hR : due0 (sizeOf6 i) apart m cx (2 + apart) = D) (hi : i < 6) (ha : apart < 3) (hm : m < 5) : Told .p (.call .p 1 (within .q (sizeOf6 i) ca)) (within .r apart (.call .p 1 cx)) m D := hR ▸ told0 hi ha hm
theorem due_cases {sz ap k lv : Nat} {c : Ch} {R : Option Ch} (h : due0 sz ap (k + 1) c lv = R) : (120 < lv + sz ∧ R = none) ∨ (¬ 120 < lv + sz ∧ due0 sz ap k (within .q sz c) (lv + sz) = R) := by
  rw [due0] at h
  split at h
  · exact .inl ⟨by assumption, h.symm⟩
  · exact .inr ⟨by assumption, h⟩

-- a loop over range whose turns change one name, a chain
def LpInv (X : Str) (f : Nat → Ch → Ch) (R : Ch) (I : Addr) (m0 : Str → Option Value) (led0 : Led) (k : Nat) (m : Str → Option Value) (nw : Led) : Prop :=
  ∃ (v : Value) (c : Ch) (s' : Option Value) (tl : Led), m = (fun y => if y = X then some v else if y = Str.ofString "turn" then s' else m0 y) ∧ nw = led0 ++ tl ∧ Apart led0 tl ∧ (∀ q ∈ tl, @Ne Nat q.1 I) ∧ TmIn (led0 ++ tl) v c ∧ f k c = R
theorem LpInv.close {h₀ h' : Heap} {L : Addr} {s₁ : Shared} {it : Obj} {tk : Nat} {X : Str} {f : Nat → Ch → Ch} {c R : Ch} {I : Addr} {m0 m : Str → Option Value} {led0 tl nl all : Led} {k : Nat} {v : Value} {v' s1 s'' : Option Value} (F : Fr h₀ L h' m) (N : News h₀ L h' all)
    (e : m = fun y => if y = X then some v else if y = Str.ofString "turn" then s1 else if y = X then v' else if y = Str.ofString "turn" then s'' else m0 y) (hI : (I, it) ∈ all) (ha : ∀ p ∈ led0 ++ (tl ++ nl), p ∈ all) (h1 : Apart led0 tl) (o1 : ∀ q ∈ tl, @Ne Nat q.1 I) (h2 : Apart led0 nl) (o2 : ∀ q ∈ nl, @Ne Nat q.1 I)
    (t : TmIn (led0 ++ (tl ++ nl)) v c) (hw : f k c = R) (l0 : ∀ p ∈ led0, p.1 < I) : UnrEnd h₀ L s₁ I it (LpInv X f R I m0 led0 k) { s₁ with heap := h', toks := tk } := by
  refine UnrEnd.intro F N (led0 ++ (tl ++ nl)) (fun p hp => ?_) (fun p hp => ?_) ⟨v, c, s1, tl ++ nl, e.trans (funext fun y => ?_), rfl, fun q hq p hp => ?_, fun q hq => ?_, t, hw⟩
  · rcases List.mem_cons.mp hp with rfl | hp
    · exact hI
    · exact ha p hp
  · rcases List.mem_append.mp hp with hp | hp
    · exact Nat.ne_of_lt (l0 p hp)
    · rcases List.mem_append.mp hp with hp | hp
      · exact o1 p hp
      · exact o2 p hp
  · by_cases e1 : y = X
    · simp only [e1, if_true]
    · by_cases e3 : y = Str.ofString "turn"
      · simp only [if_neg e1, if_pos e3]
      · simp only [if_neg e1, if_neg e3]
  · rcases List.mem_append.mp hp with hp | hp
    · exact h1 q hq p hp
    · exact h2 q hq p hp
  · rcases List.mem_append.mp hq with hq | hq
    · exact o1 q hq
    · exact o2 q hq
theorem LpInv.close2 {h₀ h' : Heap} {L : Addr} {s₁ : Shared} {it o1 o2 : Obj} {tk : Nat} {X : Str} {f : Nat → Ch → Ch} {c R : Ch} {I T1 T2 : Addr} {m0 m : Str → Option Value} {led0 tl : Led} {k : Nat} {v : Value} {v' s1 s'' : Option Value} (F : Fr h₀ L h' m) (N : News h₀ L h' ((T2, o2) :: (T1, o1) :: (I, it) :: (led0 ++ tl)))
    (e : m = fun y => if y = X then some v else if y = Str.ofString "turn" then s1 else if y = X then v' else if y = Str.ofString "turn" then s'' else m0 y) (h1 : Apart led0 tl) (g1 : ∀ q ∈ tl, @Ne Nat q.1 I)
    (t : TmIn ((T2, o2) :: (T1, o1) :: (led0 ++ tl)) v c) (hw : f k c = R) (l1 : I < T1 ∧ AllLt T1 (led0 ++ tl)) (l2 : T1 < T2 ∧ I < T2 ∧ AllLt T2 (led0 ++ tl)) (l0 : ∀ p ∈ led0, p.1 < I) : UnrEnd h₀ L s₁ I it (LpInv X f R I m0 led0 k) { s₁ with heap := h', toks := tk } := by
  refine LpInv.close (nl := [(T2, o2), (T1, o1)]) F N e (by simp) (fun p hp => ?_) h1 g1 (fun q hq p hp => ?_) (fun p hp => ?_) (t.mono fun p hp => ?_) hw l0
  · simp only [List.mem_cons, List.mem_append, List.not_mem_nil, or_false] at hp ⊢
    rcases hp with h | h | h | h <;> simp only [h, true_or, or_true]
  · rcases List.mem_cons.mp hp with rfl | hp
    · exact ne_of_allLt l2.2.2 q (List.mem_append_left _ hq)
    · rw [List.mem_singleton.mp hp]; exact ne_of_allLt l1.2 q (List.mem_append_left _ hq)
  · rcases List.mem_cons.mp hp with rfl | hp
    · exact Nat.ne_of_gt l2.2.1
    · rw [List.mem_singleton.mp hp]; exact Nat.ne_of_gt l1.1
  · simp only [List.mem_cons, List.mem_append, List.not_mem_nil, or_false] at hp ⊢
    rcases hp with h | h | h | h <;> simp only [h, true_or, or_true]
theorem LpInv.close3 {h₀ h' : Heap} {L : Addr} {s₁ : Shared} {it o1 o2 o3 : Obj} {tk : Nat} {X : Str} {f : Nat → Ch → Ch} {c R : Ch} {I T1 T2 T3 : Addr} {m0 m : Str → Option Value} {led0 tl : Led} {k : Nat} {v : Value} {v' s1 s'' : Option Value} (F : Fr h₀ L h' m) (N : News h₀ L h' ((T3, o3) :: (T2, o2) :: (T1, o1) :: (I, it) :: (led0 ++ tl)))
    (e : m = fun y => if y = X then some v else if y = Str.ofString "turn" then s1 else if y = X then v' else if y = Str.ofString "turn" then s'' else m0 y) (h1 : Apart led0 tl) (g1 : ∀ q ∈ tl, @Ne Nat q.1 I)
    (t : TmIn ((T3, o3) :: (T2, o2) :: (T1, o1) :: (led0 ++ tl)) v c) (hw : f k c = R) (l1 : I < T1 ∧ AllLt T1 (led0 ++ tl)) (l2 : T1 < T2 ∧ I < T2 ∧ AllLt T2 (led0 ++ tl)) (l3 : T2 < T3 ∧ T1 < T3 ∧ I < T3 ∧ AllLt T3 (led0 ++ tl)) (l0 : ∀ p ∈ led0, p.1 < I) : UnrEnd h₀ L s₁ I it (LpInv X f R I m0 led0 k) { s₁ with heap := h', toks := tk } := by
  refine LpInv.close (nl := [(T3, o3), (T2, o2), (T1, o1)]) F N e (by simp) (fun p hp => ?_) h1 g1 (fun q hq p hp => ?_) (fun p hp => ?_) (t.mono fun p hp => ?_) hw l0
  · simp only [List.mem_cons, List.mem_append, List.not_mem_nil, or_false] at hp ⊢
    rcases hp with h | h | h | h | h <;> simp only [h, true_or, or_true]
  · rcases List.mem_cons.mp hp with rfl | hp
    · exact ne_of_allLt l3.2.2.2 q (List.mem_append_left _ hq)
    · rcases List.mem_cons.mp hp with rfl | hp
      · exact ne_of_allLt l2.2.2 q (List.mem_append_left _ hq)
      · rw [List.mem_singleton.mp hp]; exact ne_of_allLt l1.2 q (List.mem_append_left _ hq)
  · rcases List.mem_cons.mp hp with rfl | hp
    · exact Nat.ne_of_gt l3.2.2.1
    · rcases List.mem_cons.mp hp with rfl | hp
      · exact Nat.ne_of_gt l2.2.1
      · rw [List.mem_singleton.mp hp]; exact Nat.ne_of_gt l1.1
  · simp only [List.mem_cons, List.mem_append, List.not_mem_nil, or_false] at hp ⊢
    rcases hp with h | h | h | h | h <;> simp only [h, true_or, or_true]
section
variable {prog : Program} {w : World} {A : Around} {E : Value → Shared → Prop} {Q : Flow → Shared → Prop} {s : Shared} {env : Env} {h₀ : Heap} {body : List Stmt}
def LTurn (prog : Program) (w : World) (A : Around) (E : Value → Shared → Prop) (h₀ : Heap) (env : Env) (body : List Stmt) (Q : Flow → Shared → Prop) (s : Shared) (I : Addr) (N : Nat) (X : Str) (f : Nat → Ch → Ch) (R : Ch) (m0 : Str → Option Value) (led0 : Led) : Prop :=
  ∀ (k i : Nat) (v : Value) (c : Ch) (s' : Option Value) (tl : Led), i + (k + 1) = N → Apart led0 tl → (∀ q ∈ tl, @Ne Nat q.1 I) → TmIn (led0 ++ tl) v c → f (k + 1) c = R → ∀ t h tk, Fr h₀ env.locals h (fun y => if y = Str.ofString "turn" then some (.int (0 + (i : Int)) t) else if y = X then some v else if y = Str.ofString "turn" then s' else m0 y) →
    News h₀ env.locals h ((I, itR (0 + ((i + 1 : Nat) : Int)) ((N : Int) - ((i + 1 : Nat) : Int))) :: (led0 ++ tl)) →
    wpAny (model prog w) A (execs body env) (UnrPost h₀ env.locals { s with heap := h, toks := tk } I (itR (0 + ((i + 1 : Nat) : Int)) ((N : Int) - ((i + 1 : Nat) : Int))) (LpInv X f R I m0 led0 k) Q) E { s with heap := h, toks := tk }
def LFin (h₀ : Heap) (env : Env) (Q : Flow → Shared → Prop) (s : Shared) (X : Str) (R : Ch) (m0 : Str → Option Value) (led0 : Led) : Prop :=
  ∀ (v : Value) (s' : Option Value) (tl : Led), Apart led0 tl → TmIn (led0 ++ tl) v R → ∀ h tk, Fr h₀ env.locals h (fun y => if y = X then some v else if y = Str.ofString "turn" then s' else m0 y) → News h₀ env.locals h (led0 ++ tl) → Q .next { s with heap := h, toks := tk }
theorem lp_loop {X : Str} (f : Nat → Ch → Ch) (f0 : ∀ c, f 0 c = c) {I : Addr} {N : Nat} {c : Ch} {v : Value} {m0 : Str → Option Value} {led0 : Led} (hm : m0 X = some v) (tm : TmIn led0 v c)
    (turn : LTurn prog w A E h₀ env body Q s I N X f (f N c) m0 led0) (fin : LFin h₀ env Q s X (f N c) m0 led0) : RangeRest prog w A E h₀ env (Str.ofString "turn") body Q s I 0 N N 0 m0 led0 := by
  refine range_all (LpInv X f (f N c) I m0 led0) (fun k i m nw hi hI t h tk F N => ?_) (fun m nw hI h tk F N => ?_) N 0 m0 led0 (Nat.zero_add _) ⟨v, c, m0 (Str.ofString "turn"), [], funext fun y => ?_, (List.append_nil _).symm, Apart.nil, (fun _ h => nomatch h), (by rw [List.append_nil]; exact tm), rfl⟩
  · obtain ⟨v', c', s', tl, rfl, rfl, h1, h2, h3, h4⟩ := hI
    exact turn k i v' c' s' tl hi h1 h2 h3 h4 t h tk F N
  · obtain ⟨v', c', s', tl, rfl, rfl, h1, h2, h3, h4⟩ := hI
    rw [f0] at h4
    exact fin v' s' tl h1 (h4 ▸ h3) h tk F N
  · by_cases e2 : y = X
    · rw [if_pos e2, e2, hm]
    · by_cases e3 : y = Str.ofString "turn"
      · rw [if_neg e2, if_pos e3, e3]
      · rw [if_neg e2, if_neg e3]
end
theorem ne1 {T : Addr} {o : Obj} {l : Led} (h : AllLt T l) : Apart l [(T, o)] := fun q hq p hp => by rw [List.mem_singleton.mp hp]; exact ne_of_allLt h q hq
theorem rng_sizeI {b : Int} (h : 0 ≤ b) : Builtin.Range.rangeSize 0 b 1 = ((b.toNat : Nat) : Int) := by
  obtain ⟨m, rfl⟩ := Int.eq_ofNat_of_zero_le h
  exact rng_size m
theorem rng_smallI {b : Int} (h : 0 ≤ b ∧ b ≤ 1000) : Builtin.Range.small 0 b 1 = true := by
  obtain ⟨m, rfl⟩ := Int.eq_ofNat_of_zero_le h.1
  exact rng_small (by omega)

def TdOut (led : Led) (r : Value) (o : Option Ch) : Prop := match o with
  | some l => TmIn led r l
  | none => ∃ t, r = .str (Str.ofString "limit") t
abbrev tdT : Con ApD where
  Rel := ApRel
  dep := fun _ => 510
  Out := fun led r d => TdOut led r (ap d.P d.res d.m d.c)
/-- the end behind a catch: the caller's frame and ledger stand -/
def RetU (h₀ : Heap) (L : Addr) (m : Str → Option Value) (news : Led) (s : Shared) (Out : Led → Value → Prop) (Q : Value → Shared → Prop) : Prop :=
  ∀ r tl h' tk', Fr h₀ L h' m → News h₀ L h' (news ++ tl) → Apart news tl → Out (news ++ tl) r → Q r { s with heap := h', toks := tk' }
/-- a call from the law's own frame -/
def Tells3 {D : Type} (prog : Program) (w : World) (K : Frag) (p : Program) (loose : List Str) (mean : ExcName → Option Value) (mg mb : Str → Option Value) (f : Addr) (c : Con D) (d : D) : Prop :=
  ∀ (dp un : Nat) (gd : Option (List Code)) (cn : Str) (cs : Scope) (a : Addr) (ccd : Value) (cl : List (Str × Addr)) (A₀ : Around) (base h₀ : Heap) (L : Addr) (m : Str → Option Value) (news : Led) (s : Shared) (vs : List Value)
    (Q E : Value → Shared → Prop),
    Below A₀ base [] h₀ → Fr h₀ L s.heap m → K.In h₀ → News h₀ L s.heap news → Top p loose mean mg mb h₀ → cs.kind = .function → c.Rel news vs d → dp + c.dep d < recursionLimit → un + 10 * c.dep d < cLine →
    RetU h₀ L m news s (fun led r => c.Out led r d) Q →
    wpAny (model prog w) (ktrTop dp un gd cn cs L a ccd cl []) (call (.ref f) vs) Q E s
noncomputable abbrev Tell3 {D : Type} (w : World) (mean : ExcName → Option Value) (mg mb : Str → Option Value) (f : Addr) (c : Con D) : Prop :=
  ∀ d, Tells3 PySem.Challenge.rw_rh0041_02.row.prog w (Mine.part w.params) Mine.view (looseW Mine.view [Str.ofString "RANKS", Str.ofString "EXP_ONE", Str.ofString "MOST_FACTORED"]) mean mg mb f c d
section
variable {prog : Program} {w : World} {A A₀ : Around} {s : Shared} {env : Env} {outer : List Env} {base h₀ : Heap} {L : Addr} {m : Str → Option Value} {news : Led}
/-- into a def's frame; its end is the caller's own word -/
theorem enterU {K : Frag} {p : Program} {loose : List Str} {mean : ExcName → Option Value} {mg mb : Str → Option Value} {R : Result → Shared → Prop} {name qual : Str} {params : Arguments} {body : List Stmt} {scope : Scope} {dV kV doc pm cdv ct oc : Value} {an od : Option Addr} {osl : Array (Option Value)} {f : Addr} {args : Args} {binds : List (Str × Value)}
    (B : Below A₀ base outer h₀) (F : Fr h₀ L s.heap m) (X₀ : K.In h₀) (N : News h₀ L s.heap news) (T : Top p loose mean mg mb h₀) (hA : A.frames = some (env :: outer)) (hf : env.frame = some L) (hke : env.scope.kind = .function)
    (ho : K.lookup f = some ⟨oc, od, .func (fnOf name qual params body scope dV kV doc pm an cdv ct), osl⟩) (hcd : codeIn K cdv qual = true) (hroom : A.depth < recursionLimit)
    (hbind : BindsTo s (fnOf name qual params body scope dV kV doc pm an cdv ct) args binds) (hloc : ∀ y ∈ binds, scope.names.lookup y.1 = some .local)
    (h : ∀ g L' h₁, Fr h₀ L g m → Fr g L' h₁ (fun y => binds.reverse.lookup y) → News g L' h₁ news → Below A base (env :: outer) g → K.In g → Top p loose mean mg mb g → GSub s.heap g (news.map (·.1)) →
      wpAny (model prog w) (A.deeper (envOf qual scope L' f cdv)) (execs body (envOf qual scope L' f cdv))
        (fun fl s' => R (.ok (.ret (match fl with | .ret v => v | _ => .none))) s')
        (fun e s' => wpAny (model prog w) (A.deeper (envOf qual scope L' f cdv)) (leaving (envOf qual scope L' f cdv) e) (fun _ s'' => R (.error e) s'') (fun e' s'' => R (.error e') s'') s')
        { s with heap := h₁, toks := s.toks + binds.length })
    (hco : scope.isCoroutine = false) (hgen : scope.isGenerator = false) (hk : scope.kind = .function) (hcell : ∀ x ∈ scope.names, x.2 ≠ .cell) : codeAny (model prog w) A (.call (.ref f) args) R s := by
  obtain ⟨FG, BG, st, _⟩ := groundX (R := R) B F N hA hf hke
  refine codeAny_call_def (fd := fnX name qual params body scope [] dV kV doc pm an cdv ct) (body := body) (binds := binds) hroom ((X₀.keeps F.keep) _ _ ho) rfl (T.nolimit.keeps F.keep) (codeRec_of (X₀.keeps F.keep) hcd) rfl hbind hcell hloc (fun h₁ hns hk₁ => ?_) hco hgen hk
  have led := hidden_news (cells := []) N hk₁ fun _ hp => nomatch hp
  exact h _ _ h₁ FG ⟨hns, fun b o e => hk₁ b o (of_hideAll _ e), Nat.le_of_eq (hideAll_size _ _)⟩ led BG (X₀.keeps st) (T.keeps st) fun b o e n => hideAll_get _ e n
end
theorem kn_of {h₀ g h' : Heap} {L L' : Addr} {m : Str → Option Value} {l : Led} (FG : Fr h₀ L g m) (N' : News g L' h' l) : News h₀ L h' l := fun p hp => by
  have z := N' p hp
  refine ⟨z.1, fun e => ?_, ?_⟩
  · obtain ⟨o, _, _, q, _⟩ := FG.ns
    rw [e] at z
    rw [show g.get? L = some o from q] at z
    cases z.2.2
  · cases q : h₀.get? p.1 with
    | none => rfl
    | some o => have := FG.keep _ _ q; rw [z.2.2] at this; cases this
theorem rows32 : True := by
  k_with "mine enterU" => ((refine' Mine.enterU (by k_asm) (by k_asm) (by k_asm) (by k_asm) (by k_asm) (by exact rfl) (by exact rfl) (by assumption) (by k_is) (by k_is) (by walk_at "mine room") (by exact BindsTo.of_eq rfl) (by exact locs rfl) ?_ (by exact rfl) (by exact rfl) (by exact rfl) (by decide); k_whole; intro g' L' h' FG' F' N' B' X' T' kG'; (try dsimp only); (try k_fold)))
  trivial
theorem td_ok (w : World) (mean : ExcName → Option Value) (mg mb : Str → Option Value) : Tell3 w mean mg mb 478 tdT := by
  intro d
  unfold Tells3
  intro dp un gd cn cs a ccd cl A₀ base h₀ L m news s vs Q E B F X N T hk hR hd hu hretU
  cases hR with
  | @mk vt vr tk0 P res c mm ht hr hok hrd hmm =>
    dsimp only [tdT] at hd hu hretU
    have hret : Ret h₀ L news s (fun led r => TdOut led r (ap P res mm c)) Q := fun r tl h' tk' k9 f9 N9 o9 => hretU r tl h' tk' (F.keeps k9) N9 (apart_fresh N f9) o9
    cases hap : ap P res mm c with
    | some l =>
      have hbi : (ap P res mm c).isNone = false := by rw [hap]; rfl
      refine wpAny_call ?_
      k_dflt (walk_at "mine enterU")
      k_steps
      show Q r9 { s with heap := _, toks := _ }
      refine Mine.fin hret N kG' F9 N9 (kn_of FG' N9) (by walk_at "mine front") ?_
      intro n' hs
      show TdOut _ _ (ap P res mm c)
      rw [hap]
      exact (o9 l hap).mono hs
    | none =>
      have hbi : (ap P res mm c).isNone = true := by rw [hap]; rfl
      refine wpAny_call ?_
      k_dflt (walk_at "mine enterU")
      k_steps
      have u := x_up N kG' u9 F' N' fun p hp => hp
      have hL : h₀.objs.size ≤ L' := by
        obtain ⟨o, _, _, q, _⟩ := FG'.ns
        exact Nat.le_trans FG'.above (Nat.le_trans (Nat.le_of_lt (Heap.lt_size q)) F'.above)
      have hsub := fun b o q => x9.stays b o (bare_less rfl u.keeps u.fresh b o q)
      have hB : ∀ b o, h₀.get? b = some o → (bare s.heap [envX cn cs L a ccd cl]).get? b = some o := fun b o q => hideAll_get _ (F.keep b o q) fun hm => by
        rcases List.mem_cons.mp hm with rfl | hm
        · exact absurd (Heap.lt_size q) (Nat.not_lt.mpr F.above)
        · cases hm
      have hN : ∀ p ∈ news, (bare s.heap [envX cn cs L a ccd cl]).get? p.1 = some p.2 := fun p hp => hideAll_get _ (N p hp).1 fun hm => by
        rcases List.mem_cons.mp hm with e | hm
        · exact (N p hp).2.1 e
        · cases hm
      have F0 : Fr h₀ L' h' _ := ⟨F'.ns, fun b o q => u.keeps b o (F.keep b o q), hL⟩
      have F1 := F0.of_stays (fun b o q => hsub b o (hB b o q)) u9
      have hLL : L ≠ L' := fun e => by
        obtain ⟨o, _, _, q, _⟩ := F.ns
        rw [e, u.fresh] at q
        cases q
      refine caught_X (x9 := x9) rfl (fun b o q => bare_less rfl u.keeps u.fresh b o (hB b o q)) F1 X (topRead_of T) (by k_is) ?_
      intro h6 h7 tk7 u6 x6 s7 F7
      obtain ⟨oe, vs, T0, oT, ts, hoe, ⟨hc, hdt⟩, hd0, -⟩ := x6.tr
      obtain ⟨sl, hD6⟩ := u6 D9 od9 d9 k9.not_fields
      have k6 : KindIs { od9 with slots := sl } := k9.slots
      have hDL : D9 ≠ L' := fun e => ns_kind F1.ns (e ▸ d9) k9 (by rfl)
      have heL : e9 ≠ L' := fun e => by
        obtain ⟨o, es, ep, q, q2, _⟩ := F1.ns
        obtain ⟨sl2, q3⟩ := u6 L' o q fun _ z => by rw [q2] at z; cases z
        rw [← e, hoe] at q3
        cases q3
        rw [show o.data = _ from q2] at hd0
        cases hd0
      have he7 := (s7.2 _ heL).trans hoe
      have hD7 := (s7.2 _ hDL).trans hD6
      obtain ⟨mD, tD, nD, hkD⟩ := k6.ns hD7
      obtain ⟨nm, q, bs, sn, sub, ab, col, dd, k0, k1, k2, k3, k5, mN, hC, hn, -, -, nk, -, ng, nh⟩ := cls31 (X.keeps F7.keep)
      refine wpAny_execs_cons (wpAny_Return_some (Attribute_name (ld F7 rfl ?_)))
      refine kind_get hC hn ng nh nk no_kind he7 hc hdt (fun c e => by rw [hd0] at e; cases e) nD hkD rfl ?_
      refine wpAny_nameGoes rfl F7.ns rfl fun h8 m8 n8 s8 => ?_
      have s78 := s7.trans s8
      have kp : ∀ b o, (bare s.heap [envX cn cs L a ccd cl]).get? b = some o → h8.get? b = some o := fun b o q => by
        refine (s78.2 b fun e => ?_).trans (x6.stays b o (bare_less rfl u.keeps u.fresh b o q))
        have := of_hideAll _ q
        rw [e, u.fresh] at this
        cases this
      have n0 : h8.Ns L m := ((u6.ns (u9.ns (F.ns.keeps u.keeps))).sameBut s7 hLL).sameBut s8 hLL
      show Q (.str (Str.ofString "limit") tD) { s with heap := h8, toks := _ }
      refine hretU _ [] h8 _ ⟨n0, fun b o q => kp b o (hB b o q), F.above⟩ (fun p hp => ?_) Apart.nil ?_
      · rw [List.append_nil] at hp
        exact ⟨kp _ _ (hN p hp), (N p hp).2⟩
      · show TdOut _ _ (ap P res mm c)
        rw [hap]
        exact ⟨tD, rfl⟩
def TdEnd (led : Led) (r : Value) (due : Option Ch) : Prop := TdOut led r due ∧ ∀ l, due = some l → l.depth ≤ 400
theorem td_use {w : World} {mean : ExcName → Option Value} {mg mb : Str → Option Value} {dp un : Nat} {gd : Option (List Code)} {cn : Str} {cs : Scope} {a : Addr} {ccd : Value} {cl : List (Str × Addr)} {A₀ : Around} {base h₀ : Heap} {L : Addr} {m : Str → Option Value} {news : Led} {s : Shared} {vt vr : Value} {x : Int} {tk0 : Tok} {P : Nm} {res c : Ch} {mm : Nat} {due : Option Ch}
    {Q E : Value → Shared → Prop} (B : Below A₀ base [] h₀) (F : Fr h₀ L s.heap m) (X : (Mine.part w.params).In h₀) (T : Top Mine.view (looseW Mine.view [Str.ofString "RANKS", Str.ofString "EXP_ONE", Str.ofString "MOST_FACTORED"]) mean mg mb h₀) (N : News h₀ L s.heap news) (hk : cs.kind = .function)
    (ht : TmIn news vt c) (hr : RuIn news vr P res) (hx : x = (mm : Int)) (good : Told P res c mm due) (hd : dp + 510 < recursionLimit) (hu : un + 5100 < cLine)
    (ret : ∀ r tl h' tk', Fr h₀ L h' m → News h₀ L h' (news ++ tl) → TdEnd (news ++ tl) r due → Q r { s with heap := h', toks := tk' }) :
    wpAny (model PySem.Challenge.rw_rh0041_02.row.prog w) (ktrTop dp un gd cn cs L a ccd cl []) (call (.ref 478) [vt, vr, .int x tk0]) Q E s := by
  subst hx
  refine td_ok w mean mg mb ⟨P, res, c, mm⟩ _ _ _ _ _ _ _ _ _ _ _ _ _ _ _ _ _ _ B F X N T hk (.mk ht hr good.1 good.2.1 good.2.2.1) hd hu fun r tl h' tk' F9 N9 _ o9 => ret r tl h' tk' F9 N9 ?_
  have : TdOut (news ++ tl) r (ap P res mm c) := o9
  rw [good.2.2.2.1] at this
  exact ⟨this, good.2.2.2.2⟩
theorem td_none {led : Led} {r : Value} (h : TdEnd led r none) : ∃ t, r = .str (Str.ofString "limit") t := h.1
theorem td_some {led : Led} {r : Value} {l : Ch} (h : TdEnd led r (some l)) : ∃ a, r = .ref a ∧ TmIn led (.ref a) l ∧ l.depth ≤ 400 := by
  have h1 : TmIn led r l := h.1
  have h2 := h.2 l rfl
  cases h1 with
  | sym x => exact ⟨_, rfl, .sym x, h2⟩
  | call x y z u => exact ⟨_, rfl, .call x y z u, h2⟩

theorem rows33 : True := by
  k_with "call ref cons nil" => ((k_here; (with_reducible show wpAny _ _ (call (Value.ref 478) _) _ _ _); k_dflt (refine' Mine.td_use (by k_asm) (by k_asm) (by k_asm) (by k_asm) (by k_asm) (by first | assumption | exact rfl) (by walk_at "mine lt") (by walk_at "mine lr") (by walk_at "mine lx") (by walk_at "mine told") (by walk_at "mine room") (by walk_at "mine units") ?_; k_whole; intro r9 tl9 h9 tk9 F9 N9 o9; (first | (obtain ⟨t8, e8⟩ := Mine.td_none o9; subst e8) | (obtain ⟨b8, e8, ht8, hd8⟩ := Mine.td_some o9; subst e8; (try simp only [List.cons_append, List.nil_append] at N9 ht8))); (try simp only [List.cons_append, List.nil_append] at N9); (try dsimp only))))
  trivial
-- _law_within 471
structure WiD where
  n : Nm
  k : Nat
  c : Ch
inductive WiRel (led : Led) : List Value → WiD → Prop where
  | mk {v : Value} {x : Int} {t1 t2 : Tok} {n : Nm} {k : Nat} {c : Ch} : TmIn led v c → x = (k : Int) → k ≤ 200 → WiRel led [.str n.str t1, .int x t2, v] ⟨n, k, c⟩
abbrev wiT : Con WiD where
  Rel := WiRel
  dep := fun _ => 2
  Out := fun led r d => TmIn led r (within d.n d.k d.c)
theorem rows34 : True := by
  k_with "pyIter ref" => ((k_here; (with_reducible show wpAny _ _ (pyIter (Value.ref _)) (fun it s₂ => LoopAtV _ _ _ _ _ _ _ _ _ it s₂) _ _); k_dflt (refine' iter_rangeUnr (by rfl) (by assumption) (by exact Mine.rng_small (by omega)) (by exact Mine.rng_size _) (by k_asm) (by k_asm) ?_; k_whole); intro I l1))
  trivial
theorem wi_ok (w : World) (mean : ExcName → Option Value) (mg mb : Str → Option Value) : Tell w mean mg mb 471 wiT := by
  intro d
  unfold Tells1
  intro dp un gd cn cs a ccd cl outer A₀ base h₀ L m news s vs Q E B F X N T hk hR hd hu hret
  cases hR with
  | @mk v x t1 t2 n kk c ht hx hk2 =>
    subst hx
    dsimp only [wiT] at hd hu hret
    refine wpAny_call ?_
    k_dflt (walk_at "mine enter")
    k_steps
    refine lp_loop (X := Str.ofString "t") (within n) (fun _ => rfl) rfl (by with_reducible assumption) ?_ ?_
    · intro k i v' c' s' tl hi ap1 of1 tm1 hw t h tk F1 N1
      clear hret
      k_steps
      exact LpInv.close2 (c := .call n 1 c') (by k_asm) (by k_asm) rfl ap1 of1 (TmIn.call1 mem_here (.tail _ mem_here) (tm1.mono fun p hp => .tail _ (.tail _ hp))) hw (by assumption) (by assumption) (by assumption)
    · intro v' s' tl ap1 tm1 h tk F1 N1
      k_steps
      walk_at "mine conj"
      walk_at "mine fin"
      intro n' hs
      exact tm1.mono (fun p hp => hs p (by simp only [List.mem_cons, List.mem_append] at hp ⊢; simp only [hp, true_or, or_true]))
theorem tm_ref {led : Led} {v : Value} {c : Ch} (h : TmIn led v c) : ∃ a, v = .ref a := by
  cases h with
  | sym _ => exact ⟨_, rfl⟩
  | call _ _ _ _ => exact ⟨_, rfl⟩

-- (the rows of _law_within stand in p23)
-- _law_take 464
def TkRet (h₀ : Heap) (L : Addr) (m : Str → Option Value) (many i : Nat) (S : Addr) (g : Obj → Led) (s : Shared) (Q : Value → Shared → Prop) : Prop :=
  ∀ (v eB' : Nat) (t t' : Tok) (h' : Heap) (tk' : Nat), v < many → Fr h₀ L h' m → News h₀ L h' (g (lstO [.ref S, .int ((i + 1 : Nat) : Int) t'] eB')) → Q (.int (v : Int) t) { s with heap := h', toks := tk' }
theorem tk_back {h₀ g' h' : Heap} {L L' B S : Addr} {m m' : Str → Option Value} {oB oB' oS : Obj} {news : Led} {g : Obj → Led} {H : Heap} (F : Fr h₀ L H m) (N : News h₀ L H news) (U : UpdF B oB news g) (hS : (S, oS) ∈ news) (G : GSub H g' [B, S]) (F' : Fr g' L' h' m') (N' : News g' L' h' [(B, oB'), (S, oS)]) : News h₀ L h' (g oB') := by
  obtain ⟨pre, post, rfl, hg, a, b⟩ := U.split
  have key : ∀ p ∈ pre ++ (B, oB) :: post, p.1 ≠ B → h'.get? p.1 = some p.2 := fun p hp hn => by
    by_cases e : p.1 = S
    · have h1 := (N p hp).1
      rw [e, (N _ hS).1] at h1
      rw [e, (N' _ (.tail _ (.head _))).1]
      exact h1
    · exact F'.keep _ _ (G _ _ (N p hp).1 (by simp only [List.mem_cons, List.not_mem_nil, or_false, not_or]; exact ⟨hn, e⟩))
  intro p hp
  rw [hg] at hp
  rcases List.mem_append.mp hp with hp | hp
  · have := N p (List.mem_append_left _ hp)
    exact ⟨key p (List.mem_append_left _ hp) (a p hp), this.2⟩
  · rcases List.mem_cons.mp hp with rfl | hp
    · exact ⟨(N' _ (.head _)).1, (N (B, oB) (by simp)).2⟩
    · have := N p (List.mem_append_right _ (.tail _ hp))
      exact ⟨key p (List.mem_append_right _ (.tail _ hp)) (b p hp), this.2⟩
theorem take_item {vs : List Value} {i : Nat} (hv : ∀ v ∈ vs, ∃ k t, v = .int k t) (h : (i : Int) + 1 ≤ (vs.length : Int)) : ∃ k t, vs[((i : Int) + 1 - 1).toNat]? = some (.int k t) := by
  have e : ((i : Int) + 1 - 1).toNat = i := by omega
  have hi : i < vs.length := by omega
  obtain ⟨k, t, e2⟩ := hv _ (List.getElem_mem hi)
  exact ⟨k, t, by rw [e, List.getElem?_eq_getElem hi, e2]⟩
theorem tk_fin {h₀ g' h' : Heap} {L L' B S : Addr} {m m' : Str → Option Value} {vs : List Value} {eS eB' i many tk' : Nat} {t t' : Tok} {x : Int} {g : Obj → Led} {s : Shared} {Q : Value → Shared → Prop} (hret : TkRet h₀ L m many i S g s Q)
    (hend : ∀ (g' h' : Heap) (L' : Addr) (m' : Str → Option Value) (oB' : Obj), GSub s.heap g' [B, S] → Fr g' L' h' m' → News g' L' h' [(B, oB'), (S, lstO vs eS)] → News h₀ L h' (g oB')) (G : GSub s.heap g' [B, S]) (F' : Fr g' L' h' m') (N' : News g' L' h' [(B, lstO [.ref S, .int ((i : Int) + 1) t'] eB'), (S, lstO vs eS)]) (F : Fr h₀ L h' m)
    (h1 : 0 ≤ x) (h2 : x < many) : Q (.int x t) { s with heap := h', toks := tk' } := by
  obtain ⟨v, rfl⟩ := Int.eq_ofNat_of_zero_le h1
  exact hret v eB' t t' h' tk' (by omega) F (hend _ _ _ _ _ G F' N')
theorem rows35 : True := by
  k_with "subscriptTail Subscript Name Constant BinOp ref int" => ((k_here; k_dflt ((obtain ⟨k8, t8, e8⟩ := Mine.take_item (by assumption) (by assumption)); (refine' Mine.subL (by k_asm) (by walk_at "mine memR") (by omega) (by omega) (by exact e8) ?_ (by with_unfolding_all rfl); k_whole))))
  trivial
theorem tk_ok (w : World) (mean : ExcName → Option Value) (mg mb : Str → Option Value) (dp un : Nat) (gd : Option (List Code)) (cn : Str) (cs : Scope) (a : Addr) (ccd : Value) (cl : List (Str × Addr)) (outer : List Env) (A₀ : Around) (base h₀ : Heap) (L : Addr) (m : Str → Option Value) (news : Led) (s : Shared)
    (Q E : Value → Shared → Prop) (Bx S : Addr) (eB eS : Nat) (vs : List Value) (i many : Nat) (ti tm : Tok) (g : Obj → Led) (B : Below A₀ base outer h₀) (F : Fr h₀ L s.heap m) (X : (Mine.part w.params).In h₀) (N : News h₀ L s.heap news) (T : Top Mine.view (looseW Mine.view [Str.ofString "RANKS", Str.ofString "EXP_ONE", Str.ofString "MOST_FACTORED"]) mean mg mb h₀) (hk : cs.kind = .function)
    (U : UpdF Bx (lstO [.ref S, .int (i : Int) ti] eB) news g) (hS : (S, lstO vs eS) ∈ news) (hne : @Ne Nat S Bx) (hl : vs.length ≤ 6) (hv : ∀ v ∈ vs, ∃ k t, v = .int k t) (h0 : 0 < many) (h1 : many ≤ 10) (h2 : i ≤ 10) (hd : dp + 4 < recursionLimit) (hu : un + 40 < cLine) (hret : TkRet h₀ L m many i S g s Q) :
    wpAny (model PySem.Challenge.rw_rh0041_02.row.prog w) (ktrTop dp un gd cn cs L a ccd cl outer) (call (.ref 464) [.ref Bx, .int (many : Int) tm]) Q E s := by
  have hB : (Bx, lstO [.ref S, .int (i : Int) ti] eB) ∈ news := by
    obtain ⟨pre, post, rfl, hg, a, b⟩ := U.split
    simp
  have N2 : News h₀ L s.heap [(Bx, lstO [.ref S, .int (i : Int) ti] eB), (S, lstO vs eS)] := fun p hp => by
    rcases List.mem_cons.mp hp with rfl | hp
    · exact N _ hB
    · rw [List.mem_singleton.mp hp]; exact N _ hS
  have hend := fun g' h' L' m' oB' G F' N' => tk_back (g' := g') (h' := h') (L' := L') (m' := m') (oB' := oB') F N U hS G F' N'
  clear N U
  refine wpAny_call ?_
  k_dflt (walk_at "mine enter")
  k_steps
  · refine tk_fin hret hend kG' (by k_asm) (by k_asm) (by k_asm) ?_ ?_
    · exact Int.fmod_nonneg_of_pos _ (b := (many : Int)) (by omega)
    · exact Int.fmod_lt_of_pos _ (b := (many : Int)) (by omega)
  · refine tk_fin hret hend kG' (by k_asm) (by k_asm) (by k_asm) ?_ ?_
    · exact Int.fmod_nonneg_of_pos _ (b := (many : Int)) (by omega)
    · exact Int.fmod_lt_of_pos _ (b := (many : Int)) (by omega)
theorem ints_all : ∀ {vs : List Value} {ns : List Int}, IntsAre vs ns → (∀ v ∈ vs, ∃ k t, v = .int k t) ∧ vs.length = ns.length := by
  intro vs ns h
  induction h with
  | nil => exact ⟨fun _ h => (nomatch h), rfl⟩
  | cons _ _ _ ih => exact ⟨fun v hv => by
      rcases List.mem_cons.mp hv with rfl | hv
      · exact ⟨_, _, rfl⟩
      · exact ih.1 v hv, by simp [ih.2]⟩
def TkRetI (h₀ : Heap) (L : Addr) (m : Str → Option Value) (x : Int) (i : Nat) (S : Addr) (g : Obj → Led) (s : Shared) (Q : Value → Shared → Prop) : Prop :=
  ∀ (v eB' : Nat) (t t' : Tok) (h' : Heap) (tk' : Nat), (v : Int) < x → Fr h₀ L h' m → News h₀ L h' (g (lstO [.ref S, .int ((i + 1 : Nat) : Int) t'] eB')) → Q (.int (v : Int) t) { s with heap := h', toks := tk' }
theorem tk_use {w : World} {mean : ExcName → Option Value} {mg mb : Str → Option Value} {dp un : Nat} {gd : Option (List Code)} {cn : Str} {cs : Scope} {a : Addr} {ccd : Value} {cl : List (Str × Addr)} {outer : List Env} {A₀ : Around} {base h₀ : Heap} {L : Addr} {m : Str → Option Value} {news : Led} {s : Shared}
    {Q E : Value → Shared → Prop} {Bx S : Addr} {eB eS : Nat} {vs : List Value} {ns : List Int} {i : Nat} {x : Int} {ti tm : Tok} {g : Obj → Led} (B : Below A₀ base outer h₀) (F : Fr h₀ L s.heap m) (X : (Mine.part w.params).In h₀) (N : News h₀ L s.heap news) (T : Top Mine.view (looseW Mine.view [Str.ofString "RANKS", Str.ofString "EXP_ONE", Str.ofString "MOST_FACTORED"]) mean mg mb h₀) (hk : cs.kind = .function)
    (U : UpdF Bx (lstO [.ref S, .int (i : Int) ti] eB) news g) (hI : IntsAre vs (List.take 6 ns)) (hS : (S, lstO vs eS) ∈ news) (hne : @Ne Nat S Bx) (h0 : 0 < x ∧ x ≤ 10 ∧ i ≤ 10) (hd : dp + 4 < recursionLimit) (hu : un + 40 < cLine) (hret : TkRetI h₀ L m x i S g s Q) :
    wpAny (model PySem.Challenge.rw_rh0041_02.row.prog w) (ktrTop dp un gd cn cs L a ccd cl outer) (call (.ref 464) [.ref Bx, .int x tm]) Q E s := by
  obtain ⟨e1, e2⟩ := ints_all hI
  obtain ⟨many, rfl⟩ := Int.eq_ofNat_of_zero_le (Int.le_of_lt h0.1)
  exact tk_ok w mean mg mb dp un gd cn cs a ccd cl outer A₀ base h₀ L m news s Q E Bx S eB eS vs i many ti tm g B F X N T hk U hS hne (by rw [e2, List.length_take]; omega) e1 (by omega) (by omega) h0.2.2 hd hu fun v eB' t t' h' tk' q F9 N9 => hret v eB' t t' h' tk' (by omega) F9 N9

theorem rows36 : True := by
  k_with "call ref cons nil" => ((k_here; (with_reducible show wpAny _ _ (call (Value.ref 464) _) _ _ _); k_dflt (refine' Mine.tk_use (by k_asm) (by k_asm) (by k_asm) (by k_asm) (by k_asm) (by first | assumption | exact rfl) (by k_updF) (by assumption) (by k_mem) (by first | k_ne | (refine neN ?_; omega)) (by decide) (by walk_at "mine room") (by walk_at "mine units") ?_; k_whole; intro v9 eB9 t9 u9 h9 tk9 q9 F9 N9; (try dsimp only at N9))))
  trivial
-- the law's body
noncomputable def lawB : List Stmt × Scope := match stAt 91 with
  | .FunctionDef _ _ b _ _ _ sc _ _ _ :: _ => (b, sc)
  | _ => ([], { kind := .function, names := [], isGenerator := false, isCoroutine := false })
section
variable {prog : Program} {w : World} {A : Around} {E : Value → Shared → Prop} {s : Shared} {h₀ : Heap} {L D : Addr} {m : Str → Option Value} {news : Led} {value slice : PySem.Expr} {Q : Value → Shared → Prop} {u : Tok}
theorem size_at {t1 t2 t3 t4 t5 t6 : Tok} {i : Nat} (h : i < 6) : ∃ t, ([.int 3 t1, .int 29 t2, .int 39 t3, .int 59 t4, .int 118 t5, .int 119 t6] : List Value)[((i : Int)).toNat]? = some (.int ((sizeOf6 i : Nat) : Int) t) := by
  rcases i with _ | _ | _ | _ | _ | _ | i
  · exact ⟨t1, rfl⟩
  · exact ⟨t2, rfl⟩
  · exact ⟨t3, rfl⟩
  · exact ⟨t4, rfl⟩
  · exact ⟨t5, rfl⟩
  · exact ⟨t6, rfl⟩
  · omega
theorem sizeL {t1 t2 t3 t4 t5 t6 : Tok} {ep i : Nat} (N : News h₀ L s.heap news) (hm : (D, lstO [.int 3 t1, .int 29 t2, .int 39 t3, .int 59 t4, .int 118 t5, .int 119 t6] ep) ∈ news) (hi : i < 6) (hs : subscripted slice false (.ref D) (.int (i : Int) u) = operate [.ref D, .int (i : Int) u] (getItem (.ref D) (.int (i : Int) u)))
    (h : ∀ t, Q (.int ((sizeOf6 i : Nat) : Int) t) s) : wpAny (model prog w) A (subscriptTail value slice (.ref D) (.int (i : Int) u)) Q E s := by
  obtain ⟨t, e⟩ := size_at (t1 := t1) (t2 := t2) (t3 := t3) (t4 := t4) (t5 := t5) (t6 := t6) hi
  exact subL N hm (by omega) (by omega) e (h t) hs
/-- the width: 2 or 150 -/
theorem wideL {t1 t2 : Tok} {ep : Nat} {x : Int} (N : News h₀ L s.heap news) (hm : (D, lstO [.int 2 t1, .int 150 t2] ep) ∈ news) (hx : 0 ≤ x ∧ x < 2) (hs : subscripted slice false (.ref D) (.int x u) = operate [.ref D, .int x u] (getItem (.ref D) (.int x u)))
    (h : ∀ (k : Nat) t, (k = 2 ∨ k = 150) → Q (.int (k : Int) t) s) : wpAny (model prog w) A (subscriptTail value slice (.ref D) (.int x u)) Q E s := by
  have : x = 0 ∨ x = 1 := by omega
  rcases this with rfl | rfl
  · exact subL N hm (by omega) (by omega) rfl (h 2 t1 (.inl rfl)) hs
  · exact subL N hm (by omega) (by omega) rfl (h 150 t2 (.inr rfl)) hs
end
theorem TmIn.callR {led : Led} {a b : Addr} {t1 t2 : Tok} {n : Nm} {k : Nat} {v : Value} {c : Ch} (h1 : (a, tupO [.str (Str.ofString "call") t1, .str n.str t2, .ref b]) ∈ led) (h2 : (b, tupO (List.replicate k v)) ∈ led) (hk : k ≤ 1000) (h3 : TmIn led v c) : TmIn led (.ref a) (.call n k c) := by
  have := TmIn.call (n := n) (c := c) h1 h2 (by simpa using hk) fun u hu => by rw [List.eq_of_mem_replicate hu]; exact h3
  simpa using this
theorem symX {led : Led} {a : Addr} {t1 t2 : Tok} (h : (a, tupO [.str (Str.ofString "sym") t1, .str (Str.ofString "x") t2]) ∈ led) : TmIn led (.ref a) (.sym .x) := TmIn.sym (s := .x) h
theorem symA {led : Led} {a : Addr} {t1 t2 : Tok} (h : (a, tupO [.str (Str.ofString "sym") t1, .str (Str.ofString "a_") t2]) ∈ led) : TmIn led (.ref a) (.sym .a) := TmIn.sym (s := .a) h
theorem callP {led : Led} {a b : Addr} {t1 t2 : Tok} {v : Value} {c : Ch} (h1 : (a, tupO [.str (Str.ofString "call") t1, .str (Str.ofString "p") t2, .ref b]) ∈ led) (h2 : (b, tupO [v]) ∈ led) (h3 : TmIn led v c) : TmIn led (.ref a) (.call .p 1 c) := TmIn.call1 (n := .p) h1 h2 h3
theorem callQ {led : Led} {a b : Addr} {t1 t2 : Tok} {v : Value} {c : Ch} (h1 : (a, tupO [.str (Str.ofString "call") t1, .str (Str.ofString "q") t2, .ref b]) ∈ led) (h2 : (b, tupO [v]) ∈ led) (h3 : TmIn led v c) : TmIn led (.ref a) (.call .q 1 c) := TmIn.call1 (n := .q) h1 h2 h3
theorem callQR {led : Led} {a b : Addr} {t1 t2 : Tok} {k : Nat} {v : Value} {c : Ch} (h1 : (a, tupO [.str (Str.ofString "call") t1, .str (Str.ofString "q") t2, .ref b]) ∈ led) (h2 : (b, tupO (List.replicate k v)) ∈ led) (hk : k ≤ 1000) (h3 : TmIn led v c) : TmIn led (.ref a) (.call .q k c) := TmIn.callR (n := .q) h1 h2 hk h3
theorem wiR {led : Led} {v : Value} {x : Int} {t1 t2 : Tok} {k : Nat} {c : Ch} (h1 : TmIn led v c) (h2 : x = (k : Int)) (h3 : k ≤ 200) : WiRel led [.str (Str.ofString "r") t1, .int x t2, v] ⟨.r, k, c⟩ := WiRel.mk (n := .r) h1 h2 h3
theorem wiQ {led : Led} {v : Value} {x : Int} {t1 t2 : Tok} {k : Nat} {c : Ch} (h1 : TmIn led v c) (h2 : x = (k : Int)) (h3 : k ≤ 200) : WiRel led [.str (Str.ofString "q") t1, .int x t2, v] ⟨.q, k, c⟩ := WiRel.mk (n := .q) h1 h2 h3
theorem lsub_refl {l : Led} : ∀ p ∈ l, p ∈ l := fun _ h => h
theorem lsub_more {l l' tl : Led} (h : ∀ p ∈ l', p ∈ l) : ∀ p ∈ l', p ∈ l ++ tl := fun p hp => List.mem_append_left _ (h p hp)
theorem lsub_nil {l : Led} : ∀ p ∈ ([] : Led), p ∈ l := fun _ h => nomatch h
theorem lsub_cons {a : Addr × Obj} {l l' : Led} (h : ∀ p ∈ l', p ∈ l) : ∀ p ∈ a :: l', p ∈ a :: l := fun p hp => (List.mem_cons.mp hp).elim (fun e => e ▸ .head _) fun x => .tail _ (h p x)
theorem lsub_skip {a : Addr × Obj} {l l' : Led} (h : ∀ p ∈ l', p ∈ l) : ∀ p ∈ l', p ∈ a :: l := fun p hp => .tail _ (h p hp)
theorem fm7 (i : Nat) : ((i : Nat) : Int).fmod 7 = ((i % 7 : Nat) : Int) := by
  rw [Int.fmod_eq_emod_of_nonneg _ (by omega)]
  omega
theorem mx7 (i b : Nat) : (if ((i : Nat) : Int).fmod 7 - (b : Int) > 0 then ((i : Nat) : Int).fmod 7 - (b : Int) else 0) = ((i % 7 - b : Nat) : Int) := by
  rw [fm7]
  split <;> omega
theorem chEqD {prog : Program} {w : World} {A : Around} {E : Value → Shared → Prop} {s : Shared} {h₀ : Heap} {L : Addr} {news : Led} {v v' : Value} {c : Ch} {Q : Value → Shared → Prop} (N : News h₀ L s.heap news) (t : TmIn news v c) (t' : TmIn news v' c) (hd : c.depth ≤ 400) (hu : A.units + 800 < cLine) (h : Q (.bool true) s) :
    wpAny (model prog w) A (compareOp .Eq v v') Q E s := chEq N t t' (by omega) true (eqv_self c) h
theorem mm_cases {l : Led} {v : Value} {k : Nat} {c : Ch} {x : Int} (t : TmIn l v (wides k (if 1 < x then (1 : Int) else x).toNat c)) : 1 < x ∨ (¬ 1 < x ∧ TmIn l v (wides k x.toNat c)) := by
  by_cases h : 1 < x
  · exact .inl h
  · rw [if_neg h] at t
    exact .inr ⟨h, t⟩
theorem strip_head {I : Addr} {it : Obj} {l : Led} {v : Value} {c : Ch} (h : TmIn ((I, it) :: l) v c) (hc : it.cls ≠ .type "tuple") : TmIn l v c := h.strip fun p hp hq => (List.mem_cons.mp hp).resolve_left fun e => hc (by rw [e] at hq; exact hq)
/-- form 0: the loop's state -/
def DInv (sz ap : Nat) (R : Option Ch) (I : Addr) (m0 : Str → Option Value) (led0 : Led) (k : Nat) (m : Str → Option Value) (nw : Led) : Prop :=
  ∃ (v : Value) (c : Ch) (lv : Nat) (t : Tok) (s' : Option Value) (tl : Led), m = (fun y => if y = Str.ofString "levels" then some (.int (lv : Int) t) else if y = Str.ofString "inner" then some v else if y = Str.ofString "turn" then s' else m0 y) ∧ nw = led0 ++ tl ∧ Apart led0 tl ∧ (∀ q ∈ tl, @Ne Nat q.1 I) ∧ TmIn (led0 ++ tl) v c ∧ lv ≤ 200 ∧ due0 sz ap k c lv = R
theorem DInv.close {h₀ h' : Heap} {L : Addr} {s₁ : Shared} {it : Obj} {tk : Nat} {sz ap : Nat} {c : Ch} {R : Option Ch} {I : Addr} {m0 m : Str → Option Value} {led0 tl nl all : Led} {k lv : Nat} {v : Value} {x : Int} {t0 : Tok} {u1 u2 u3 s1 : Option Value} (F : Fr h₀ L h' m) (N : News h₀ L h' all)
    (e : m = fun y => if y = Str.ofString "inner" then some v else if y = Str.ofString "levels" then some (.int x t0) else if y = Str.ofString "turn" then s1 else if y = Str.ofString "levels" then u1 else if y = Str.ofString "inner" then u2 else if y = Str.ofString "turn" then u3 else m0 y) (hx : x = (lv : Int)) (hlv : lv ≤ 200) (hI : (I, it) ∈ all) (ha : ∀ p ∈ led0 ++ (tl ++ nl), p ∈ all) (h1 : Apart led0 tl) (o1 : ∀ q ∈ tl, @Ne Nat q.1 I) (h2 : Apart led0 nl) (o2 : ∀ q ∈ nl, @Ne Nat q.1 I)
    (t : TmIn (led0 ++ (tl ++ nl)) v c) (hw : due0 sz ap k c lv = R) (l0 : ∀ p ∈ led0, p.1 < I) : UnrEnd h₀ L s₁ I it (DInv sz ap R I m0 led0 k) { s₁ with heap := h', toks := tk } := by
  subst hx
  refine UnrEnd.intro F N (led0 ++ (tl ++ nl)) (fun p hp => ?_) (fun p hp => ?_) ⟨v, c, lv, t0, s1, tl ++ nl, e.trans (funext fun y => ?_), rfl, fun q hq p hp => ?_, fun q hq => ?_, t, hlv, hw⟩
  · rcases List.mem_cons.mp hp with rfl | hp
    · exact hI
    · exact ha p hp
  · rcases List.mem_append.mp hp with hp | hp
    · exact Nat.ne_of_lt (l0 p hp)
    · rcases List.mem_append.mp hp with hp | hp
      · exact o1 p hp
      · exact o2 p hp
  · by_cases e1 : y = Str.ofString "levels"
    · have e2 : y ≠ Str.ofString "inner" := by rw [e1]; decide
      simp only [if_pos e1, if_neg e2]
    · by_cases e2 : y = Str.ofString "inner"
      · simp only [if_neg e1, if_pos e2]
      · by_cases e3 : y = Str.ofString "turn"
        · simp only [if_neg e1, if_neg e2, if_pos e3]
        · simp only [if_neg e1, if_neg e2, if_neg e3]
  · rcases List.mem_append.mp hp with hp | hp
    · exact h1 q hq p hp
    · exact h2 q hq p hp
  · rcases List.mem_append.mp hq with hq | hq
    · exact o1 q hq
    · exact o2 q hq
section
variable {prog : Program} {w : World} {A : Around} {E : Value → Shared → Prop} {Q : Flow → Shared → Prop} {s : Shared} {env : Env} {h₀ : Heap} {body : List Stmt}
def DTurn (prog : Program) (w : World) (A : Around) (E : Value → Shared → Prop) (h₀ : Heap) (env : Env) (body : List Stmt) (Q : Flow → Shared → Prop) (s : Shared) (I : Addr) (N : Nat) (sz ap : Nat) (R : Option Ch) (m0 : Str → Option Value) (led0 : Led) : Prop :=
  ∀ (k i : Nat) (v : Value) (c : Ch) (lv : Nat) (t0 : Tok) (s' : Option Value) (tl : Led), i + (k + 1) = N → Apart led0 tl → (∀ q ∈ tl, @Ne Nat q.1 I) → TmIn (led0 ++ tl) v c → lv ≤ 200 → due0 sz ap (k + 1) c lv = R → ∀ t h tk, Fr h₀ env.locals h (fun y => if y = Str.ofString "turn" then some (.int (0 + (i : Int)) t) else if y = Str.ofString "levels" then some (.int (lv : Int) t0) else if y = Str.ofString "inner" then some v else if y = Str.ofString "turn" then s' else m0 y) →
    News h₀ env.locals h ((I, itR (0 + ((i + 1 : Nat) : Int)) ((N : Int) - ((i + 1 : Nat) : Int))) :: (led0 ++ tl)) →
    wpAny (model prog w) A (execs body env) (UnrPost h₀ env.locals { s with heap := h, toks := tk } I (itR (0 + ((i + 1 : Nat) : Int)) ((N : Int) - ((i + 1 : Nat) : Int))) (DInv sz ap R I m0 led0 k) Q) E { s with heap := h, toks := tk }
def DFin (h₀ : Heap) (env : Env) (Q : Flow → Shared → Prop) (s : Shared) (sz ap : Nat) (R : Option Ch) (m0 : Str → Option Value) (led0 : Led) : Prop :=
  ∀ (v : Value) (c : Ch) (lv : Nat) (t0 : Tok) (s' : Option Value) (tl : Led), Apart led0 tl → TmIn (led0 ++ tl) v c → some (within .r ap (.call .p 1 c)) = R → ∀ h tk, Fr h₀ env.locals h (fun y => if y = Str.ofString "levels" then some (.int (lv : Int) t0) else if y = Str.ofString "inner" then some v else if y = Str.ofString "turn" then s' else m0 y) → News h₀ env.locals h (led0 ++ tl) → Q .next { s with heap := h, toks := tk }
theorem d_loop (sz ap lv : Nat) {x : Int} {t0 : Tok} {I : Addr} {N : Nat} {c : Ch} {v : Value} {m0 : Str → Option Value} {led0 : Led} (hm : m0 (Str.ofString "inner") = some v) (hl : m0 (Str.ofString "levels") = some (.int x t0)) (hx : x = (lv : Int)) (hlv : lv ≤ 200) (tm : TmIn led0 v c)
    (turn : DTurn prog w A E h₀ env body Q s I N sz ap (due0 sz ap N c lv) m0 led0) (fin : DFin h₀ env Q s sz ap (due0 sz ap N c lv) m0 led0) : RangeRest prog w A E h₀ env (Str.ofString "turn") body Q s I 0 N N 0 m0 led0 := by
  subst hx
  refine range_all (DInv sz ap (due0 sz ap N c lv) I m0 led0) (fun k i m nw hi hI t h tk F N => ?_) (fun m nw hI h tk F N => ?_) N 0 m0 led0 (Nat.zero_add _) ⟨v, c, lv, t0, m0 (Str.ofString "turn"), [], funext fun y => ?_, (List.append_nil _).symm, Apart.nil, (fun _ h => nomatch h), (by rw [List.append_nil]; exact tm), hlv, rfl⟩
  · obtain ⟨v', c', lv', t', s', tl, rfl, rfl, h1, h2, h3, h4, h5⟩ := hI
    exact turn k i v' c' lv' t' s' tl hi h1 h2 h3 h4 h5 t h tk F N
  · obtain ⟨v', c', lv', t', s', tl, rfl, rfl, h1, h2, h3, h4, h5⟩ := hI
    exact fin v' c' lv' t' s' tl h1 h3 h5 h tk F N
  · by_cases e1 : y = Str.ofString "levels"
    · rw [if_pos e1, e1, hl]
    · by_cases e2 : y = Str.ofString "inner"
      · rw [if_neg e1, if_pos e2, e2, hm]
      · by_cases e3 : y = Str.ofString "turn"
        · rw [if_neg e1, if_neg e2, if_pos e3, e3]
        · rw [if_neg e1, if_neg e2, if_neg e3]
end
theorem d_loop2 {prog : Program} {w : World} {A : Around} {E : Value → Shared → Prop} {Q : Flow → Shared → Prop} {s : Shared} {env : Env} {h₀ : Heap} {body : List Stmt} {i ap : Nat} {x : Int} {t0 : Tok} {I : Addr} {N : Nat} {c : Ch} {v : Value} {m0 : Str → Option Value} {led0 : Led} (_q6 : (i : Int) < 6) (q3 : (ap : Int) < 3) (hm : m0 (Str.ofString "inner") = some v) (hl : m0 (Str.ofString "levels") = some (.int x t0)) (hx : x = 2 + (ap : Int)) (tm : TmIn led0 v c)
    (turn : DTurn prog w A E h₀ env body Q s I N (sizeOf6 i) ap (due0 (sizeOf6 i) ap N c (2 + ap)) m0 led0) (fin : DFin h₀ env Q s (sizeOf6 i) ap (due0 (sizeOf6 i) ap N c (2 + ap)) m0 led0) : RangeRest prog w A E h₀ env (Str.ofString "turn") body Q s I 0 N N 0 m0 led0 :=
  d_loop (sizeOf6 i) ap (2 + ap) hm hl (by omega) (by omega) tm turn fin
theorem rows37 : True := by
  k_with "subscriptTail List cons Call ref int" => ((k_here; k_dflt (refine' Mine.sizeL (by k_asm) (by exact Mine.mem_here) (by omega) (by with_unfolding_all rfl) ?_; k_whole; intro t8)))
  k_with "subscriptTail List cons BinOp ref int" => ((k_here; k_dflt (refine' Mine.wideL (by k_asm) (by exact Mine.mem_here) (by exact ⟨Int.fmod_nonneg_of_pos _ (by decide), Int.fmod_lt_of_pos _ (by decide)⟩) (by with_unfolding_all rfl) ?_; k_whole; intro k8 t8 e8)))
  k_with "binaryOp Mult ref int" => ((k_here; k_dflt (refine' Mine.tmul (by k_asm) (by k_asm) (by walk_at "mine memR") (by omega) ?_; k_whole; intro D' h' F' N' l1; (try k_lt l1))))
  k_with "mine lt" => (first | (with_reducible assumption) | ((with_reducible apply Mine.symX); walk_at "mine memR") | ((with_reducible apply Mine.symA); walk_at "mine memR") | ((with_reducible apply Mine.callP); (focus walk_at "mine memR"); (focus walk_at "mine memR"); walk_at "mine lt") | ((with_reducible apply Mine.callQ); (focus walk_at "mine memR"); (focus walk_at "mine memR"); walk_at "mine lt") | ((with_reducible apply Mine.callQR); (focus walk_at "mine memR"); (focus walk_at "mine memR"); (focus omega); walk_at "mine lt") | ((with_reducible apply Mine.TmIn.mono); (focus with_reducible assumption); walk_at "mine lsub"))
  k_with "mine lr" => (((with_reducible apply Mine.RuIn.mk); (focus walk_at "mine memR"); (focus walk_at "mine memR"); (focus walk_at "mine lt"); walk_at "mine lt"))
  k_with "mine lsub" => (((repeat (first | (with_reducible exact Mine.lsub_refl) | (with_reducible refine Mine.lsub_more ?_) | (with_reducible refine Mine.lsub_cons ?_) | (with_reducible refine Mine.lsub_skip ?_) | (with_reducible exact Mine.lsub_nil))); done))
  k_with "mine lx" => (first | (with_reducible exact Mine.mx7 _ _) | (with_reducible exact Mine.fm7 _) | exact rfl | exact (Int.toNat_of_nonneg (by omega)).symm)
  k_with "mine le" => (first | omega | exact Nat.le_trans (Mine.sizeOf6_le _).2 (by decide))
  k_with "mine told" => (first | (with_reducible assumption) | exact Mine.told1A (by omega) (by omega) (by omega) | exact Mine.told1B (by omega) (by omega) (by omega) (by omega) | exact Mine.told1C (by omega) (by omega) (by omega) (by omega) | exact Mine.told0D (by with_reducible assumption) (by omega) (by omega) (by omega) | exact Mine.told2 (Nat.mod_lt _ (by decide)) (by omega) (by omega))
  k_with "compareOp Eq ref ref" => ((k_here; k_dflt (refine' Mine.chEqD (by k_asm) (by walk_at "mine lt") (by walk_at "mine lt") (by with_reducible assumption) (by walk_at "mine units") ?_; k_whole)))
  trivial
theorem cut_rule {P : Prop} {h₀ h : Heap} {L : Addr} {led : Led} {m : Str → Option Value} {v2 p1 p2 : Value} {r : Addr} {c1 c2 : Ch} (F : Fr h₀ L h m) (hv2 : m (Str.ofString "inner") = some v2) (hr : m (Str.ofString "rule") = some (.ref r)) (N : News h₀ L h led) (hm : (r, tupO [p1, p2]) ∈ led) (t1 : TmIn led p1 c1) (t2 : TmIn led p2 c2) (t : TmIn led v2 cx)
    (k : ∀ led', News h₀ L h led' → (r, tupO [p1, p2]) ∈ led' → TmIn led' p1 c1 → TmIn led' p2 c2 → TmIn led' v2 cx → P) : P := k led N hm t1 t2 t
theorem cut_ruleT {P : Prop} {h₀ h : Heap} {L : Addr} {led : Led} {m : Str → Option Value} {v2 v3 p1 p2 : Value} {r : Addr} {c1 c2 c3 : Ch} (F : Fr h₀ L h m) (hv3 : m (Str.ofString "t") = some v3) (hv2 : m (Str.ofString "inner") = some v2) (hr : m (Str.ofString "rule") = some (.ref r)) (N : News h₀ L h led) (hm : (r, tupO [p1, p2]) ∈ led) (t1 : TmIn led p1 c1) (t2 : TmIn led p2 c2) (t : TmIn led v2 cx) (t3 : TmIn led v3 c3)
    (k : ∀ led', News h₀ L h led' → (r, tupO [p1, p2]) ∈ led' → TmIn led' p1 c1 → TmIn led' p2 c2 → TmIn led' v2 cx → TmIn led' v3 c3 → P) : P := k led N hm t1 t2 t t3
theorem rows38 : True := by
  k_with "exec For Name Call cons nil" => ((k_here; (rename News _ _ _ _ => oN'); (first | ((refine Mine.cut_ruleT (by k_asm) (by with_unfolding_all exact rfl) (by with_unfolding_all exact rfl) (by with_unfolding_all exact rfl) oN' (by walk_at "mine memR") (by walk_at "mine lt") (by walk_at "mine lt") (by walk_at "mine lt") (by walk_at "mine lt") ?_); (clear oN'); intro lX' N' mX' tP' tR' tX' tT') | ((refine Mine.cut_rule (by k_asm) (by with_unfolding_all exact rfl) (by with_unfolding_all exact rfl) oN' (by walk_at "mine memR") (by walk_at "mine lt") (by walk_at "mine lt") (by walk_at "mine lt") ?_); (clear oN'); intro lX' N' mX' tP' tR' tX')); (rename Fr _ _ _ _ => lF'); (with_unfolding_all refine For_invVF lF' (by exact rfl) (by exact rfl) ?_)))
  k_with "pyIter ref" => ((k_here; (with_reducible show wpAny _ _ (pyIter (Value.ref _)) (fun it s₂ => LoopAtV _ _ _ _ _ _ _ _ _ it s₂) _ _); k_dflt (refine' iter_rangeUnr (by rfl) (by assumption) (by exact Mine.rng_smallI (by omega)) (by exact Mine.rng_sizeI (by omega)) (by k_asm) (by k_asm) ?_; k_whole); intro I l1))
  k_with "call ref cons nil" => ((k_here; (with_reducible show wpAny _ _ (call (Value.ref 471) _) _ _ _); k_dflt (refine' Mine.Tells1.useA (by k_asm) (by k_asm) (by k_asm) (by k_asm) (by exact Mine.wi_ok _ _ _ _) (by k_asm) (by first | assumption | exact rfl) (by walk_at "mine wrel") (by walk_at "mine room") (by walk_at "mine units") ?_; k_whole; intro r9 tl9 h9 tk9 k9 f9 F9 N9 o9; (have a9 := Mine.apart_fresh (by k_asm) f9); (try simp only [List.cons_append, List.nil_append] at N9 o9); (obtain ⟨b8, e8⟩ := Mine.tm_ref o9); subst e8; (try dsimp only); (try k_fold))))
  k_with "mine wrel" => (((first | (with_reducible apply Mine.wiR) | (with_reducible apply Mine.wiQ)); (focus walk_at "mine lt"); (focus walk_at "mine lx"); (focus walk_at "mine le")))
  k_with "ite" => ((k_here; k_dflt (first | (refine ite_pos (by ((try simp only [decide_eq_true_eq, beq_iff_eq, bne_iff_ne, ne_eq]); omega)) ?_) | (refine ite_neg (by ((try simp only [decide_eq_true_eq, beq_iff_eq, bne_iff_ne, ne_eq]); omega)) ?_))))
  trivial
theorem cut_led {P : Prop} {h₀ h : Heap} {L : Addr} {led : Led} {m : Str → Option Value} {v1 v2 : Value} (F : Fr h₀ L h m) (hv1 : m (Str.ofString "blank") = some v1) (hv2 : m (Str.ofString "inner") = some v2) (N : News h₀ L h led) (t1 : TmIn led v1 ca) (t2 : TmIn led v2 cx) (k : ∀ led', News h₀ L h led' → TmIn led' v1 ca → TmIn led' v2 cx → P) : P := k led N t1 t2
theorem rows39 : True := by
  k_with "execs cons If cons" => ((k_here; (rename News _ _ _ _ => oN'); (refine Mine.cut_led (by k_asm) (by exact rfl) (by exact rfl) oN' (by ((with_reducible apply Mine.symA); walk_at "mine memR")) (by ((with_reducible apply Mine.symX); walk_at "mine memR")) ?_); (clear oN'); intro lX' N' tA' tX'))
  trivial
theorem law_walk (w : World) (mean : ExcName → Option Value) (mg mb : Str → Option Value) (L a S0 : Addr) (cd : Value) (base h₀ : Heap) (s : Shared) (vs : List Value) (ns : List Int) (R : Result → Shared → Prop)
    (B : Below callerA base [] h₀) (F : Fr h₀ L s.heap (fun x => List.lookup x [(Str.ofString "script", .ref S0)])) (X : (Mine.part w.params).In h₀) (N : News h₀ L s.heap []) (T : Top Mine.view (looseW Mine.view [Str.ofString "RANKS", Str.ofString "EXP_ONE", Str.ofString "MOST_FACTORED"]) mean mg mb h₀)
    (hL : h₀.IsList S0 vs.toArray) (hI : IntsAre vs ns) (hlen : ¬ ((63 : Int) < ns.length)) (hQ : ∀ h' tk' m', Fr h₀ L h' m' → R (.ok (.ret (.bool true))) { s with heap := h', toks := tk' }) :
    wpAny (model PySem.Challenge.rw_rh0041_02.row.prog w) (callerA.deeper (envOf (Str.ofString "law") lawB.2 L a cd)) (execs lawB.1 (envOf (Str.ofString "law") lawB.2 L a cd)) (fun fl s' => R (.ok (.ret (match fl with | .ret v => v | _ => .none))) s')
      (fun e s' => wpAny (model PySem.Challenge.rw_rh0041_02.row.prog w) (callerA.deeper (envOf (Str.ofString "law") lawB.2 L a cd)) (leaving (envOf (Str.ofString "law") lawB.2 L a cd) e) (fun _ s'' => R (.error e) s'') (fun e' s'' => R (.error e') s'') s') s := by
  have key : ∀ b sc, lawB = (b, sc) → wpAny (model PySem.Challenge.rw_rh0041_02.row.prog w) (callerA.deeper (envOf (Str.ofString "law") sc L a cd)) (execs b (envOf (Str.ofString "law") sc L a cd)) (fun fl s' => R (.ok (.ret (match fl with | .ret v => v | _ => .none))) s')
      (fun e s' => wpAny (model PySem.Challenge.rw_rh0041_02.row.prog w) (callerA.deeper (envOf (Str.ofString "law") sc L a cd)) (leaving (envOf (Str.ofString "law") sc L a cd) e) (fun _ s'' => R (.error e) s'') (fun e' s'' => R (.error e') s'') s') s →
    wpAny (model PySem.Challenge.rw_rh0041_02.row.prog w) (callerA.deeper (envOf (Str.ofString "law") lawB.2 L a cd)) (execs lawB.1 (envOf (Str.ofString "law") lawB.2 L a cd)) (fun fl s' => R (.ok (.ret (match fl with | .ret v => v | _ => .none))) s')
      (fun e s' => wpAny (model PySem.Challenge.rw_rh0041_02.row.prog w) (callerA.deeper (envOf (Str.ofString "law") lawB.2 L a cd)) (leaving (envOf (Str.ofString "law") lawB.2 L a cd) e) (fun _ s'' => R (.error e) s'') (fun e' s'' => R (.error e') s'') s') s := fun b sc e h => by rw [e]; exact h
  refine key _ _ (by with_unfolding_all rfl) ?_
  clear key
  obtain ⟨hp0, gn0, dr0, tk0, os0⟩ := s
  dsimp only at F N hQ ⊢
  have hQl : ∀ h' tk' m', Fr h₀ L h' m' → R (.ok (.ret (.bool (Str.ofString "limit" == Str.ofString "limit")))) ⟨h', gn0, dr0, tk', os0⟩ := fun h' tk' m' f => by rw [beq_self_eq_true]; exact hQ h' tk' m' f
  k_steps
  · refine lp_loop (X := Str.ofString "inner") (wides k8) (fun _ => rfl) rfl (by walk_at "mine lt") ?_ ?_
    · intro k i v' c' s' tl hi ap1 of1 tm1 hw t h tk F1 N1
      k_steps
      exact LpInv.close3 (c := .call .q k8 c') (by k_asm) (by k_asm) rfl ap1 of1 (callQR mem_here (.tail _ mem_here) (by omega) (tm1.mono fun p hp => .tail _ (.tail _ (.tail _ hp)))) hw (by assumption) (by assumption) (by assumption) (by assumption)
    · intro v' s' tl ap1 tm1 h tk F1 N1
      (try simp only [List.cons_append, List.nil_append] at N1 tm1)
      k_steps
      exact hQ _ _ _ (by k_asm)
  · refine lp_loop (X := Str.ofString "inner") (wides k8) (fun _ => rfl) rfl (by walk_at "mine lt") ?_ ?_
    · intro k i v' c' s' tl hi ap1 of1 tm1 hw t h tk F1 N1
      k_steps
      exact LpInv.close3 (c := .call .q k8 c') (by k_asm) (by k_asm) rfl ap1 of1 (callQR mem_here (.tail _ mem_here) (by omega) (tm1.mono fun p hp => .tail _ (.tail _ (.tail _ hp)))) hw (by assumption) (by assumption) (by assumption) (by assumption)
    · intro v' s' tl ap1 tm1 h tk F1 N1
      (try simp only [List.cons_append, List.nil_append] at N1 tm1)
      rcases mm_cases tm1 with h1 | ⟨h1, tm2⟩
      · k_steps
        exact hQl _ _ _ (by k_asm)
      · clear tm1
        k_steps
        exact hQ _ _ _ (by k_asm)
  · exact hQ _ _ _ (by k_asm)
  · simp only [Int.toNat_natCast]
    rename ((_ : Int) < 6) => q6
    rename ((_ : Int) < 3) => q3
    refine d_loop2 q6 q3 rfl rfl rfl (by walk_at "mine lt") ?_ ?_
    · intro k i v' c' lv t0 s' tl hi ap1 of1 tm1 hlv hw t h tk F1 N1
      rcases due_cases hw with ⟨h120, hR⟩ | ⟨h120, hR⟩
      · k_steps
        exact hQl _ _ _ (by k_asm)
      · k_steps
        refine DInv.close (nl := tl9) (by k_asm) (by k_asm) rfl (by omega) (by omega) ?_ ?_ ap1 of1 ?_ ?_ ?_ hR (by assumption)
        · walk_at "mine memR"
        · intro p hp
          simp only [List.cons_append, List.nil_append, List.append_assoc] at hp ⊢
          exact .tail _ (.tail _ hp)
        · exact Apart.sub a9 fun p hp => .tail _ (List.mem_append_left _ hp)
        · exact fun q hq => ne_of_apart a9 (.head _) q hq
        · refine (strip_head o9 (not_dict' rfl (by decide))).mono fun p hp => ?_
          simp only [List.cons_append, List.nil_append, List.append_assoc] at hp ⊢
          exact hp
    · intro v' c' lv t0 s' tl ap1 tm1 hR h tk F1 N1
      replace hR := hR.symm
      (try simp only [List.cons_append, List.nil_append] at N1 tm1)
      k_steps
      exact hQ _ _ _ (by k_asm)
theorem law_walk2 (w : World) (mean : ExcName → Option Value) (mg mb : Str → Option Value) (L a S0 : Addr) (cd : Value) (base h₀ : Heap) (s : Shared) (vs : List Value) (ns : List Int) (R : Result → Shared → Prop) (b : List Stmt) (sc : Scope) (eB : lawB = (b, sc))
    (B : Below callerA base [] h₀) (F : Fr h₀ L s.heap (fun x => List.lookup x [(Str.ofString "script", .ref S0)])) (X : (Mine.part w.params).In h₀) (N : News h₀ L s.heap []) (T : Top Mine.view (looseW Mine.view [Str.ofString "RANKS", Str.ofString "EXP_ONE", Str.ofString "MOST_FACTORED"]) mean mg mb h₀)
    (hL : h₀.IsList S0 vs.toArray) (hI : IntsAre vs ns) (hlen : ¬ ((63 : Int) < ns.length)) (hQ : ∀ h' tk' m', Fr h₀ L h' m' → R (.ok (.ret (.bool true))) { s with heap := h', toks := tk' }) :
    wpAny (model PySem.Challenge.rw_rh0041_02.row.prog w) (callerA.deeper (envOf (Str.ofString "law") sc L a cd)) (execs b (envOf (Str.ofString "law") sc L a cd)) (fun fl s' => R (.ok (.ret (match fl with | .ret v => v | _ => .none))) s')
      (fun e s' => wpAny (model PySem.Challenge.rw_rh0041_02.row.prog w) (callerA.deeper (envOf (Str.ofString "law") sc L a cd)) (leaving (envOf (Str.ofString "law") sc L a cd) e) (fun _ s'' => R (.error e) s'') (fun e' s'' => R (.error e') s'') s') s := by
  have h := law_walk w mean mg mb L a S0 cd base h₀ s vs ns R B F X N T hL hI hlen hQ
  rw [eB] at h
  exact h

end Mine
theorem PySem.Challenge.cw_rh0041_02_holds : PySem.Challenge.rw_rh0041_02.Holds := by
  w_on
  refine PySem.W.holds_law (by rw [PySem.W.Fast.te9446332074065402090]; exact Mine.said) fun said => ?_
  refine PySem.W.holds_open (q := Mine.view) (loose := Mine.looseL) (Xt := fun s => xlAt Mine.view Mine.lvL s && recOk PySem.Challenge.rw_rh0041_02.row.records s) (XP := XL Mine.view Mine.lvL) (Yf := Hook.obs Mine.hook) (Ya := Hook.val Mine.hook) (YP := Hook.says Mine.hook) (N := 5418)
    ?hl (Hook.of Mine.hook) (Hook.keeps Mine.hook) (fun s e => xl_of s (Bool.and_eq_true_iff.mp e).1) XL.keeps (by rfl) (by rfl) (by rfl) (fun s e => recFacts_of (Bool.and_eq_true_iff.mp e).2) (by rfl) (by first | assumption | decide +kernel) (by decide +kernel) ⟨rfl, rfl, rfl, rfl, rfl, Mine.tables⟩ ?hw ?hc
  case hl => exact Mine.left
  case hw => w_witness2
  case hc =>
    k_fill
    intro w s₀ s₁ mg mb G Y fa o pm cd doc dV kV ho hd hcd hD hmg hg args vals as hpre hlay hrd hwl hlo
    have KX := kIn_of Y
    have X := (Ground.X G).1
    have V := (Ground.X G).2
    refine Ground.open G ?_
    intro T B D TE TW
    try (refine guard_noD D (by decide +kernel) ?_; clear D)
    obtain ⟨_, _, M⟩ := bmod_of_top T
    have TA := at_of_top T
    try (obtain ⟨_, _, he, B0⟩ := based_of_top T rfl hmg ho hd; have he' : cd = _ := he; subst he'; clear he)
    clear hmg
    wrow_args hpre hlay hrd hwl hlo
    refine enter_call ?_
    w_top on
    refine codeAny_mono ?_ (fun _ _ g => GoodW.toG g)
    have K0 := below_caller (Top.heap T)
    w_call any ho hd hcd hD T F
    clear hd TA
    k_drop
    refine Mine.law_walk2 _ _ _ _ _ _ _ _ _ _ _ _ _ (fun r s' => GoodW PySem.Challenge.rw_rh0041_02.row.claim _ _ _ _ r s') _ _ (by with_unfolding_all rfl) (by assumption) (by assumption) (by assumption) (by assumption) (by assumption) (by assumption) (by assumption) (by assumption) ?_
    intro h' tk' m' F'
    wrow_close
