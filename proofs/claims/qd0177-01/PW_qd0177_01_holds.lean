import PyProof.Rows.All
import Wide.All
import OpenK.AllK
import Wide.FinOn
import Lean
import PySem.Challenge.RW_qd0177_01
open PySem PySem.W PyProof.Rows
set_option Elab.async false
set_option maxRecDepth 100000
set_option linter.unusedVariables false
set_option maxHeartbeats 0
namespace Mine

/-- the run of a top in tree form, over any step -/
noncomputable def go (stp : SharedT → Thread → Option (SharedT × Thread)) (ok : Thread → Bool) : Nat → SharedT → Thread → Option SharedT
  | 0, _, _ => none
  | n + 1, s, t => match through t with
    | true => some s
    | false => match ok t with
      | false => none
      | true => match stp s t with
        | some (s', t') => go stp ok n s' t'
        | none => none

theorem go_run {tb : String → Option Builtin} {p : Program} {w : World} {n₀ : Nat} {ann : Option Value} : ∀ (n : Nat) (s s' : SharedT) (t : Thread),
    go (stepT (denote tb) p w) (stepOk n₀ ann) n s t = some s' → topRun tb p w n₀ ann n s.abs t = some s'.abs
  | 0, _, _, _, h => by cases h
  | n + 1, s, s', t, h => by
    unfold go at h
    unfold topRun
    cases ht : through t with
    | true => rw [ht] at h; cases h; rfl
    | false =>
      rw [ht] at h
      cases hk : stepOk n₀ ann t with
      | false => rw [hk] at h; cases h
      | true =>
        rw [hk] at h
        cases hs : stepT (denote tb) p w s t with
        | none => rw [hs] at h; cases h
        | some r => obtain ⟨s₂, t₂⟩ := r; rw [hs] at h; rw [stepT_spec hs]; exact go_run n _ _ _ h

noncomputable def bootT (P : Params) : BT := ((boot_heap P).objs.toList.foldl (fun (x : BT × Nat) o => (x.1.ins x.2 o, x.2 + 1)) (BT.nil, 0)).1
noncomputable def start0 (w : World) (os : OsState) : SharedT := ⟨bootT w.params, 11, (boot_heap w.params).life, Array.mk [], boot_drawn, boot_toks, os⟩
theorem start0_abs (w : World) (os : OsState) : (start0 w os).abs = ⟨boot_heap w.params, Array.mk [], boot_drawn, boot_toks, os⟩ := by kernel_rfl!

abbrev pw : Program := PySem.Challenge.pw_qd0177_01
abbrev N : Nat := 9000
noncomputable def q : Program := view pw [126]

@[reducible] noncomputable def pick {a o : Obj} (_ : a = o) : Obj := o
noncomputable def big : Int := Int.ofNat (10 ^ 5000)
noncomputable def st (i : Nat) : Stmt := (pw.main.body[i]?).getD (.Pass default)
noncomputable def inCls (i j : Nat) : Stmt := match st i with
  | .ClassDef (body := b) .. => (b[j]?).getD (.Pass default)
  | s => s
noncomputable def fnO (s : Stmt) (qual : Str) (pm : Value) (cd : Addr) (dV : Value) : Obj := match s with
  | .FunctionDef (name := n) (args := a) (body := b) (scope := sc) .. => { cls := .type "function", data := .func { name := n, qualname := qual, params := a, body := .stmts b, scope := sc, globals := 3, closure := [], defaults := dV, kwdefaults := .none, pyModule := pm, code := .ref cd } }
  | _ => default
noncomputable def K : Params → Frag := fun P =>
  (nat_lit 2, { cls := Value.none, data := Data.dict #[{ hash := PyData.keyHash P (Str.ofString "type.__subclasses__.Exception.0"), key := Value.str (Str.ofString "type.__subclasses__.Exception.0") 230, val := Value.int 45 0 }, { hash := PyData.keyHash P (Str.ofString "type.__subclasses__.Exception.n"), key := Value.str (Str.ofString "type.__subclasses__.Exception.n") 231, val := Value.int 1 0 }] 2 }) ::
  (nat_lit 3, { cls := Value.type "dict", data := Data.dict #[{ hash := PyData.keyHash P (Str.ofString "__name__"), key := Value.str (Str.ofString "__name__") 165, val := Value.str (Str.ofString "law_qd0177_01") 1218 }, { hash := PyData.keyHash P (Str.ofString "__doc__"), key := Value.str (Str.ofString "__doc__") 166, val := Value.none }, { hash := PyData.keyHash P (Str.ofString "__package__"), key := Value.str (Str.ofString "__package__") 167, val := Value.none }, { hash := PyData.keyHash P (Str.ofString "__loader__"), key := Value.str (Str.ofString "__loader__") 168, val := Value.builtin "__main__.__loader__#opaque" }, { hash := PyData.keyHash P (Str.ofString "__spec__"), key := Value.str (Str.ofString "__spec__") 169, val := Value.none }, { hash := PyData.keyHash P (Str.ofString "__annotations__"), key := Value.str (Str.ofString "__annotations__") 170, val := Value.ref 6 }, { hash := PyData.keyHash P (Str.ofString "__builtins__"), key := Value.str (Str.ofString "__builtins__") 171, val := Value.ref 4 }, { hash := PyData.keyHash P (Str.ofString "__file__"), key := Value.str (Str.ofString "__file__") 173, val := Value.str (Str.ofString "/claim/cut.py") 172 }, { hash := PyData.keyHash P (Str.ofString "__cached__"), key := Value.str (Str.ofString "__cached__") 174, val := Value.none }, { hash := PyData.keyHash P (Str.ofString "_wall"), key := Value.str (Str.ofString "_wall") 193, val := Value.ref 21 }, { hash := PyData.keyHash P (Str.ofString "get_attr"), key := Value.str (Str.ofString "get_attr") 203, val := Value.ref 28 }, { hash := PyData.keyHash P (Str.ofString "dim_of"), key := Value.str (Str.ofString "dim_of") 211, val := Value.ref 35 }, { hash := PyData.keyHash P (Str.ofString "CoveError"), key := Value.str (Str.ofString "CoveError") 233, val := Value.ref 45 }, { hash := PyData.keyHash P (Str.ofString "Refusal"), key := Value.str (Str.ofString "Refusal") 258, val := Value.ref 65 }, { hash := PyData.keyHash P (Str.ofString "NAN"), key := Value.str (Str.ofString "NAN") 263, val := Value.ref 68 }, { hash := PyData.keyHash P (Str.ofString "INF"), key := Value.str (Str.ofString "INF") 266, val := Value.ref 69 }, { hash := PyData.keyHash P (Str.ofString "ZERO"), key := Value.str (Str.ofString "ZERO") 269, val := Value.ref 70 }, { hash := PyData.keyHash P (Str.ofString "ONE"), key := Value.str (Str.ofString "ONE") 272, val := Value.ref 71 }, { hash := PyData.keyHash P (Str.ofString "MOST_POWER_rational"), key := Value.str (Str.ofString "MOST_POWER_rational") 274, val := Value.int 4096 273 }, { hash := PyData.keyHash P (Str.ofString "MOST_FIGURES"), key := Value.str (Str.ofString "MOST_FIGURES") 276, val := Value.int 5000 275 }, { hash := PyData.keyHash P (Str.ofString "MOST_PART"), key := Value.str (Str.ofString "MOST_PART") 279, val := Value.int big 278 }, { hash := PyData.keyHash P (Str.ofString "gcd"), key := Value.str (Str.ofString "gcd") 287, val := Value.ref 78 }, { hash := PyData.keyHash P (Str.ofString "bounded"), key := Value.str (Str.ofString "bounded") 295, val := Value.ref 85 }, { hash := PyData.keyHash P (Str.ofString "make"), key := Value.str (Str.ofString "make") 304, val := Value.ref 92 }, { hash := PyData.keyHash P (Str.ofString "from_int"), key := Value.str (Str.ofString "from_int") 311, val := Value.ref 99 }, { hash := PyData.keyHash P (Str.ofString "is_na"), key := Value.str (Str.ofString "is_na") 318, val := Value.ref 106 }, { hash := PyData.keyHash P (Str.ofString "is_finite"), key := Value.str (Str.ofString "is_finite") 325, val := Value.ref 113 }, { hash := PyData.keyHash P (Str.ofString "is_whole"), key := Value.str (Str.ofString "is_whole") 332, val := Value.ref 120 }, { hash := PyData.keyHash P (Str.ofString "marked"), key := Value.str (Str.ofString "marked") 340, val := Value.ref 127 }, { hash := PyData.keyHash P (Str.ofString "neg"), key := Value.str (Str.ofString "neg") 347, val := Value.ref 134 }, { hash := PyData.keyHash P (Str.ofString "add"), key := Value.str (Str.ofString "add") 355, val := Value.ref 141 }, { hash := PyData.keyHash P (Str.ofString "sub"), key := Value.str (Str.ofString "sub") 363, val := Value.ref 148 }, { hash := PyData.keyHash P (Str.ofString "mul"), key := Value.str (Str.ofString "mul") 371, val := Value.ref 155 }, { hash := PyData.keyHash P (Str.ofString "div"), key := Value.str (Str.ofString "div") 379, val := Value.ref 162 }, { hash := PyData.keyHash P (Str.ofString "isqrt"), key := Value.str (Str.ofString "isqrt") 388, val := Value.ref 169 }, { hash := PyData.keyHash P (Str.ofString "root"), key := Value.str (Str.ofString "root") 397, val := Value.ref 176 }, { hash := PyData.keyHash P (Str.ofString "power"), key := Value.str (Str.ofString "power") 405, val := Value.ref 183 }, { hash := PyData.keyHash P (Str.ofString "endless_power"), key := Value.str (Str.ofString "endless_power") 414, val := Value.ref 190 }, { hash := PyData.keyHash P (Str.ofString "infinite_power"), key := Value.str (Str.ofString "infinite_power") 422, val := Value.ref 197 }, { hash := PyData.keyHash P (Str.ofString "whole_power"), key := Value.str (Str.ofString "whole_power") 433, val := Value.ref 204 }, { hash := PyData.keyHash P (Str.ofString "floor"), key := Value.str (Str.ofString "floor") 440, val := Value.ref 211 }, { hash := PyData.keyHash P (Str.ofString "nearest_whole"), key := Value.str (Str.ofString "nearest_whole") 450, val := Value.ref 218 }, { hash := PyData.keyHash P (Str.ofString "exponent"), key := Value.str (Str.ofString "exponent") 460, val := Value.ref 225 }, { hash := PyData.keyHash P (Str.ofString "int_div"), key := Value.str (Str.ofString "int_div") 469, val := Value.ref 232 }, { hash := PyData.keyHash P (Str.ofString "remainder"), key := Value.str (Str.ofString "remainder") 477, val := Value.ref 239 }, { hash := PyData.keyHash P (Str.ofString "compare"), key := Value.str (Str.ofString "compare") 487, val := Value.ref 246 }, { hash := PyData.keyHash P (Str.ofString "Vector"), key := Value.str (Str.ofString "Vector") 531, val := Value.ref 271 }, { hash := PyData.keyHash P (Str.ofString "Symbol"), key := Value.str (Str.ofString "Symbol") 562, val := Value.ref 292 }, { hash := PyData.keyHash P (Str.ofString "Call"), key := Value.str (Str.ofString "Call") 597, val := Value.ref 314 }, { hash := PyData.keyHash P (Str.ofString "whole"), key := Value.str (Str.ofString "whole") 604, val := Value.ref 325 }, { hash := PyData.keyHash P (Str.ofString "text"), key := Value.str (Str.ofString "text") 611, val := Value.ref 332 }, { hash := PyData.keyHash P (Str.ofString "number"), key := Value.str (Str.ofString "number") 622, val := Value.ref 340 }, { hash := PyData.keyHash P (Str.ofString "call_of"), key := Value.str (Str.ofString "call_of") 631, val := Value.ref 347 }, { hash := PyData.keyHash P (Str.ofString "length"), key := Value.str (Str.ofString "length") 639, val := Value.ref 354 }, { hash := PyData.keyHash P (Str.ofString "is_atomic"), key := Value.str (Str.ofString "is_atomic") 646, val := Value.ref 361 }, { hash := PyData.keyHash P (Str.ofString "share"), key := Value.str (Str.ofString "share") 653, val := Value.ref 368 }, { hash := PyData.keyHash P (Str.ofString "MOST_INTEGER"), key := Value.str (Str.ofString "MOST_INTEGER") 657, val := Value.int 2147483647 656 }, { hash := PyData.keyHash P (Str.ofString "MOST_DOUBLE"), key := Value.str (Str.ofString "MOST_DOUBLE") 661, val := Value.int big 660 }, { hash := PyData.keyHash P (Str.ofString "recycle_length"), key := Value.str (Str.ofString "recycle_length") 669, val := Value.ref 375 }, { hash := PyData.keyHash P (Str.ofString "note_recycling"), key := Value.str (Str.ofString "note_recycling") 678, val := Value.ref 382 }, { hash := PyData.keyHash P (Str.ofString "product"), key := Value.str (Str.ofString "product") 687, val := Value.ref 389 }, { hash := PyData.keyHash P (Str.ofString "result_dim"), key := Value.str (Str.ofString "result_dim") 700, val := Value.ref 396 }, { hash := PyData.keyHash P (Str.ofString "note_array_of_one"), key := Value.str (Str.ofString "note_array_of_one") 712, val := Value.ref 403 }, { hash := PyData.keyHash P (Str.ofString "common_length"), key := Value.str (Str.ofString "common_length") 721, val := Value.ref 410 }, { hash := PyData.keyHash P (Str.ofString "attribute"), key := Value.str (Str.ofString "attribute") 729, val := Value.ref 417 }, { hash := PyData.keyHash P (Str.ofString "shape_attrs"), key := Value.str (Str.ofString "shape_attrs") 742, val := Value.ref 424 }, { hash := PyData.keyHash P (Str.ofString "result_attrs"), key := Value.str (Str.ofString "result_attrs") 754, val := Value.ref 431 }, { hash := PyData.keyHash P (Str.ofString "integer_op"), key := Value.str (Str.ofString "integer_op") 764, val := Value.ref 438 }, { hash := PyData.keyHash P (Str.ofString "within"), key := Value.str (Str.ofString "within") 771, val := Value.ref 445 }, { hash := PyData.keyHash P (Str.ofString "double_op"), key := Value.str (Str.ofString "double_op") 780, val := Value.ref 452 }, { hash := PyData.keyHash P (Str.ofString "number_items"), key := Value.str (Str.ofString "number_items") 787, val := Value.ref 459 }, { hash := PyData.keyHash P (Str.ofString "double_items"), key := Value.str (Str.ofString "double_items") 793, val := Value.ref 630 }, { hash := PyData.keyHash P (Str.ofString "double_items_arith"), key := Value.str (Str.ofString "double_items_arith") 794, val := Value.ref 464 }, { hash := PyData.keyHash P (Str.ofString "integer_result"), key := Value.str (Str.ofString "integer_result") 811, val := Value.ref 471 }, { hash := PyData.keyHash P (Str.ofString "double_result"), key := Value.str (Str.ofString "double_result") 817, val := Value.ref 476 }, { hash := PyData.keyHash P (Str.ofString "arith"), key := Value.str (Str.ofString "arith") 831, val := Value.ref 483 }, { hash := PyData.keyHash P (Str.ofString "keep_all"), key := Value.str (Str.ofString "keep_all") 839, val := Value.ref 490 }, { hash := PyData.keyHash P (Str.ofString "check_unary"), key := Value.str (Str.ofString "check_unary") 846, val := Value.ref 497 }, { hash := PyData.keyHash P (Str.ofString "negate"), key := Value.str (Str.ofString "negate") 852, val := Value.ref 502 }, { hash := PyData.keyHash P (Str.ofString "plus"), key := Value.str (Str.ofString "plus") 861, val := Value.ref 509 }, { hash := PyData.keyHash P (Str.ofString "whole_text"), key := Value.str (Str.ofString "whole_text") 873, val := Value.ref 516 }, { hash := PyData.keyHash P (Str.ofString "special_text"), key := Value.str (Str.ofString "special_text") 880, val := Value.ref 523 }, { hash := PyData.keyHash P (Str.ofString "scaled"), key := Value.str (Str.ofString "scaled") 890, val := Value.ref 530 }, { hash := PyData.keyHash P (Str.ofString "significant"), key := Value.str (Str.ofString "significant") 900, val := Value.ref 537 }, { hash := PyData.keyHash P (Str.ofString "without_tail"), key := Value.str (Str.ofString "without_tail") 908, val := Value.ref 544 }, { hash := PyData.keyHash P (Str.ofString "scientific_text"), key := Value.str (Str.ofString "scientific_text") 920, val := Value.ref 551 }, { hash := PyData.keyHash P (Str.ofString "fixed_text"), key := Value.str (Str.ofString "fixed_text") 930, val := Value.ref 558 }, { hash := PyData.keyHash P (Str.ofString "measures"), key := Value.str (Str.ofString "measures") 943, val := Value.ref 565 }, { hash := PyData.keyHash P (Str.ofString "chosen_form"), key := Value.str (Str.ofString "chosen_form") 960, val := Value.ref 572 }, { hash := PyData.keyHash P (Str.ofString "formed"), key := Value.str (Str.ofString "formed") 969, val := Value.ref 579 }, { hash := PyData.keyHash P (Str.ofString "common_texts"), key := Value.str (Str.ofString "common_texts") 975, val := Value.ref 584 }, { hash := PyData.keyHash P (Str.ofString "number_text"), key := Value.str (Str.ofString "number_text") 984, val := Value.ref 592 }, { hash := PyData.keyHash P (Str.ofString "to_text"), key := Value.str (Str.ofString "to_text") 994, val := Value.ref 599 }, { hash := PyData.keyHash P (Str.ofString "holds"), key := Value.str (Str.ofString "holds") 1005, val := Value.ref 606 }, { hash := PyData.keyHash P (Str.ofString "plain_order"), key := Value.str (Str.ofString "plain_order") 1013, val := Value.ref 613 }, { hash := PyData.keyHash P (Str.ofString "comparable"), key := Value.str (Str.ofString "comparable") 1022, val := Value.ref 620 }, { hash := PyData.keyHash P (Str.ofString "text_items"), key := Value.str (Str.ofString "text_items") 1028, val := Value.ref 625 }, { hash := PyData.keyHash P (Str.ofString "double_items_compare"), key := Value.str (Str.ofString "double_items_compare") 1035, val := Value.ref 630 }, { hash := PyData.keyHash P (Str.ofString "compare_op"), key := Value.str (Str.ofString "compare_op") 1041, val := Value.ref 636 }, { hash := PyData.keyHash P (Str.ofString "and_items"), key := Value.str (Str.ofString "and_items") 1051, val := Value.ref 643 }, { hash := PyData.keyHash P (Str.ofString "or_items"), key := Value.str (Str.ofString "or_items") 1059, val := Value.ref 650 }, { hash := PyData.keyHash P (Str.ofString "not_item"), key := Value.str (Str.ofString "not_item") 1066, val := Value.ref 657 }, { hash := PyData.keyHash P (Str.ofString "truth_item"), key := Value.str (Str.ofString "truth_item") 1074, val := Value.ref 664 }, { hash := PyData.keyHash P (Str.ofString "truth_items"), key := Value.str (Str.ofString "truth_items") 1080, val := Value.ref 669 }, { hash := PyData.keyHash P (Str.ofString "logic_operand"), key := Value.str (Str.ofString "logic_operand") 1087, val := Value.ref 676 }, { hash := PyData.keyHash P (Str.ofString "logic_pairs"), key := Value.str (Str.ofString "logic_pairs") 1093, val := Value.ref 681 }, { hash := PyData.keyHash P (Str.ofString "logic_and"), key := Value.str (Str.ofString "logic_and") 1102, val := Value.ref 688 }, { hash := PyData.keyHash P (Str.ofString "logic_or"), key := Value.str (Str.ofString "logic_or") 1111, val := Value.ref 695 }, { hash := PyData.keyHash P (Str.ofString "logic_not"), key := Value.str (Str.ofString "logic_not") 1117, val := Value.ref 700 }, { hash := PyData.keyHash P (Str.ofString "MOST_CALLS"), key := Value.str (Str.ofString "MOST_CALLS") 1121, val := Value.int 200 1120 }, { hash := PyData.keyHash P (Str.ofString "MOST_DEEP"), key := Value.str (Str.ofString "MOST_DEEP") 1123, val := Value.int 40 1122 }, { hash := PyData.keyHash P (Str.ofString "MOST_POWER_fold"), key := Value.str (Str.ofString "MOST_POWER_fold") 1125, val := Value.int 100 1124 }, { hash := PyData.keyHash P (Str.ofString "arith_names"), key := Value.str (Str.ofString "arith_names") 1131, val := Value.ref 707 }, { hash := PyData.keyHash P (Str.ofString "compare_names"), key := Value.str (Str.ofString "compare_names") 1137, val := Value.ref 714 }, { hash := PyData.keyHash P (Str.ofString "safe_names"), key := Value.str (Str.ofString "safe_names") 1143, val := Value.ref 721 }, { hash := PyData.keyHash P (Str.ofString "is_constant"), key := Value.str (Str.ofString "is_constant") 1150, val := Value.ref 728 }, { hash := PyData.keyHash P (Str.ofString "plain_call_name"), key := Value.str (Str.ofString "plain_call_name") 1158, val := Value.ref 735 }, { hash := PyData.keyHash P (Str.ofString "unary_value"), key := Value.str (Str.ofString "unary_value") 1167, val := Value.ref 742 }, { hash := PyData.keyHash P (Str.ofString "binary_value"), key := Value.str (Str.ofString "binary_value") 1177, val := Value.ref 749 }, { hash := PyData.keyHash P (Str.ofString "is_great"), key := Value.str (Str.ofString "is_great") 1184, val := Value.ref 756 }, { hash := PyData.keyHash P (Str.ofString "call_value"), key := Value.str (Str.ofString "call_value") 1194, val := Value.ref 763 }, { hash := PyData.keyHash P (Str.ofString "fold"), key := Value.str (Str.ofString "fold") 1202, val := Value.ref 770 }, { hash := PyData.keyHash P (Str.ofString "fold_within"), key := Value.str (Str.ofString "fold_within") 1217, val := Value.ref 777 }, { hash := PyData.keyHash P (Str.ofString "law"), key := Value.str (Str.ofString "law") 1225, val := Value.ref 782 }] 124 }) ::
  (nat_lit 27, { cls := Value.type "code", data := Data.fields #[Value.str (Str.ofString "get_attr") 196, Value.str (Str.ofString "get_attr") 197, Value.str (Str.ofString "/claim/cut.py") 198, Value.int 5 0, Value.int 2 0, Value.int 0 0, Value.int 0 0, Value.int 3 0, Value.ref 22, Value.bool true, Value.int 181 0, Value.ref 23, Value.none, Value.ref 24, Value.ref 25, Value.ref 26, Value.int 201 0, Value.int 5 0, Value.str (Str.ofString "/claim/cut.py") 202] }) ::
  (nat_lit 28, pick (a := fnO (st 2) "get_attr" (.str "vectorcove.attrs" 194) 27 (.none)) (by conv => lhs; whnf)) ::
  (nat_lit 34, { cls := Value.type "code", data := Data.fields #[Value.str (Str.ofString "dim_of") 204, Value.str (Str.ofString "dim_of") 205, Value.str (Str.ofString "/claim/cut.py") 206, Value.int 9 0, Value.int 1 0, Value.int 0 0, Value.int 0 0, Value.int 3 0, Value.ref 29, Value.bool true, Value.int 181 0, Value.ref 30, Value.none, Value.ref 31, Value.ref 32, Value.ref 33, Value.int 209 0, Value.int 9 0, Value.str (Str.ofString "/claim/cut.py") 210] }) ::
  (nat_lit 35, pick (a := fnO (st 3) "dim_of" (.str "vectorcove.attrs" 194) 34 (.none)) (by conv => lhs; whnf)) ::
  (nat_lit 45, { cls := Value.type "type", data := Data.cls { name := Str.ofString "CoveError", bases := [Value.type "Exception"], mro := [Value.ref 45, Value.type "Exception", Value.type "BaseException", Value.type "object"], ns := 44, qualname := Str.ofString "CoveError", subclasses := [Value.ref 65] }, slots := #[some (Value.ref 36), none, some (Value.str (Str.ofString "CoveError") 214), some (Value.str (Str.ofString "CoveError") 222), some (Value.builtin "Exception.__new__"), some (Value.bool true)] }) ::
  (nat_lit 65, { cls := Value.type "type", data := Data.cls { name := Str.ofString "Refusal", bases := [Value.ref 45], mro := [Value.ref 65, Value.ref 45, Value.type "Exception", Value.type "BaseException", Value.type "object"], ns := 64, qualname := Str.ofString "Refusal" }, slots := #[some (Value.ref 49), none, some (Value.str (Str.ofString "Refusal") 234), some (Value.str (Str.ofString "Refusal") 242), some (Value.builtin "Exception.__new__"), some (Value.bool true)] }) ::
  (nat_lit 68, { cls := Value.type "tuple", data := Data.seq #[Value.int 0 261, Value.int 0 262] }) ::
  (nat_lit 69, { cls := Value.type "tuple", data := Data.seq #[Value.int 1 264, Value.int 0 265] }) ::
  (nat_lit 70, { cls := Value.type "tuple", data := Data.seq #[Value.int 0 267, Value.int 1 268] }) ::
  (nat_lit 71, { cls := Value.type "tuple", data := Data.seq #[Value.int 1 270, Value.int 1 271] }) ::
  (nat_lit 77, { cls := Value.type "code", data := Data.fields #[Value.str (Str.ofString "gcd") 280, Value.str (Str.ofString "gcd") 281, Value.str (Str.ofString "/claim/cut.py") 282, Value.int 29 0, Value.int 2 0, Value.int 0 0, Value.int 0 0, Value.int 3 0, Value.ref 72, Value.bool true, Value.int 181 0, Value.ref 73, Value.none, Value.ref 74, Value.ref 75, Value.ref 76, Value.int 285 0, Value.int 29 0, Value.str (Str.ofString "/claim/cut.py") 286] }) ::
  (nat_lit 78, pick (a := fnO (st 15) "gcd" (.str "vectorcove.rational" 259) 77 (.none)) (by conv => lhs; whnf)) ::
  (nat_lit 84, { cls := Value.type "code", data := Data.fields #[Value.str (Str.ofString "bounded") 288, Value.str (Str.ofString "bounded") 289, Value.str (Str.ofString "/claim/cut.py") 290, Value.int 33 0, Value.int 2 0, Value.int 0 0, Value.int 0 0, Value.int 3 0, Value.ref 79, Value.bool true, Value.int 181 0, Value.ref 80, Value.none, Value.ref 81, Value.ref 82, Value.ref 83, Value.int 293 0, Value.int 33 0, Value.str (Str.ofString "/claim/cut.py") 294] }) ::
  (nat_lit 85, pick (a := fnO (st 16) "bounded" (.str "vectorcove.rational" 259) 84 (.none)) (by conv => lhs; whnf)) ::
  (nat_lit 91, { cls := Value.type "code", data := Data.fields #[Value.str (Str.ofString "make") 296, Value.str (Str.ofString "make") 297, Value.str (Str.ofString "/claim/cut.py") 298, Value.int 37 0, Value.int 2 0, Value.int 0 0, Value.int 0 0, Value.int 3 0, Value.ref 86, Value.bool true, Value.int 181 0, Value.ref 87, Value.none, Value.ref 88, Value.ref 89, Value.ref 90, Value.int 302 0, Value.int 37 0, Value.str (Str.ofString "/claim/cut.py") 303] }) ::
  (nat_lit 92, pick (a := fnO (st 17) "make" (.str "vectorcove.rational" 259) 91 (.none)) (by conv => lhs; whnf)) ::
  (nat_lit 98, { cls := Value.type "code", data := Data.fields #[Value.str (Str.ofString "from_int") 305, Value.str (Str.ofString "from_int") 306, Value.str (Str.ofString "/claim/cut.py") 307, Value.int 47 0, Value.int 1 0, Value.int 0 0, Value.int 0 0, Value.int 3 0, Value.ref 93, Value.bool true, Value.int 181 0, Value.ref 94, Value.none, Value.ref 95, Value.ref 96, Value.ref 97, Value.int 309 0, Value.int 47 0, Value.str (Str.ofString "/claim/cut.py") 310] }) ::
  (nat_lit 99, pick (a := fnO (st 18) "from_int" (.str "vectorcove.rational" 259) 98 (.none)) (by conv => lhs; whnf)) ::
  (nat_lit 105, { cls := Value.type "code", data := Data.fields #[Value.str (Str.ofString "is_na") 312, Value.str (Str.ofString "is_na") 313, Value.str (Str.ofString "/claim/cut.py") 314, Value.int 51 0, Value.int 1 0, Value.int 0 0, Value.int 0 0, Value.int 3 0, Value.ref 100, Value.bool true, Value.int 181 0, Value.ref 101, Value.none, Value.ref 102, Value.ref 103, Value.ref 104, Value.int 316 0, Value.int 51 0, Value.str (Str.ofString "/claim/cut.py") 317] }) ::
  (nat_lit 106, pick (a := fnO (st 19) "is_na" (.str "vectorcove.rational" 259) 105 (.none)) (by conv => lhs; whnf)) ::
  (nat_lit 140, { cls := Value.type "code", data := Data.fields #[Value.str (Str.ofString "add") 348, Value.str (Str.ofString "add") 349, Value.str (Str.ofString "/claim/cut.py") 350, Value.int 65 0, Value.int 2 0, Value.int 0 0, Value.int 0 0, Value.int 3 0, Value.ref 135, Value.bool true, Value.int 181 0, Value.ref 136, Value.none, Value.ref 137, Value.ref 138, Value.ref 139, Value.int 353 0, Value.int 65 0, Value.str (Str.ofString "/claim/cut.py") 354] }) ::
  (nat_lit 141, pick (a := fnO (st 24) "add" (.str "vectorcove.rational" 259) 140 (.none)) (by conv => lhs; whnf)) ::
  (nat_lit 182, { cls := Value.type "code", data := Data.fields #[Value.str (Str.ofString "power") 398, Value.str (Str.ofString "power") 399, Value.str (Str.ofString "/claim/cut.py") 400, Value.int 110 0, Value.int 2 0, Value.int 0 0, Value.int 0 0, Value.int 3 0, Value.ref 177, Value.bool true, Value.int 181 0, Value.ref 178, Value.none, Value.ref 179, Value.ref 180, Value.ref 181, Value.int 403 0, Value.int 110 0, Value.str (Str.ofString "/claim/cut.py") 404] }) ::
  (nat_lit 183, pick (a := fnO (st 30) "power" (.str "vectorcove.rational" 259) 182 (.none)) (by conv => lhs; whnf)) ::
  (nat_lit 203, { cls := Value.type "code", data := Data.fields #[Value.str (Str.ofString "whole_power") 423, Value.str (Str.ofString "whole_power") 424, Value.str (Str.ofString "/claim/cut.py") 425, Value.int 141 0, Value.int 2 0, Value.int 0 0, Value.int 0 0, Value.int 3 0, Value.ref 198, Value.bool true, Value.int 181 0, Value.ref 199, Value.none, Value.ref 200, Value.ref 201, Value.ref 202, Value.int 431 0, Value.int 141 0, Value.str (Str.ofString "/claim/cut.py") 432] }) ::
  (nat_lit 204, pick (a := fnO (st 33) "whole_power" (.str "vectorcove.rational" 259) 203 (.none)) (by conv => lhs; whnf)) ::
  (nat_lit 254, { cls := Value.type "tuple", data := Data.seq #[Value.none] }) ::
  (nat_lit 260, { cls := Value.type "code", data := Data.fields #[Value.str (Str.ofString "__init__") 502, Value.str (Str.ofString "Vector.__init__") 503, Value.str (Str.ofString "/claim/cut.py") 504, Value.int 218 0, Value.int 4 0, Value.int 0 0, Value.int 0 0, Value.int 3 0, Value.ref 255, Value.bool true, Value.int 181 0, Value.ref 256, Value.none, Value.ref 257, Value.ref 258, Value.ref 259, Value.int 509 0, Value.int 218 0, Value.str (Str.ofString "/claim/cut.py") 510] }) ::
  (nat_lit 261, pick (a := fnO (inCls 41 0) "Vector.__init__" (.str "vectorcove.values" 488) 260 (.ref 254)) (by conv => lhs; whnf)) ::
  (nat_lit 270, { cls := Value.type "dict", data := Data.dict #[{ hash := PyData.keyHash P (Str.ofString "__module__"), key := Value.str (Str.ofString "__module__") 497, val := Value.str (Str.ofString "vectorcove.values") 488 }, { hash := PyData.keyHash P (Str.ofString "__firstlineno__"), key := Value.str (Str.ofString "__firstlineno__") 501, val := Value.int 216 500 }, { hash := PyData.keyHash P (Str.ofString "__init__"), key := Value.str (Str.ofString "__init__") 511, val := Value.ref 261 }, { hash := PyData.keyHash P (Str.ofString "copy"), key := Value.str (Str.ofString "copy") 518, val := Value.ref 268 }, { hash := PyData.keyHash P (Str.ofString "__static_attributes__"), key := Value.str (Str.ofString "__static_attributes__") 524, val := Value.ref 269 }, { hash := PyData.keyHash P (Str.ofString "__dict__"), key := Value.str (Str.ofString "__dict__") 526, val := Value.ref 272 }, { hash := PyData.keyHash P (Str.ofString "__weakref__"), key := Value.str (Str.ofString "__weakref__") 528, val := Value.ref 273 }, { hash := PyData.keyHash P (Str.ofString "__doc__"), key := Value.str (Str.ofString "__doc__") 529, val := Value.none }] 4 }) ::
  (nat_lit 271, { cls := Value.type "type", data := Data.cls { name := Str.ofString "Vector", bases := [Value.type "object"], mro := [Value.ref 271, Value.type "object"], ns := 270, qualname := Str.ofString "Vector" }, slots := #[none, none, some (Value.str (Str.ofString "Vector") 490), some (Value.str (Str.ofString "Vector") 498), some (Value.builtin "object.__new__"), some (Value.bool true)] }) ::
  (nat_lit 288, { cls := Value.type "code", data := Data.fields #[Value.str (Str.ofString "__init__") 544, Value.str (Str.ofString "Symbol.__init__") 545, Value.str (Str.ofString "/claim/cut.py") 546, Value.int 229 0, Value.int 2 0, Value.int 0 0, Value.int 0 0, Value.int 3 0, Value.ref 283, Value.bool true, Value.int 181 0, Value.ref 284, Value.none, Value.ref 285, Value.ref 286, Value.ref 287, Value.int 549 0, Value.int 229 0, Value.str (Str.ofString "/claim/cut.py") 550] }) ::
  (nat_lit 289, pick (a := fnO (inCls 42 0) "Symbol.__init__" (.str "vectorcove.values" 488) 288 (.none)) (by conv => lhs; whnf)) ::
  (nat_lit 291, { cls := Value.type "dict", data := Data.dict #[{ hash := PyData.keyHash P (Str.ofString "__module__"), key := Value.str (Str.ofString "__module__") 539, val := Value.str (Str.ofString "vectorcove.values") 488 }, { hash := PyData.keyHash P (Str.ofString "__firstlineno__"), key := Value.str (Str.ofString "__firstlineno__") 543, val := Value.int 227 542 }, { hash := PyData.keyHash P (Str.ofString "__init__"), key := Value.str (Str.ofString "__init__") 551, val := Value.ref 289 }, { hash := PyData.keyHash P (Str.ofString "__static_attributes__"), key := Value.str (Str.ofString "__static_attributes__") 555, val := Value.ref 290 }, { hash := PyData.keyHash P (Str.ofString "__dict__"), key := Value.str (Str.ofString "__dict__") 557, val := Value.ref 293 }, { hash := PyData.keyHash P (Str.ofString "__weakref__"), key := Value.str (Str.ofString "__weakref__") 559, val := Value.ref 294 }, { hash := PyData.keyHash P (Str.ofString "__doc__"), key := Value.str (Str.ofString "__doc__") 560, val := Value.none }] 4 }) ::
  (nat_lit 292, { cls := Value.type "type", data := Data.cls { name := Str.ofString "Symbol", bases := [Value.type "object"], mro := [Value.ref 292, Value.type "object"], ns := 291, qualname := Str.ofString "Symbol" }, slots := #[none, none, some (Value.str (Str.ofString "Symbol") 532), some (Value.str (Str.ofString "Symbol") 540), some (Value.builtin "object.__new__"), some (Value.bool true)] }) ::
  (nat_lit 304, { cls := Value.type "tuple", data := Data.seq #[Value.none] }) ::
  (nat_lit 310, { cls := Value.type "code", data := Data.fields #[Value.str (Str.ofString "__init__") 575, Value.str (Str.ofString "Call.__init__") 576, Value.str (Str.ofString "/claim/cut.py") 577, Value.int 235 0, Value.int 4 0, Value.int 0 0, Value.int 0 0, Value.int 3 0, Value.ref 305, Value.bool true, Value.int 181 0, Value.ref 306, Value.none, Value.ref 307, Value.ref 308, Value.ref 309, Value.int 582 0, Value.int 235 0, Value.str (Str.ofString "/claim/cut.py") 583] }) ::
  (nat_lit 311, pick (a := fnO (inCls 43 0) "Call.__init__" (.str "vectorcove.values" 488) 310 (.ref 304)) (by conv => lhs; whnf)) ::
  (nat_lit 313, { cls := Value.type "dict", data := Data.dict #[{ hash := PyData.keyHash P (Str.ofString "__module__"), key := Value.str (Str.ofString "__module__") 570, val := Value.str (Str.ofString "vectorcove.values") 488 }, { hash := PyData.keyHash P (Str.ofString "__firstlineno__"), key := Value.str (Str.ofString "__firstlineno__") 574, val := Value.int 233 573 }, { hash := PyData.keyHash P (Str.ofString "__init__"), key := Value.str (Str.ofString "__init__") 584, val := Value.ref 311 }, { hash := PyData.keyHash P (Str.ofString "__static_attributes__"), key := Value.str (Str.ofString "__static_attributes__") 590, val := Value.ref 312 }, { hash := PyData.keyHash P (Str.ofString "__dict__"), key := Value.str (Str.ofString "__dict__") 592, val := Value.ref 315 }, { hash := PyData.keyHash P (Str.ofString "__weakref__"), key := Value.str (Str.ofString "__weakref__") 594, val := Value.ref 316 }, { hash := PyData.keyHash P (Str.ofString "__doc__"), key := Value.str (Str.ofString "__doc__") 595, val := Value.none }] 4 }) ::
  (nat_lit 314, { cls := Value.type "type", data := Data.cls { name := Str.ofString "Call", bases := [Value.type "object"], mro := [Value.ref 314, Value.type "object"], ns := 313, qualname := Str.ofString "Call" }, slots := #[none, none, some (Value.str (Str.ofString "Call") 563), some (Value.str (Str.ofString "Call") 571), some (Value.builtin "object.__new__"), some (Value.bool true)] }) ::
  (nat_lit 324, { cls := Value.type "code", data := Data.fields #[Value.str (Str.ofString "whole") 598, Value.str (Str.ofString "whole") 599, Value.str (Str.ofString "/claim/cut.py") 600, Value.int 241 0, Value.int 1 0, Value.int 0 0, Value.int 0 0, Value.int 3 0, Value.ref 319, Value.bool true, Value.int 181 0, Value.ref 320, Value.none, Value.ref 321, Value.ref 322, Value.ref 323, Value.int 602 0, Value.int 241 0, Value.str (Str.ofString "/claim/cut.py") 603] }) ::
  (nat_lit 325, pick (a := fnO (st 44) "whole" (.str "vectorcove.values" 488) 324 (.none)) (by conv => lhs; whnf)) ::
  (nat_lit 333, { cls := Value.type "tuple", data := Data.seq #[Value.int 1 612] }) ::
  (nat_lit 339, { cls := Value.type "code", data := Data.fields #[Value.str (Str.ofString "number") 613, Value.str (Str.ofString "number") 614, Value.str (Str.ofString "/claim/cut.py") 615, Value.int 245 0, Value.int 2 0, Value.int 0 0, Value.int 0 0, Value.int 3 0, Value.ref 334, Value.bool true, Value.int 181 0, Value.ref 335, Value.none, Value.ref 336, Value.ref 337, Value.ref 338, Value.int 620 0, Value.int 245 0, Value.str (Str.ofString "/claim/cut.py") 621] }) ::
  (nat_lit 340, pick (a := fnO (st 46) "number" (.str "vectorcove.values" 488) 339 (.ref 333)) (by conv => lhs; whnf)) ::
  (nat_lit 346, { cls := Value.type "code", data := Data.fields #[Value.str (Str.ofString "call_of") 623, Value.str (Str.ofString "call_of") 624, Value.str (Str.ofString "/claim/cut.py") 625, Value.int 251 0, Value.int 2 0, Value.int 0 0, Value.int 0 0, Value.int 3 0, Value.ref 341, Value.bool true, Value.int 181 0, Value.ref 342, Value.none, Value.ref 343, Value.ref 344, Value.ref 345, Value.int 629 0, Value.int 251 0, Value.str (Str.ofString "/claim/cut.py") 630] }) ::
  (nat_lit 347, pick (a := fnO (st 47) "call_of" (.str "vectorcove.values" 488) 346 (.none)) (by conv => lhs; whnf)) ::
  (nat_lit 353, { cls := Value.type "code", data := Data.fields #[Value.str (Str.ofString "length") 632, Value.str (Str.ofString "length") 633, Value.str (Str.ofString "/claim/cut.py") 634, Value.int 254 0, Value.int 1 0, Value.int 0 0, Value.int 0 0, Value.int 3 0, Value.ref 348, Value.bool true, Value.int 181 0, Value.ref 349, Value.none, Value.ref 350, Value.ref 351, Value.ref 352, Value.int 637 0, Value.int 254 0, Value.str (Str.ofString "/claim/cut.py") 638] }) ::
  (nat_lit 354, pick (a := fnO (st 48) "length" (.str "vectorcove.values" 488) 353 (.none)) (by conv => lhs; whnf)) ::
  (nat_lit 360, { cls := Value.type "code", data := Data.fields #[Value.str (Str.ofString "is_atomic") 640, Value.str (Str.ofString "is_atomic") 641, Value.str (Str.ofString "/claim/cut.py") 642, Value.int 265 0, Value.int 1 0, Value.int 0 0, Value.int 0 0, Value.int 3 0, Value.ref 355, Value.bool true, Value.int 181 0, Value.ref 356, Value.none, Value.ref 357, Value.ref 358, Value.ref 359, Value.int 644 0, Value.int 265 0, Value.str (Str.ofString "/claim/cut.py") 645] }) ::
  (nat_lit 361, pick (a := fnO (st 49) "is_atomic" (.str "vectorcove.values" 488) 360 (.none)) (by conv => lhs; whnf)) ::
  (nat_lit 367, { cls := Value.type "code", data := Data.fields #[Value.str (Str.ofString "share") 647, Value.str (Str.ofString "share") 648, Value.str (Str.ofString "/claim/cut.py") 649, Value.int 267 0, Value.int 1 0, Value.int 0 0, Value.int 0 0, Value.int 3 0, Value.ref 362, Value.bool true, Value.int 181 0, Value.ref 363, Value.none, Value.ref 364, Value.ref 365, Value.ref 366, Value.int 651 0, Value.int 267 0, Value.str (Str.ofString "/claim/cut.py") 652] }) ::
  (nat_lit 368, pick (a := fnO (st 50) "share" (.str "vectorcove.values" 488) 367 (.none)) (by conv => lhs; whnf)) ::
  (nat_lit 374, { cls := Value.type "code", data := Data.fields #[Value.str (Str.ofString "recycle_length") 662, Value.str (Str.ofString "recycle_length") 663, Value.str (Str.ofString "/claim/cut.py") 664, Value.int 274 0, Value.int 2 0, Value.int 0 0, Value.int 0 0, Value.int 3 0, Value.ref 369, Value.bool true, Value.int 181 0, Value.ref 370, Value.none, Value.ref 371, Value.ref 372, Value.ref 373, Value.int 667 0, Value.int 274 0, Value.str (Str.ofString "/claim/cut.py") 668] }) ::
  (nat_lit 375, pick (a := fnO (st 54) "recycle_length" (.str "vectorcove.arith" 654) 374 (.none)) (by conv => lhs; whnf)) ::
  (nat_lit 381, { cls := Value.type "code", data := Data.fields #[Value.str (Str.ofString "note_recycling") 670, Value.str (Str.ofString "note_recycling") 671, Value.str (Str.ofString "/claim/cut.py") 672, Value.int 278 0, Value.int 3 0, Value.int 0 0, Value.int 0 0, Value.int 3 0, Value.ref 376, Value.bool true, Value.int 181 0, Value.ref 377, Value.none, Value.ref 378, Value.ref 379, Value.ref 380, Value.int 676 0, Value.int 278 0, Value.str (Str.ofString "/claim/cut.py") 677] }) ::
  (nat_lit 382, pick (a := fnO (st 55) "note_recycling" (.str "vectorcove.arith" 654) 381 (.none)) (by conv => lhs; whnf)) ::
  (nat_lit 395, { cls := Value.type "code", data := Data.fields #[Value.str (Str.ofString "result_dim") 688, Value.str (Str.ofString "result_dim") 689, Value.str (Str.ofString "/claim/cut.py") 690, Value.int 286 0, Value.int 2 0, Value.int 0 0, Value.int 0 0, Value.int 3 0, Value.ref 390, Value.bool true, Value.int 181 0, Value.ref 391, Value.none, Value.ref 392, Value.ref 393, Value.ref 394, Value.int 698 0, Value.int 286 0, Value.str (Str.ofString "/claim/cut.py") 699] }) ::
  (nat_lit 396, pick (a := fnO (st 57) "result_dim" (.str "vectorcove.arith" 654) 395 (.none)) (by conv => lhs; whnf)) ::
  (nat_lit 402, { cls := Value.type "code", data := Data.fields #[Value.str (Str.ofString "note_array_of_one") 701, Value.str (Str.ofString "note_array_of_one") 702, Value.str (Str.ofString "/claim/cut.py") 703, Value.int 306 0, Value.int 3 0, Value.int 0 0, Value.int 0 0, Value.int 3 0, Value.ref 397, Value.bool true, Value.int 181 0, Value.ref 398, Value.none, Value.ref 399, Value.ref 400, Value.ref 401, Value.int 710 0, Value.int 306 0, Value.str (Str.ofString "/claim/cut.py") 711] }) ::
  (nat_lit 403, pick (a := fnO (st 58) "note_array_of_one" (.str "vectorcove.arith" 654) 402 (.none)) (by conv => lhs; whnf)) ::
  (nat_lit 409, { cls := Value.type "code", data := Data.fields #[Value.str (Str.ofString "common_length") 713, Value.str (Str.ofString "common_length") 714, Value.str (Str.ofString "/claim/cut.py") 715, Value.int 312 0, Value.int 3 0, Value.int 0 0, Value.int 0 0, Value.int 3 0, Value.ref 404, Value.bool true, Value.int 181 0, Value.ref 405, Value.none, Value.ref 406, Value.ref 407, Value.ref 408, Value.int 719 0, Value.int 312 0, Value.str (Str.ofString "/claim/cut.py") 720] }) ::
  (nat_lit 410, pick (a := fnO (st 59) "common_length" (.str "vectorcove.arith" 654) 409 (.none)) (by conv => lhs; whnf)) ::
  (nat_lit 416, { cls := Value.type "code", data := Data.fields #[Value.str (Str.ofString "attribute") 722, Value.str (Str.ofString "attribute") 723, Value.str (Str.ofString "/claim/cut.py") 724, Value.int 317 0, Value.int 2 0, Value.int 0 0, Value.int 0 0, Value.int 3 0, Value.ref 411, Value.bool true, Value.int 181 0, Value.ref 412, Value.none, Value.ref 413, Value.ref 414, Value.ref 415, Value.int 727 0, Value.int 317 0, Value.str (Str.ofString "/claim/cut.py") 728] }) ::
  (nat_lit 417, pick (a := fnO (st 60) "attribute" (.str "vectorcove.arith" 654) 416 (.none)) (by conv => lhs; whnf)) ::
  (nat_lit 423, { cls := Value.type "code", data := Data.fields #[Value.str (Str.ofString "shape_attrs") 730, Value.str (Str.ofString "shape_attrs") 731, Value.str (Str.ofString "/claim/cut.py") 732, Value.int 321 0, Value.int 3 0, Value.int 0 0, Value.int 0 0, Value.int 3 0, Value.ref 418, Value.bool true, Value.int 181 0, Value.ref 419, Value.none, Value.ref 420, Value.ref 421, Value.ref 422, Value.int 740 0, Value.int 321 0, Value.str (Str.ofString "/claim/cut.py") 741] }) ::
  (nat_lit 424, pick (a := fnO (st 61) "shape_attrs" (.str "vectorcove.arith" 654) 423 (.none)) (by conv => lhs; whnf)) ::
  (nat_lit 430, { cls := Value.type "code", data := Data.fields #[Value.str (Str.ofString "result_attrs") 743, Value.str (Str.ofString "result_attrs") 744, Value.str (Str.ofString "/claim/cut.py") 745, Value.int 337 0, Value.int 3 0, Value.int 0 0, Value.int 0 0, Value.int 3 0, Value.ref 425, Value.bool true, Value.int 181 0, Value.ref 426, Value.none, Value.ref 427, Value.ref 428, Value.ref 429, Value.int 752 0, Value.int 337 0, Value.str (Str.ofString "/claim/cut.py") 753] }) ::
  (nat_lit 431, pick (a := fnO (st 62) "result_attrs" (.str "vectorcove.arith" 654) 430 (.none)) (by conv => lhs; whnf)) ::
  (nat_lit 444, { cls := Value.type "code", data := Data.fields #[Value.str (Str.ofString "within") 765, Value.str (Str.ofString "within") 766, Value.str (Str.ofString "/claim/cut.py") 767, Value.int 364 0, Value.int 1 0, Value.int 0 0, Value.int 0 0, Value.int 3 0, Value.ref 439, Value.bool true, Value.int 181 0, Value.ref 440, Value.none, Value.ref 441, Value.ref 442, Value.ref 443, Value.int 769 0, Value.int 364 0, Value.str (Str.ofString "/claim/cut.py") 770] }) ::
  (nat_lit 445, pick (a := fnO (st 64) "within" (.str "vectorcove.arith" 654) 444 (.none)) (by conv => lhs; whnf)) ::
  (nat_lit 451, { cls := Value.type "code", data := Data.fields #[Value.str (Str.ofString "double_op") 772, Value.str (Str.ofString "double_op") 773, Value.str (Str.ofString "/claim/cut.py") 774, Value.int 368 0, Value.int 3 0, Value.int 0 0, Value.int 0 0, Value.int 3 0, Value.ref 446, Value.bool true, Value.int 181 0, Value.ref 447, Value.none, Value.ref 448, Value.ref 449, Value.ref 450, Value.int 778 0, Value.int 368 0, Value.str (Str.ofString "/claim/cut.py") 779] }) ::
  (nat_lit 452, pick (a := fnO (st 65) "double_op" (.str "vectorcove.arith" 654) 451 (.none)) (by conv => lhs; whnf)) ::
  (nat_lit 458, { cls := Value.type "code", data := Data.fields #[Value.str (Str.ofString "number_items") 781, Value.str (Str.ofString "number_items") 782, Value.str (Str.ofString "/claim/cut.py") 783, Value.int 382 0, Value.int 1 0, Value.int 0 0, Value.int 0 0, Value.int 3 0, Value.ref 453, Value.bool true, Value.int 181 0, Value.ref 454, Value.none, Value.ref 455, Value.ref 456, Value.ref 457, Value.int 785 0, Value.int 382 0, Value.str (Str.ofString "/claim/cut.py") 786] }) ::
  (nat_lit 459, pick (a := fnO (st 66) "number_items" (.str "vectorcove.arith" 654) 458 (.none)) (by conv => lhs; whnf)) ::
  (nat_lit 463, { cls := Value.type "code", data := Data.fields #[Value.str (Str.ofString "double_items") 788, Value.str (Str.ofString "double_items") 789, Value.str (Str.ofString "/claim/cut.py") 790, Value.int 388 0, Value.int 1 0, Value.int 0 0, Value.int 0 0, Value.int 3 0, Value.ref 460, Value.bool true, Value.int 181 0, Value.ref 461, Value.none, Value.none, Value.none, Value.ref 462, Value.int 791 0, Value.int 388 0, Value.str (Str.ofString "/claim/cut.py") 792] }) ::
  (nat_lit 464, pick (a := fnO (st 67) "double_items" (.str "vectorcove.arith" 654) 463 (.none)) (by conv => lhs; whnf)) ::
  (nat_lit 475, { cls := Value.type "code", data := Data.fields #[Value.str (Str.ofString "double_result") 812, Value.str (Str.ofString "double_result") 813, Value.str (Str.ofString "/claim/cut.py") 814, Value.int 407 0, Value.int 4 0, Value.int 0 0, Value.int 0 0, Value.int 3 0, Value.ref 472, Value.bool true, Value.int 181 0, Value.ref 473, Value.none, Value.none, Value.none, Value.ref 474, Value.int 815 0, Value.int 407 0, Value.str (Str.ofString "/claim/cut.py") 816] }) ::
  (nat_lit 476, pick (a := fnO (st 70) "double_result" (.str "vectorcove.arith" 654) 475 (.none)) (by conv => lhs; whnf)) ::
  (nat_lit 482, { cls := Value.type "code", data := Data.fields #[Value.str (Str.ofString "arith") 818, Value.str (Str.ofString "arith") 819, Value.str (Str.ofString "/claim/cut.py") 820, Value.int 409 0, Value.int 4 0, Value.int 0 0, Value.int 0 0, Value.int 3 0, Value.ref 477, Value.bool true, Value.int 181 0, Value.ref 478, Value.none, Value.ref 479, Value.ref 480, Value.ref 481, Value.int 829 0, Value.int 409 0, Value.str (Str.ofString "/claim/cut.py") 830] }) ::
  (nat_lit 483, pick (a := fnO (st 71) "arith" (.str "vectorcove.arith" 654) 482 (.none)) (by conv => lhs; whnf)) ::
  (nat_lit 706, { cls := Value.type "code", data := Data.fields #[Value.str (Str.ofString "arith_names") 1126, Value.str (Str.ofString "arith_names") 1127, Value.str (Str.ofString "/claim/cut.py") 1128, Value.int 664 0, Value.int 0 0, Value.int 0 0, Value.int 0 0, Value.int 3 0, Value.ref 701, Value.bool true, Value.int 181 0, Value.ref 702, Value.none, Value.ref 703, Value.ref 704, Value.ref 705, Value.int 1129 0, Value.int 664 0, Value.str (Str.ofString "/claim/cut.py") 1130] }) ::
  (nat_lit 707, pick (a := fnO (st 114) "arith_names" (.str "vectorcove.fold" 1118) 706 (.none)) (by conv => lhs; whnf)) ::
  (nat_lit 713, { cls := Value.type "code", data := Data.fields #[Value.str (Str.ofString "compare_names") 1132, Value.str (Str.ofString "compare_names") 1133, Value.str (Str.ofString "/claim/cut.py") 1134, Value.int 666 0, Value.int 0 0, Value.int 0 0, Value.int 0 0, Value.int 3 0, Value.ref 708, Value.bool true, Value.int 181 0, Value.ref 709, Value.none, Value.ref 710, Value.ref 711, Value.ref 712, Value.int 1135 0, Value.int 666 0, Value.str (Str.ofString "/claim/cut.py") 1136] }) ::
  (nat_lit 714, pick (a := fnO (st 115) "compare_names" (.str "vectorcove.fold" 1118) 713 (.none)) (by conv => lhs; whnf)) ::
  (nat_lit 720, { cls := Value.type "code", data := Data.fields #[Value.str (Str.ofString "safe_names") 1138, Value.str (Str.ofString "safe_names") 1139, Value.str (Str.ofString "/claim/cut.py") 1140, Value.int 668 0, Value.int 0 0, Value.int 0 0, Value.int 0 0, Value.int 3 0, Value.ref 715, Value.bool true, Value.int 181 0, Value.ref 716, Value.none, Value.ref 717, Value.ref 718, Value.ref 719, Value.int 1141 0, Value.int 668 0, Value.str (Str.ofString "/claim/cut.py") 1142] }) ::
  (nat_lit 721, pick (a := fnO (st 116) "safe_names" (.str "vectorcove.fold" 1118) 720 (.none)) (by conv => lhs; whnf)) ::
  (nat_lit 727, { cls := Value.type "code", data := Data.fields #[Value.str (Str.ofString "is_constant") 1144, Value.str (Str.ofString "is_constant") 1145, Value.str (Str.ofString "/claim/cut.py") 1146, Value.int 670 0, Value.int 1 0, Value.int 0 0, Value.int 0 0, Value.int 3 0, Value.ref 722, Value.bool true, Value.int 181 0, Value.ref 723, Value.none, Value.ref 724, Value.ref 725, Value.ref 726, Value.int 1148 0, Value.int 670 0, Value.str (Str.ofString "/claim/cut.py") 1149] }) ::
  (nat_lit 728, pick (a := fnO (st 117) "is_constant" (.str "vectorcove.fold" 1118) 727 (.none)) (by conv => lhs; whnf)) ::
  (nat_lit 734, { cls := Value.type "code", data := Data.fields #[Value.str (Str.ofString "plain_call_name") 1151, Value.str (Str.ofString "plain_call_name") 1152, Value.str (Str.ofString "/claim/cut.py") 1153, Value.int 672 0, Value.int 1 0, Value.int 0 0, Value.int 0 0, Value.int 3 0, Value.ref 729, Value.bool true, Value.int 181 0, Value.ref 730, Value.none, Value.ref 731, Value.ref 732, Value.ref 733, Value.int 1156 0, Value.int 672 0, Value.str (Str.ofString "/claim/cut.py") 1157] }) ::
  (nat_lit 735, pick (a := fnO (st 118) "plain_call_name" (.str "vectorcove.fold" 1118) 734 (.none)) (by conv => lhs; whnf)) ::
  (nat_lit 748, { cls := Value.type "code", data := Data.fields #[Value.str (Str.ofString "binary_value") 1168, Value.str (Str.ofString "binary_value") 1169, Value.str (Str.ofString "/claim/cut.py") 1170, Value.int 689 0, Value.int 4 0, Value.int 0 0, Value.int 0 0, Value.int 3 0, Value.ref 743, Value.bool true, Value.int 181 0, Value.ref 744, Value.none, Value.ref 745, Value.ref 746, Value.ref 747, Value.int 1175 0, Value.int 689 0, Value.str (Str.ofString "/claim/cut.py") 1176] }) ::
  (nat_lit 749, pick (a := fnO (st 120) "binary_value" (.str "vectorcove.fold" 1118) 748 (.none)) (by conv => lhs; whnf)) ::
  (nat_lit 755, { cls := Value.type "code", data := Data.fields #[Value.str (Str.ofString "is_great") 1178, Value.str (Str.ofString "is_great") 1179, Value.str (Str.ofString "/claim/cut.py") 1180, Value.int 701 0, Value.int 1 0, Value.int 0 0, Value.int 0 0, Value.int 3 0, Value.ref 750, Value.bool true, Value.int 181 0, Value.ref 751, Value.none, Value.ref 752, Value.ref 753, Value.ref 754, Value.int 1182 0, Value.int 701 0, Value.str (Str.ofString "/claim/cut.py") 1183] }) ::
  (nat_lit 756, pick (a := fnO (st 121) "is_great" (.str "vectorcove.fold" 1118) 755 (.none)) (by conv => lhs; whnf)) ::
  (nat_lit 762, { cls := Value.type "code", data := Data.fields #[Value.str (Str.ofString "call_value") 1185, Value.str (Str.ofString "call_value") 1186, Value.str (Str.ofString "/claim/cut.py") 1187, Value.int 707 0, Value.int 2 0, Value.int 0 0, Value.int 0 0, Value.int 3 0, Value.ref 757, Value.bool true, Value.int 181 0, Value.ref 758, Value.none, Value.ref 759, Value.ref 760, Value.ref 761, Value.int 1192 0, Value.int 707 0, Value.str (Str.ofString "/claim/cut.py") 1193] }) ::
  (nat_lit 763, pick (a := fnO (st 122) "call_value" (.str "vectorcove.fold" 1118) 762 (.none)) (by conv => lhs; whnf)) ::
  (nat_lit 769, { cls := Value.type "code", data := Data.fields #[Value.str (Str.ofString "fold") 1195, Value.str (Str.ofString "fold") 1196, Value.str (Str.ofString "/claim/cut.py") 1197, Value.int 720 0, Value.int 2 0, Value.int 0 0, Value.int 0 0, Value.int 3 0, Value.ref 764, Value.bool true, Value.int 181 0, Value.ref 765, Value.none, Value.ref 766, Value.ref 767, Value.ref 768, Value.int 1200 0, Value.int 720 0, Value.str (Str.ofString "/claim/cut.py") 1201] }) ::
  (nat_lit 770, pick (a := fnO (st 123) "fold" (.str "vectorcove.fold" 1118) 769 (.none)) (by conv => lhs; whnf)) ::
  (nat_lit 776, { cls := Value.type "code", data := Data.fields #[Value.str (Str.ofString "fold_within") 1203, Value.str (Str.ofString "fold_within") 1204, Value.str (Str.ofString "/claim/cut.py") 1205, Value.int 722 0, Value.int 4 0, Value.int 0 0, Value.int 0 0, Value.int 3 0, Value.ref 771, Value.bool true, Value.int 181 0, Value.ref 772, Value.none, Value.ref 773, Value.ref 774, Value.ref 775, Value.int 1215 0, Value.int 722 0, Value.str (Str.ofString "/claim/cut.py") 1216] }) ::
  (nat_lit 777, pick (a := fnO (st 124) "fold_within" (.str "vectorcove.fold" 1118) 776 (.none)) (by conv => lhs; whnf)) ::
  (nat_lit 781, { cls := Value.type "code", data := Data.fields #[Value.str (Str.ofString "law") 1220, Value.str (Str.ofString "law") 1221, Value.str (Str.ofString "/claim/cut.py") 1222, Value.int 740 0, Value.int 1 0, Value.int 0 0, Value.int 0 0, Value.int 3 0, Value.ref 778, Value.bool true, Value.int 181 0, Value.ref 779, Value.none, Value.none, Value.none, Value.ref 780, Value.int 1223 0, Value.int 740 0, Value.str (Str.ofString "/claim/cut.py") 1224] }) ::
  (nat_lit 782, pick (a := fnO (st 126) "law" (.str "law_qd0177_01" 1218) 781 (.none)) (by conv => lhs; whnf)) :: []
noncomputable def loose : List Str := Str.ofString "_wall" :: Str.ofString "get_attr" :: Str.ofString "dim_of" :: Str.ofString "CoveError" :: Str.ofString "Refusal" :: Str.ofString "NAN" :: Str.ofString "INF" :: Str.ofString "ZERO" :: Str.ofString "ONE" :: Str.ofString "MOST_POWER_rational" :: Str.ofString "MOST_FIGURES" :: Str.ofString "MOST_PART" :: Str.ofString "gcd" :: Str.ofString "bounded" :: Str.ofString "make" :: Str.ofString "from_int" :: Str.ofString "is_na" :: Str.ofString "is_finite" :: Str.ofString "is_whole" :: Str.ofString "marked" :: Str.ofString "neg" :: Str.ofString "add" :: Str.ofString "sub" :: Str.ofString "mul" :: Str.ofString "div" :: Str.ofString "isqrt" :: Str.ofString "root" :: Str.ofString "power" :: Str.ofString "endless_power" :: Str.ofString "infinite_power" :: Str.ofString "whole_power" :: Str.ofString "floor" :: Str.ofString "nearest_whole" :: Str.ofString "exponent" :: Str.ofString "int_div" :: Str.ofString "remainder" :: Str.ofString "compare" :: Str.ofString "Vector" :: Str.ofString "Symbol" :: Str.ofString "Call" :: Str.ofString "whole" :: Str.ofString "text" :: Str.ofString "number" :: Str.ofString "call_of" :: Str.ofString "length" :: Str.ofString "is_atomic" :: Str.ofString "share" :: Str.ofString "MOST_INTEGER" :: Str.ofString "MOST_DOUBLE" :: Str.ofString "recycle_length" :: Str.ofString "note_recycling" :: Str.ofString "product" :: Str.ofString "result_dim" :: Str.ofString "note_array_of_one" :: Str.ofString "common_length" :: Str.ofString "attribute" :: Str.ofString "shape_attrs" :: Str.ofString "result_attrs" :: Str.ofString "integer_op" :: Str.ofString "within" :: Str.ofString "double_op" :: Str.ofString "number_items" :: Str.ofString "double_items" :: Str.ofString "double_items_arith" :: Str.ofString "integer_result" :: Str.ofString "double_result" :: Str.ofString "arith" :: Str.ofString "keep_all" :: Str.ofString "check_unary" :: Str.ofString "negate" :: Str.ofString "plus" :: Str.ofString "whole_text" :: Str.ofString "special_text" :: Str.ofString "scaled" :: Str.ofString "significant" :: Str.ofString "without_tail" :: Str.ofString "scientific_text" :: Str.ofString "fixed_text" :: Str.ofString "measures" :: Str.ofString "chosen_form" :: Str.ofString "formed" :: Str.ofString "common_texts" :: Str.ofString "number_text" :: Str.ofString "to_text" :: Str.ofString "holds" :: Str.ofString "plain_order" :: Str.ofString "comparable" :: Str.ofString "text_items" :: Str.ofString "double_items_compare" :: Str.ofString "compare_op" :: Str.ofString "and_items" :: Str.ofString "or_items" :: Str.ofString "not_item" :: Str.ofString "truth_item" :: Str.ofString "truth_items" :: Str.ofString "logic_operand" :: Str.ofString "logic_pairs" :: Str.ofString "logic_and" :: Str.ofString "logic_or" :: Str.ofString "logic_not" :: Str.ofString "MOST_CALLS" :: Str.ofString "MOST_DEEP" :: Str.ofString "MOST_POWER_fold" :: Str.ofString "arith_names" :: Str.ofString "compare_names" :: Str.ofString "safe_names" :: Str.ofString "is_constant" :: Str.ofString "plain_call_name" :: Str.ofString "unary_value" :: Str.ofString "binary_value" :: Str.ofString "is_great" :: Str.ofString "call_value" :: Str.ofString "fold" :: Str.ofString "fold_within" :: []

noncomputable def as : List Addr := nat_lit 2 :: nat_lit 3 :: nat_lit 27 :: nat_lit 28 :: nat_lit 34 :: nat_lit 35 :: nat_lit 45 :: nat_lit 65 :: nat_lit 68 :: nat_lit 69 :: nat_lit 70 :: nat_lit 71 :: nat_lit 77 :: nat_lit 78 :: nat_lit 84 :: nat_lit 85 :: nat_lit 91 :: nat_lit 92 :: nat_lit 98 :: nat_lit 99 :: nat_lit 105 :: nat_lit 106 :: nat_lit 140 :: nat_lit 141 :: nat_lit 182 :: nat_lit 183 :: nat_lit 203 :: nat_lit 204 :: nat_lit 254 :: nat_lit 260 :: nat_lit 261 :: nat_lit 270 :: nat_lit 271 :: nat_lit 288 :: nat_lit 289 :: nat_lit 291 :: nat_lit 292 :: nat_lit 304 :: nat_lit 310 :: nat_lit 311 :: nat_lit 313 :: nat_lit 314 :: nat_lit 324 :: nat_lit 325 :: nat_lit 333 :: nat_lit 339 :: nat_lit 340 :: nat_lit 346 :: nat_lit 347 :: nat_lit 353 :: nat_lit 354 :: nat_lit 360 :: nat_lit 361 :: nat_lit 367 :: nat_lit 368 :: nat_lit 374 :: nat_lit 375 :: nat_lit 381 :: nat_lit 382 :: nat_lit 395 :: nat_lit 396 :: nat_lit 402 :: nat_lit 403 :: nat_lit 409 :: nat_lit 410 :: nat_lit 416 :: nat_lit 417 :: nat_lit 423 :: nat_lit 424 :: nat_lit 430 :: nat_lit 431 :: nat_lit 444 :: nat_lit 445 :: nat_lit 451 :: nat_lit 452 :: nat_lit 458 :: nat_lit 459 :: nat_lit 463 :: nat_lit 464 :: nat_lit 475 :: nat_lit 476 :: nat_lit 482 :: nat_lit 483 :: nat_lit 706 :: nat_lit 707 :: nat_lit 713 :: nat_lit 714 :: nat_lit 720 :: nat_lit 721 :: nat_lit 727 :: nat_lit 728 :: nat_lit 734 :: nat_lit 735 :: nat_lit 748 :: nat_lit 749 :: nat_lit 755 :: nat_lit 756 :: nat_lit 762 :: nat_lit 763 :: nat_lit 769 :: nat_lit 770 :: nat_lit 776 :: nat_lit 777 :: nat_lit 781 :: nat_lit 782 :: []
theorem as_is (P : Params) : as = (K P).map (·.1) := by kernel_rfl!
noncomputable abbrev H : Hook := kHook K as as_is
noncomputable def lv : List (Str × WData) := []
noncomputable abbrev Xt (s : Shared) : Bool := xlAt q lv s && recOk [] s
/-- the run, in the twins' words -/
noncomputable def runF (w : World) (os : OsState) : Option SharedT :=
  go (PySem.W.Fast.tw10156331382660048174 (PySem.W.Fast.tw11892475500146522536 PySem.W.Fast.tw14364793385576792824) pw w) (PySem.W.Fast.tw6613529449190102663 (nat_lit 11) (some (.ref (nat_lit 6)))) (nat_lit 5000) (start0 w os) (topStub pw)
theorem run_isF (w : World) (os : OsState) : go (stepT (denote treeTable) pw w) (stepOk 11 (some (.ref 6))) 5000 (start0 w os) (topStub pw) = runF w os := by
  unfold runF
  rw [← PySem.W.Fast.te10156331382660048174, ← PySem.W.Fast.te11892475500146522536, ← PySem.W.Fast.te14364793385576792824, ← PySem.W.Fast.te6613529449190102663]


noncomputable def obsF (w : World) (s : Shared) :=
  ((staticsOk (importedModules pw.main.body) (boot_heap w.params) s.heap && namesBound pw s.heap && gensDone s && laidKept (boot_heap w.params) s.heap),
    PySem.W.Fast.tw4187177175401517315 q loose (importedModules pw.main.body) Xt true s)
theorem run_both (w : World) (os : OsState) : (runF w os).map (fun s => (obsF w s.abs, H.obs s.abs)) = some ((true, openGood q loose), H.val w) := by kernel_rfl
theorem boot_size (w : World) : ((boot_heap w.params).isNs mainGlobals && (Array.mk [] : Array GenState).size == 0, (boot_heap w.params).objs.size, (boot_heap w.params).nsMap mainGlobals "__annotations__") = (true, 11, some (.ref 6)) := by kernel_rfl!
theorem boot_op : opening pw = plainProg pw.main.scope.names := by kernel_rfl!
theorem boot_fence (s : Shared) : fenceModules? pw s = some s := by kernel_rfl!
theorem leftO_of_run {p q : Program} {loose : List Str} {Xt : Shared → Bool} {α : Type} {Yf : Shared → α} {Ya : World → α} {N : Nat} {g0 : Bool} {H₀ : Params → Heap} {gs₀ : Array GenState} {d₀ : Drawn} {k₀ : Nat} {m₀ : Nat} {ann : Option Value}
    (open_ : ∀ w : World, (fencedOpening treeTable p w N).map (fun s => (s.heap, s.gens, s.drawn, s.toks)) = some (H₀ w.params, gs₀, d₀, k₀))
    (size : ∀ w : World, ((H₀ w.params).isNs mainGlobals && gs₀.size == 0, (H₀ w.params).objs.size, (H₀ w.params).nsMap mainGlobals "__annotations__") = (true, m₀, ann))
    (run : ∀ (w : World) (os : OsState), ∃ s, topRun treeTable p w m₀ ann N ⟨H₀ w.params, gs₀, d₀, k₀, os⟩ (topStub p) = some s ∧
      (staticsOk (importedModules p.main.body) (H₀ w.params) s.heap && namesBound p s.heap && gensDone s && laidKept (H₀ w.params) s.heap) = true ∧ openSeen q loose (importedModules p.main.body) Xt g0 s = openGood q loose ∧ Yf s = Ya w) : LeftO p q loose Xt Yf Ya N g0 := fun w => by
  obtain ⟨⟨h, gs, d, k, os⟩, e, e'⟩ := Option.map_eq_some_iff.mp (open_ w)
  obtain ⟨rfl, rfl, rfl, rfl⟩ : h = H₀ w.params ∧ gs = gs₀ ∧ d = d₀ ∧ k = k₀ := by simpa using e'
  obtain ⟨z1, z2, z3⟩ : _ ∧ _ ∧ _ := by simpa only [Prod.mk.injEq] using size w
  obtain ⟨s, r, l1, l2, l3⟩ := run w os
  have t : topFrom treeTable p w N ⟨H₀ w.params, gs, d, k, os⟩ = some s := by
    unfold topFrom
    dsimp only
    rw [z1, z2, z3, r]
    show (match staticsOk (importedModules p.main.body) (H₀ w.params) s.heap && namesBound p s.heap && gensDone s && laidKept (H₀ w.params) s.heap with | true => _ | false => _) = _
    rw [l1]
  unfold openEnds
  rw [e]
  show (topFrom treeTable p w N _).map _ = _
  rw [t]
  exact congrArg some (Prod.ext l2 l3)
theorem obsF_is (w : World) (s : Shared) : obsF w s = ((staticsOk (importedModules pw.main.body) (boot_heap w.params) s.heap && namesBound pw s.heap && gensDone s && laidKept (boot_heap w.params) s.heap), openSeen q loose (importedModules pw.main.body) Xt true s) := by
  unfold obsF
  rw [← PySem.W.Fast.te4187177175401517315]
theorem two_of {α β : Type} {a c : α} {b d : β} (h : some (a, b) = some (c, d)) : a = c ∧ b = d := by cases h; exact ⟨rfl, rfl⟩
theorem run_all (w : World) (os : OsState) : ∃ s, topRun treeTable pw w 11 (some (.ref 6)) 5000 ⟨boot_heap w.params, Array.mk [], boot_drawn, boot_toks, os⟩ (topStub pw) = some s ∧
      (staticsOk (importedModules pw.main.body) (boot_heap w.params) s.heap && namesBound pw s.heap && gensDone s && laidKept (boot_heap w.params) s.heap) = true ∧ openSeen q loose (importedModules pw.main.body) Xt true s = openGood q loose ∧ H.obs s = H.val w := by
  obtain ⟨s', r, o2⟩ := Option.map_eq_some_iff.mp (run_both w os)
  obtain ⟨o, l3⟩ := two_of (congrArg some o2)
  have r1 := go_run _ _ _ _ ((run_isF w os).trans r)
  rw [start0_abs] at r1
  rw [obsF_is] at o
  have l := two_of (congrArg some o)
  exact ⟨_, r1, l.1, l.2, l3⟩
theorem left : LeftO pw q loose Xt H.obs H.val 5000 := leftO_of_run (boot_open (p := pw) (N := 5000) boot_op rfl boot_fence) boot_size run_all

theorem said : PySem.Challenge.rw_qd0177_01.wellSaid = true := by
  unfold OpenLaw.wellSaid OpenRow.wellSaid OpenRow.partSaid looksOpen
  repeat' (with_reducible refine look_both ?_ ?_)
  all_goals decide +kernel

theorem tops_ok : (chainsOk q && opensWell PySem.Challenge.rw_qd0177_01.row.prog && (frees PySem.Challenge.rw_qd0177_01.row.toRowW && PySem.Challenge.rw_qd0177_01.row.within.isEmpty)) = true := by decide +kernel
theorem hd (said : PySem.Challenge.rw_qd0177_01.wellSaid = true) (left : LeftO pw q loose Xt H.obs H.val 5000) {d : DefRec} {kwd : List (Str × Expr)}
    (hdef : defOf q PySem.Challenge.rw_qd0177_01.row.name = some (d, kwd)) (hp : PySem.Challenge.rw_qd0177_01.row.prog.theDef PySem.Challenge.rw_qd0177_01.row.name = some (d.params, d.body, d.scope)) (hk : kwWritten? d.params.kwonlyargs d.params.kw_defaults = some kwd)
    (call : WalkO q loose (XL q lv) (Hook.says H) PySem.Challenge.rw_qd0177_01.row.toRowW d kwd fun f vs => PySem.call f vs) : PySem.Challenge.rw_qd0177_01.Holds := by
  refine holds_law said fun said => ?_
  refine holds_open (q := q) (loose := loose) (Xt := Xt) (XP := XL q lv) (Yf := Hook.obs H) (Ya := Hook.val H) (YP := Hook.says H) (N := 5000) left (Hook.of H) (Hook.keeps H) (fun s e => xl_of s (Bool.and_eq_true_iff.mp e).1) XL.keeps hdef hp hk (fun s e => recFacts_of (Bool.and_eq_true_iff.mp e).2) (by rfl) (by assumption) tops_ok ⟨rfl, rfl, rfl, rfl, rfl, by decide +kernel⟩ ?hw call
  case hw => w_witness2

open PySem.Calls
set_option maxHeartbeats 8000000
theorem binds2 {K : Frag} {s : Shared} {nm ql x y : Str} {a1 a2 : Option Expr} {p1 p2 : Pos} {df : List Expr} {body : List Stmt} {sc : Scope} {T : Addr} {doc pm cd ct : Value} {an : Option Addr} {v u : Value} {oc : Value} {n : Nat}
    (X : K.In s.heap) (ho : K.lookup T = some { cls := oc, data := .seq #[u] n }) (hxy : (y == x) = false) :
    BindsTo s (fnOf nm ql ⟨[], [⟨x, a1, p1⟩, ⟨y, a2, p2⟩], none, [], [], none, df⟩ body sc (.ref T) .none doc pm an cd ct) ⟨[v], []⟩ [(x, v), (y, u)] := by
  refine BindsTo.of_defaults rfl (X _ _ ho) rfl rfl ?_
  simp [List.lookup, hxy]
theorem binds4 {K : Frag} {s : Shared} {nm ql x y z t : Str} {a1 a2 a3 a4 : Option Expr} {p1 p2 p3 p4 : Pos} {df : List Expr} {body : List Stmt} {sc : Scope} {T : Addr} {doc pm cd ct : Value} {an : Option Addr} {v1 v2 v3 u : Value} {oc : Value} {n : Nat}
    (X : K.In s.heap) (ho : K.lookup T = some { cls := oc, data := .seq #[u] n }) (h1 : (y == x) = false) (h2 : (z == x) = false) (h3 : (z == y) = false) (h4 : (t == x) = false) (h5 : (t == y) = false) (h6 : (t == z) = false) :
    BindsTo s (fnOf nm ql ⟨[], [⟨x, a1, p1⟩, ⟨y, a2, p2⟩, ⟨z, a3, p3⟩, ⟨t, a4, p4⟩], none, [], [], none, df⟩ body sc (.ref T) .none doc pm an cd ct) ⟨[v1, v2, v3], []⟩ [(x, v1), (y, v2), (z, v3), (t, u)] := by
  refine BindsTo.of_defaults rfl (X _ _ ho) rfl rfl ?_
  simp [List.lookup, h1, h2, h3, h4, h5, h6]
theorem bindsP1 {s : Shared} {nm ql x0 : Str} {a0 : Option Expr} {p0 : Pos} {body : List Stmt} {sc : Scope} {doc pm cd ct : Value} {an : Option Addr} {v0 : Value}
    :
    BindsTo s (fnOf nm ql ⟨[], [⟨x0, a0, p0⟩], none, [], [], none, []⟩ body sc .none .none doc pm an cd ct) ⟨[v0], []⟩ [(x0, v0)] := by
  have hh : ∀ dV, ∃ k, bindArgs (fnOf nm ql ⟨[], [⟨x0, a0, p0⟩], none, [], [], none, []⟩ body sc dV .none doc pm an cd ct) ⟨[v0], []⟩ = seqItems? dV >>= k ∧ k none = pure [(x0, v0)] := fun dV => ⟨_, rfl, by simp [List.lookup]⟩
  obtain ⟨k, h1, h2⟩ := hh .none
  exact BindsTo.of_eq (by rw [h1]; exact h2)
theorem bindsP2 {s : Shared} {nm ql x0 x1 : Str} {a0 a1 : Option Expr} {p0 p1 : Pos} {body : List Stmt} {sc : Scope} {doc pm cd ct : Value} {an : Option Addr} {v0 v1 : Value}
    (h10 : (x1 == x0) = false) :
    BindsTo s (fnOf nm ql ⟨[], [⟨x0, a0, p0⟩, ⟨x1, a1, p1⟩], none, [], [], none, []⟩ body sc .none .none doc pm an cd ct) ⟨[v0, v1], []⟩ [(x0, v0), (x1, v1)] := by
  have hh : ∀ dV, ∃ k, bindArgs (fnOf nm ql ⟨[], [⟨x0, a0, p0⟩, ⟨x1, a1, p1⟩], none, [], [], none, []⟩ body sc dV .none doc pm an cd ct) ⟨[v0, v1], []⟩ = seqItems? dV >>= k ∧ k none = pure [(x0, v0), (x1, v1)] := fun dV => ⟨_, rfl, by simp [List.lookup, h10]⟩
  obtain ⟨k, h1, h2⟩ := hh .none
  exact BindsTo.of_eq (by rw [h1]; exact h2)
theorem bindsP3 {s : Shared} {nm ql x0 x1 x2 : Str} {a0 a1 a2 : Option Expr} {p0 p1 p2 : Pos} {body : List Stmt} {sc : Scope} {doc pm cd ct : Value} {an : Option Addr} {v0 v1 v2 : Value}
    (h10 : (x1 == x0) = false) (h20 : (x2 == x0) = false) (h21 : (x2 == x1) = false) :
    BindsTo s (fnOf nm ql ⟨[], [⟨x0, a0, p0⟩, ⟨x1, a1, p1⟩, ⟨x2, a2, p2⟩], none, [], [], none, []⟩ body sc .none .none doc pm an cd ct) ⟨[v0, v1, v2], []⟩ [(x0, v0), (x1, v1), (x2, v2)] := by
  have hh : ∀ dV, ∃ k, bindArgs (fnOf nm ql ⟨[], [⟨x0, a0, p0⟩, ⟨x1, a1, p1⟩, ⟨x2, a2, p2⟩], none, [], [], none, []⟩ body sc dV .none doc pm an cd ct) ⟨[v0, v1, v2], []⟩ = seqItems? dV >>= k ∧ k none = pure [(x0, v0), (x1, v1), (x2, v2)] := fun dV => ⟨_, rfl, by simp [List.lookup, h10, h20, h21]⟩
  obtain ⟨k, h1, h2⟩ := hh .none
  exact BindsTo.of_eq (by rw [h1]; exact h2)
theorem bindsP4 {s : Shared} {nm ql x0 x1 x2 x3 : Str} {a0 a1 a2 a3 : Option Expr} {p0 p1 p2 p3 : Pos} {body : List Stmt} {sc : Scope} {doc pm cd ct : Value} {an : Option Addr} {v0 v1 v2 v3 : Value}
    (h10 : (x1 == x0) = false) (h20 : (x2 == x0) = false) (h21 : (x2 == x1) = false) (h30 : (x3 == x0) = false) (h31 : (x3 == x1) = false) (h32 : (x3 == x2) = false) :
    BindsTo s (fnOf nm ql ⟨[], [⟨x0, a0, p0⟩, ⟨x1, a1, p1⟩, ⟨x2, a2, p2⟩, ⟨x3, a3, p3⟩], none, [], [], none, []⟩ body sc .none .none doc pm an cd ct) ⟨[v0, v1, v2, v3], []⟩ [(x0, v0), (x1, v1), (x2, v2), (x3, v3)] := by
  have hh : ∀ dV, ∃ k, bindArgs (fnOf nm ql ⟨[], [⟨x0, a0, p0⟩, ⟨x1, a1, p1⟩, ⟨x2, a2, p2⟩, ⟨x3, a3, p3⟩], none, [], [], none, []⟩ body sc dV .none doc pm an cd ct) ⟨[v0, v1, v2, v3], []⟩ = seqItems? dV >>= k ∧ k none = pure [(x0, v0), (x1, v1), (x2, v2), (x3, v3)] := fun dV => ⟨_, rfl, by simp [List.lookup, h10, h20, h21, h30, h31, h32]⟩
  obtain ⟨k, h1, h2⟩ := hh .none
  exact BindsTo.of_eq (by rw [h1]; exact h2)
theorem bindsP5 {s : Shared} {nm ql x0 x1 x2 x3 x4 : Str} {a0 a1 a2 a3 a4 : Option Expr} {p0 p1 p2 p3 p4 : Pos} {body : List Stmt} {sc : Scope} {doc pm cd ct : Value} {an : Option Addr} {v0 v1 v2 v3 v4 : Value}
    (h10 : (x1 == x0) = false) (h20 : (x2 == x0) = false) (h21 : (x2 == x1) = false) (h30 : (x3 == x0) = false) (h31 : (x3 == x1) = false) (h32 : (x3 == x2) = false) (h40 : (x4 == x0) = false) (h41 : (x4 == x1) = false) (h42 : (x4 == x2) = false) (h43 : (x4 == x3) = false) :
    BindsTo s (fnOf nm ql ⟨[], [⟨x0, a0, p0⟩, ⟨x1, a1, p1⟩, ⟨x2, a2, p2⟩, ⟨x3, a3, p3⟩, ⟨x4, a4, p4⟩], none, [], [], none, []⟩ body sc .none .none doc pm an cd ct) ⟨[v0, v1, v2, v3, v4], []⟩ [(x0, v0), (x1, v1), (x2, v2), (x3, v3), (x4, v4)] := by
  have hh : ∀ dV, ∃ k, bindArgs (fnOf nm ql ⟨[], [⟨x0, a0, p0⟩, ⟨x1, a1, p1⟩, ⟨x2, a2, p2⟩, ⟨x3, a3, p3⟩, ⟨x4, a4, p4⟩], none, [], [], none, []⟩ body sc dV .none doc pm an cd ct) ⟨[v0, v1, v2, v3, v4], []⟩ = seqItems? dV >>= k ∧ k none = pure [(x0, v0), (x1, v1), (x2, v2), (x3, v3), (x4, v4)] := fun dV => ⟨_, rfl, by simp [List.lookup, h10, h20, h21, h30, h31, h32, h40, h41, h42, h43]⟩
  obtain ⟨k, h1, h2⟩ := hh .none
  exact BindsTo.of_eq (by rw [h1]; exact h2)

/-- what a contract asks of the caller's place -/
structure Cx (c : Nat) (w : World) (env : Env) (outer : List Env) (dp u : Nat) (h h₀ : Heap) (L : Addr) (m : Str → Option Value) (news : List (Addr × Obj)) : Prop where
  ex : ∃ A₀ base mean mg mb, Below A₀ base outer h₀ ∧ Top q (looseW q loose) mean mg mb h₀
  F : Fr h₀ L h m
  X : (K w.params).In h₀
  N : News h₀ L h news
  hf : env.frame = some L
  hke : env.scope.kind = .function
  hdp : dp ≤ c
  hu : u ≤ 10 * c
abbrev MD (w : World) : Model := model PySem.Challenge.rw_qd0177_01.row.prog w
abbrev AR (dp u : Nat) (env : Env) (outer : List Env) (gs : Option (List Code)) : Around := ⟨none, dp, some (env :: outer), gs, u⟩
/-- an instance dict of a Vector -/
@[reducible] def vecD (w : World) (kd it at_ sh lo : Value) (k1 k2 k3 k4 k5 : Tok) : Obj := dictOf
  [⟨PyData.keyHash w.params (Str.ofString "kind"), .str (Str.ofString "kind") k1, kd⟩, ⟨PyData.keyHash w.params (Str.ofString "items"), .str (Str.ofString "items") k2, it⟩,
   ⟨PyData.keyHash w.params (Str.ofString "attrs"), .str (Str.ofString "attrs") k3, at_⟩, ⟨PyData.keyHash w.params (Str.ofString "shared"), .str (Str.ofString "shared") k4, sh⟩,
   ⟨PyData.keyHash w.params (Str.ofString "loose"), .str (Str.ofString "loose") k5, lo⟩] 5
@[reducible] def tupO (vs : Array Value) : Obj := { cls := .type "tuple", data := .seq vs }
theorem News.sub {h₀ h : Heap} {L : Addr} {a b : List (Addr × Obj)} (N : News h₀ L h b) (s : a.Sublist b) : News h₀ L h a := fun p hp => N p (s.subset hp)
theorem fmod_one (x : Int) : decide (0 < Int.fmod x 1) = false := by
  rw [Int.fmod_eq_emod_of_nonneg x (by omega)]; simp

local macro_rules | `(tactic| walk_at $s:str) => `(tactic| k_extra $s)
local macro_rules | `(tactic| k_qdec) => `(tactic| decide +kernel)
local macro_rules | `(tactic| k_room) => `(tactic| ((simp only [depth_under_make, depth_under_kw, depth_in1, depth_deeper, recursionLimit]); omega))
local macro_rules | `(tactic| k_mem) => `(tactic| assumption)
local macro_rules | `(tactic| k_all) => `(tactic| exact fun p hp => Nat.ne_of_lt ((by assumption : ∀ p ∈ _, _) p hp))
theorem reg1 : True := by
  k_with "mine enter" => ((refine' code_def ?zqk1 ?zqk2 ?zqk3 ?zqk4 ?zqk5 ?zqkA ?zqkF ?zqkK ?zqk6 ?zqk7 ?zqk8 ?zqk9 ?zqkB ?_ ?zqc2 ?zqc3 ?zqc4 ?zqc5; (case zqkA => exact rfl); (case zqkF => first | assumption | exact rfl); (case zqkK => first | assumption | exact rfl); (case zqk1 => k_asm); (case zqk2 => k_asm); (case zqk3 => k_asm); (case zqk4 => k_asm); (case zqk5 => k_asm); (case zqk6 => k_is); (case zqk7 => k_is); (case zqk8 => k_room); (case zqk9 => first | ((with_reducible refine' binds2 ?zqz1 ?zqz2 ?zqz3); (case zqz1 => k_in); (case zqz2 => k_is); (case zqz3 => decide)) | ((with_reducible refine' binds4 ?zqz1 ?zqz2 ?zqz3 ?zqz4 ?zqz5 ?zqz6 ?zqz7 ?zqz8); (case zqz1 => k_in); (case zqz2 => k_is); (case zqz3 => decide); (case zqz4 => decide); (case zqz5 => decide); (case zqz6 => decide); (case zqz7 => decide); (case zqz8 => decide)) | ((with_reducible refine' bindsP1)) | ((with_reducible refine' bindsP2 ?zqz0); (case zqz0 => decide)) | ((with_reducible refine' bindsP3 ?zqz0 ?zqz1 ?zqz2); (case zqz0 => decide); (case zqz1 => decide); (case zqz2 => decide)) | ((with_reducible refine' bindsP4 ?zqz0 ?zqz1 ?zqz2 ?zqz3 ?zqz4 ?zqz5); (case zqz0 => decide); (case zqz1 => decide); (case zqz2 => decide); (case zqz3 => decide); (case zqz4 => decide); (case zqz5 => decide)) | ((with_reducible refine' bindsP5 ?zqz0 ?zqz1 ?zqz2 ?zqz3 ?zqz4 ?zqz5 ?zqz6 ?zqz7 ?zqz8 ?zqz9); (case zqz0 => decide); (case zqz1 => decide); (case zqz2 => decide); (case zqz3 => decide); (case zqz4 => decide); (case zqz5 => decide); (case zqz6 => decide); (case zqz7 => decide); (case zqz8 => decide); (case zqz9 => decide)) | exact BindsTo.of_eq rfl); (case zqc5 => decide); (case zqkB => exact locs rfl); (case zqc2 => exact rfl); (case zqc3 => exact rfl); (case zqc4 => exact rfl); k_whole; intro g' L' h' FG' F' N' B' X' T'; (try dsimp only); (try k_lift B'); (try k_fold)))
  k_with "call ref" => (k_here; k_dflt (first   | (refine wpAny_call ?_; walk_at "mine enter")   | (refine' call_cls ?zqk1 ?zqk2 ?zqk3 ?zqk4 ?zqk5 ?zqk6 ?_; (case zqk1 => k_asm); (case zqk2 => k_asm); (case zqk3 => k_asm); (case zqk4 => k_is); (case zqk5 => k_is); (case zqk6 => k_is); k_whole; intro x' d' h' F' N' l1 l2; (try k_lt l1); (try k_lt2 l2); (try k_sweep); walk_at "mine enter")))
  k_with "WhlIf" => refine WhlIf.no (fmod_one _) ?_
  k_with "mine sub" => (repeat (first | exact List.Sublist.refl _ | refine List.Sublist.cons_cons _ ?_ | refine List.Sublist.cons _ ?_))
  k_with "mine lt" => first | assumption | exact allLt_of (by assumption) | exact (by assumption : _ ∧ AllLt _ _).2 | exact (by assumption : _ ∧ _ ∧ AllLt _ _).2.2 | exact (by assumption : _ ∧ _ ∧ _ ∧ AllLt _ _).2.2.2 | exact (by assumption : _ ∧ _ ∧ _ ∧ _ ∧ AllLt _ _).2.2.2.2 | exact (by assumption : _ ∧ _ ∧ _ ∧ _ ∧ _ ∧ AllLt _ _).2.2.2.2.2
  k_with "mine start" => (w_on; w_top off; (have hK : K = K ∧ PySem.Challenge.rw_qd0177_01 = PySem.Challenge.rw_qd0177_01 := by (k_fill; exact ⟨rfl, rfl⟩)); clear hK; refine wpAny_call ?_; walk_at "mine enter")
  k_with "mine go" => (w_on; w_top off; (have hK : K = K ∧ PySem.Challenge.rw_qd0177_01 = PySem.Challenge.rw_qd0177_01 := by (k_fill; exact ⟨rfl, rfl⟩)); clear hK)
  k_with "mine cx" => exact ⟨⟨_, _, _, _, _, by k_asm, by k_asm⟩, by k_asm, by k_in, by k_asm, by first | assumption | exact rfl, by first | assumption | exact rfl, by (try dsimp only [AR]); omega, by (try dsimp only [AR]); omega⟩
  trivial
theorem length_spec {w : World} {dp u : Nat} {env : Env} {outer : List Env} {gs : Option (List Code)} {E : Value → Shared → Prop} {s : Shared} {h₀ : Heap} {L : Addr} {m : Str → Option Value} {news : List (Addr × Obj)}
    (C : Cx 500 w env outer dp u s.heap h₀ L m news) {nn x d l : Nat} {kd : Str} {it at_ sh lo : Value} {k k1 k2 k3 k4 k5 : Tok} {Q : Value → Shared → Prop}
    (m1 : (x, instObj 271 d) ∈ news) (m2 : (d, vecD w (.str kd k) (.ref l) at_ sh lo k1 k2 k3 k4 k5) ∈ news) (m3 : (l, W.listOf #[it] nn) ∈ news) (hk : (kd == Str.ofString "NULL") = false)
    (post : ∀ {h' : Heap} {tk' tk : Nat}, Fr h₀ L h' m → News h₀ L h' news → Q (.int 1 tk) { s with heap := h', toks := tk' }) :
    wpAny (MD w) (AR dp u env outer gs) (call (.ref 354) [.ref x]) Q E s := by
  obtain ⟨⟨A₀, base, mean, mg, mb, B, T⟩, F, X, N, hf, hke, hdp, hu⟩ := C
  walk_at "mine start"
  k_steps
  exact post (by assumption) (by assumption)
theorem vec_spec {w : World} {dp u : Nat} {env : Env} {outer : List Env} {gs : Option (List Code)} {E : Value → Shared → Prop} {s : Shared} {h₀ : Heap} {L : Addr} {m : Str → Option Value} {news : List (Addr × Obj)}
    (C : Cx 500 w env outer dp u s.heap h₀ L m news) {kd : Str} {k : Tok} {l : Nat} {Q : Value → Shared → Prop}
    (post : ∀ {h' : Heap} {tk' : Nat} {x d : Nat} {k1 k2 k3 k4 k5 : Tok}, Fr h₀ L h' m →
      News h₀ L h' ((x, instObj 271 d) :: (d, vecD w (.str kd k) (.ref l) .none (.bool false) (.bool false) k1 k2 k3 k4 k5) :: news) → AllLt d news → d < x → Q (.ref x) { s with heap := h', toks := tk' }) :
    wpAny (MD w) (AR dp u env outer gs) (call (.ref 271) [.str kd k, .ref l]) Q E s := by
  obtain ⟨⟨A₀, base, mean, mg, mb, B, T⟩, F, X, N, hf, hke, hdp, hu⟩ := C
  walk_at "mine go"
  k_steps
  exact post (by assumption) (News.sub (by assumption) (by walk_at "mine sub")) (by walk_at "mine lt") (by omega)
theorem reg2 : True := by
  k_with "call ref" => (k_here; (with_reducible show wpAny _ _ (call (Value.ref 354) _ _) _ _ _); k_dflt (refine' length_spec ?zqC ?zqm1 ?zqm2 ?zqm3 ?zqhk ?_; (case zqC => walk_at "mine cx"); (case zqm1 => k_mem); (case zqm2 => k_mem); (case zqm3 => k_mem); (case zqhk => first | assumption | decide); k_whole; intro h' tk' tk F' N'; (try k_sweep)))
  k_with "call ref" => (k_here; (with_reducible show wpAny _ _ (call (Value.ref 271) _ _) _ _ _); k_dflt (refine' vec_spec ?zqC ?_; (case zqC => walk_at "mine cx"); k_whole; intro h' tk' x d k1 k2 k3 k4 k5 F' N' l1 l2; (try simp only [AllLt, and_true] at l1); (try k_sweep)))
  trivial
theorem number_spec {w : World} {dp u : Nat} {env : Env} {outer : List Env} {gs : Option (List Code)} {E : Value → Shared → Prop} {s : Shared} {h₀ : Heap} {L : Addr} {m : Str → Option Value} {news : List (Addr × Obj)}
    (C : Cx 490 w env outer dp u s.heap h₀ L m news) {n : Int} {tk : Tok} {Q : Value → Shared → Prop}
    (post : ∀ {h' : Heap} {tk' : Nat} {x d l t : Nat} {k1 k2 k3 k4 k5 k6 k7 k8 : Tok}, Fr h₀ L h' m →
      News h₀ L h' ((x, instObj 271 d) :: (d, vecD w (.str (Str.ofString "double") k6) (.ref l) .none (.bool false) (.bool false) k1 k2 k3 k4 k5) :: (l, W.listOf #[.ref t] 0) :: (t, tupO #[.int n k7, .int 1 k8]) :: news) →
      AllLt t news → t < l → l < d → d < x → Q (.ref x) { s with heap := h', toks := tk' }) :
    wpAny (MD w) (AR dp u env outer gs) (call (.ref 340) [.int n tk]) Q E s := by
  obtain ⟨⟨A₀, base, mean, mg, mb, B, T⟩, F, X, N, hf, hke, hdp, hu⟩ := C
  walk_at "mine start"
  k_steps
  simp only [Int.fdiv_one] at *
  exact post (by assumption) (News.sub (by assumption) (by walk_at "mine sub")) (by walk_at "mine lt") (by omega) (by omega) (by omega)
theorem whole_spec {w : World} {dp u : Nat} {env : Env} {outer : List Env} {gs : Option (List Code)} {E : Value → Shared → Prop} {s : Shared} {h₀ : Heap} {L : Addr} {m : Str → Option Value} {news : List (Addr × Obj)}
    (C : Cx 490 w env outer dp u s.heap h₀ L m news) {n : Int} {tk : Tok} {Q : Value → Shared → Prop}
    (post : ∀ {h' : Heap} {tk' : Nat} {x d l : Nat} {k1 k2 k3 k4 k5 k6 : Tok}, Fr h₀ L h' m →
      News h₀ L h' ((x, instObj 271 d) :: (d, vecD w (.str (Str.ofString "integer") k6) (.ref l) .none (.bool false) (.bool false) k1 k2 k3 k4 k5) :: (l, W.listOf #[.int n tk] 0) :: news) →
      AllLt l news → l < d → d < x → Q (.ref x) { s with heap := h', toks := tk' }) :
    wpAny (MD w) (AR dp u env outer gs) (call (.ref 325) [.int n tk]) Q E s := by
  obtain ⟨⟨A₀, base, mean, mg, mb, B, T⟩, F, X, N, hf, hke, hdp, hu⟩ := C
  walk_at "mine start"
  k_steps
  exact post (by assumption) (News.sub (by assumption) (by walk_at "mine sub")) (by walk_at "mine lt") (by omega) (by omega)
theorem reg3 : True := by
  k_with "call ref" => (k_here; (with_reducible show wpAny _ _ (call (Value.ref 340) [Value.int _ _] _) _ _ _); k_dflt (refine' number_spec ?zqC ?_; (case zqC => walk_at "mine cx"); k_whole; intro h' tk' x d l t k1 k2 k3 k4 k5 k6 k7 k8 F' N' l1 l2 l3 l4; (try simp only [AllLt, and_true] at l1); (try k_sweep)))
  k_with "call ref" => (k_here; (with_reducible show wpAny _ _ (call (Value.ref 325) [Value.int _ _] _) _ _ _); k_dflt (refine' whole_spec ?zqC ?_; (case zqC => walk_at "mine cx"); k_whole; intro h' tk' x d l k1 k2 k3 k4 k5 k6 F' N' l1 l2 l3; (try simp only [AllLt, and_true] at l1); (try k_sweep)))
  trivial
theorem mul_rep {prog : Program} {w : World} {A : Around} {E : Value → Shared → Prop} {s : Shared} {h₀ : Heap} {L : Addr} {m : Str → Option Value} {news : List (Addr × Obj)} {l n : Nat} {v : Value} {x : Int} {u : Tok} {Q : Value → Shared → Prop}
    (Fm : Fr h₀ L s.heap m) (N : News h₀ L s.heap news) (hm : (l, W.listOf #[v] n) ∈ news) (hlo : 0 ≤ x) (hhi : x ≤ 16)
    (h : ∀ D h', Fr h₀ L h' m → News h₀ L h' ((D, W.listOf (List.replicate x.toNat v).toArray 0) :: news) → (∀ p ∈ news, p.1 < D) → Q (.ref D) { s with heap := h' }) :
    wpAny (model prog w) A (binaryOp .Mult (.ref l) (.int x u)) Q E s := by
  refine mul_list Fm N (N _ hm).1 (by omega) (by omega) (by simp; omega) fun h' F' N' => ?_
  refine h _ _ F' ?_ fun p hp => Heap.lt_size (N p hp).1
  have e : ∀ k : Nat, (List.foldl (fun x1 x2 => x1 ++ x2) (#[] : Array Value) (List.replicate k #[v])) = (List.replicate k v).toArray := by
    intro k
    have g : ∀ (k : Nat) (a : Array Value), List.foldl (fun x1 x2 => x1 ++ x2) a (List.replicate k #[v]) = a ++ (List.replicate k v).toArray := by
      intro k
      induction k with
      | zero => intro a; simp
      | succ k ih =>
        intro a
        rw [List.replicate_succ, List.foldl_cons, ih, List.replicate_succ]
        apply Array.ext'
        simp
    rw [g]; simp
  have e2 : (if (#[v] : Array Value).isEmpty = true then 0 else x.toNat) = x.toNat := by simp
  rw [e2, e] at N'
  exact N'
theorem reg4 : True := by
  k_with "binaryOp Mult ref int" => (k_here; (with_reducible show wpAny _ _ (binaryOp Operator.Mult (Value.ref _) (Value.int _ _)) _ _ _); k_dflt (refine' mul_rep ?zqF ?zqN ?zqm ?zqa ?zqb ?_; (case zqF => k_asm); (case zqN => k_asm); (case zqm => k_mem); (case zqa => decide); (case zqb => decide); k_whole; intro D' h' F' N' l1; (try k_lt l1); (try simp only [Int.reduceToNat, List.reduceReplicate] at N'); (try k_sweep)))
  trivial
/-- the instance dict of a Symbol, of a Call -/
@[reducible] def symD (w : World) (nm : Value) (kk k1 k2 k3 : Tok) : Obj := dictOf
  [⟨PyData.keyHash w.params (Str.ofString "kind"), .str (Str.ofString "kind") k1, .str (Str.ofString "symbol") kk⟩, ⟨PyData.keyHash w.params (Str.ofString "name"), .str (Str.ofString "name") k2, nm⟩,
   ⟨PyData.keyHash w.params (Str.ofString "attrs"), .str (Str.ofString "attrs") k3, .none⟩] 3
@[reducible] def callD (w : World) (it tg : Value) (kk k1 k2 k3 k4 k5 : Tok) : Obj := dictOf
  [⟨PyData.keyHash w.params (Str.ofString "kind"), .str (Str.ofString "kind") k1, .str (Str.ofString "language") kk⟩, ⟨PyData.keyHash w.params (Str.ofString "items"), .str (Str.ofString "items") k2, it⟩,
   ⟨PyData.keyHash w.params (Str.ofString "tags"), .str (Str.ofString "tags") k3, tg⟩, ⟨PyData.keyHash w.params (Str.ofString "attrs"), .str (Str.ofString "attrs") k4, .none⟩,
   ⟨PyData.keyHash w.params (Str.ofString "code"), .str (Str.ofString "code") k5, .none⟩] 5
theorem call_of_spec {w : World} {dp u : Nat} {env : Env} {outer : List Env} {gs : Option (List Code)} {E : Value → Shared → Prop} {s : Shared} {h₀ : Heap} {L : Addr} {m : Str → Option Value} {news : List (Addr × Obj)}
    (C : Cx 490 w env outer dp u s.heap h₀ L m news) {nm : Str} {k : Tok} {la : Nat} {v1 v2 : Value} {Q : Value → Shared → Prop} (m1 : (la, W.listOf #[v1, v2] 0) ∈ news)
    (post : ∀ {h' : Heap} {tk' : Nat} {x d lt li sy sd : Nat} {k0 k1 k2 k3 k4 k5 j0 j1 j2 j3 : Tok}, Fr h₀ L h' m →
      News h₀ L h' ((x, instObj 314 d) :: (d, callD w (.ref li) (.ref lt) k0 k1 k2 k3 k4 k5) :: (lt, W.listOf #[.none, .none, .none] 0) :: (li, W.listOf #[.ref sy, v1, v2] 0) :: (sy, instObj 292 sd) :: (sd, symD w (.str nm k) j0 j1 j2 j3) :: news) →
      AllLt sd news → sd < sy → sy < li → li < lt → lt < d → d < x → Q (.ref x) { s with heap := h', toks := tk' }) :
    wpAny (MD w) (AR dp u env outer gs) (call (.ref 347) [.str nm k, .ref la]) Q E s := by
  obtain ⟨⟨A₀, base, mean, mg, mb, B, T⟩, F, X, N, hf, hke, hdp, hu⟩ := C
  walk_at "mine start"
  k_steps
  exact post (by assumption) (News.sub (by assumption) (by walk_at "mine sub")) (by walk_at "mine lt") (by omega) (by omega) (by omega) (by omega) (by omega)
theorem reg5 : True := by
  k_with "call ref" => (k_here; (with_reducible show wpAny _ _ (call (Value.ref 347) _ _) _ _ _); k_dflt (refine' call_of_spec ?zqC ?zqm1 ?_; (case zqC => walk_at "mine cx"); (case zqm1 => k_mem); k_whole; intro h' tk' x d lt li sy sd k0 k1 k2 k3 k4 k5 j0 j1 j2 j3 F' N' l1 l2 l3 l4 l5 l6; (try simp only [AllLt, and_true] at l1); (try k_sweep)))
  trivial
theorem is_constant_vec {w : World} {dp u : Nat} {env : Env} {outer : List Env} {gs : Option (List Code)} {E : Value → Shared → Prop} {s : Shared} {h₀ : Heap} {L : Addr} {m : Str → Option Value} {news : List (Addr × Obj)}
    (C : Cx 490 w env outer dp u s.heap h₀ L m news) {nn x d l : Nat} {kd : Str} {it sh lo : Value} {k k1 k2 k3 k4 k5 : Tok} {Q : Value → Shared → Prop}
    (m1 : (x, instObj 271 d) ∈ news) (m2 : (d, vecD w (.str kd k) (.ref l) .none sh lo k1 k2 k3 k4 k5) ∈ news) (m3 : (l, W.listOf #[it] nn) ∈ news) (hk : kd = Str.ofString "double" ∨ kd = Str.ofString "integer")
    (post : ∀ {h' : Heap} {tk' : Nat}, Fr h₀ L h' m → News h₀ L h' news → Q (.bool true) { s with heap := h', toks := tk' }) :
    wpAny (MD w) (AR dp u env outer gs) (call (.ref 728) [.ref x]) Q E s := by
  obtain ⟨⟨A₀, base, mean, mg, mb, B, T⟩, F, X, N, hf, hke, hdp, hu⟩ := C
  rcases hk with rfl | rfl
  all_goals (walk_at "mine start"; k_steps)
  all_goals exact post (by assumption) (News.sub (by assumption) (by walk_at "mine sub"))
theorem is_constant_call {w : World} {dp u : Nat} {env : Env} {outer : List Env} {gs : Option (List Code)} {E : Value → Shared → Prop} {s : Shared} {h₀ : Heap} {L : Addr} {m : Str → Option Value} {news : List (Addr × Obj)}
    (C : Cx 490 w env outer dp u s.heap h₀ L m news) {x d li lt : Nat} {k0 k1 k2 k3 k4 k5 : Tok} {Q : Value → Shared → Prop}
    (m1 : (x, instObj 314 d) ∈ news) (m2 : (d, callD w (.ref li) (.ref lt) k0 k1 k2 k3 k4 k5) ∈ news)
    (post : ∀ {h' : Heap} {tk' : Nat}, Fr h₀ L h' m → News h₀ L h' news → Q (.bool false) { s with heap := h', toks := tk' }) :
    wpAny (MD w) (AR dp u env outer gs) (call (.ref 728) [.ref x]) Q E s := by
  obtain ⟨⟨A₀, base, mean, mg, mb, B, T⟩, F, X, N, hf, hke, hdp, hu⟩ := C
  walk_at "mine start"
  k_steps
  exact post (by assumption) (News.sub (by assumption) (by walk_at "mine sub"))
theorem dim_of_spec {w : World} {dp u : Nat} {env : Env} {outer : List Env} {gs : Option (List Code)} {E : Value → Shared → Prop} {s : Shared} {h₀ : Heap} {L : Addr} {m : Str → Option Value} {news : List (Addr × Obj)}
    (C : Cx 490 w env outer dp u s.heap h₀ L m news) {x d l : Nat} {kd : Str} {sh lo : Value} {k k1 k2 k3 k4 k5 : Tok} {Q : Value → Shared → Prop}
    (m1 : (x, instObj 271 d) ∈ news) (m2 : (d, vecD w (.str kd k) (.ref l) .none sh lo k1 k2 k3 k4 k5) ∈ news)
    (post : ∀ {h' : Heap} {tk' : Nat}, Fr h₀ L h' m → News h₀ L h' news → Q .none { s with heap := h', toks := tk' }) :
    wpAny (MD w) (AR dp u env outer gs) (call (.ref 35) [.ref x]) Q E s := by
  obtain ⟨⟨A₀, base, mean, mg, mb, B, T⟩, F, X, N, hf, hke, hdp, hu⟩ := C
  walk_at "mine start"
  k_steps
  exact post (by assumption) (News.sub (by assumption) (by walk_at "mine sub"))
theorem reg6 : True := by
  k_with "call ref" => (k_here; (with_reducible show wpAny _ _ (call (Value.ref 728) _ _) _ _ _); k_dflt (first   | (refine' is_constant_vec ?zqC ?zqm1 ?zqm2 ?zqm3 ?zqhk ?_; (case zqC => walk_at "mine cx"); (case zqm1 => k_mem); (case zqm2 => k_mem); (case zqm3 => k_mem); (case zqhk => first | assumption | exact .inl rfl | exact .inr rfl); k_whole; intro h' tk' F' N'; (try k_sweep))   | (refine' is_constant_call ?zqC ?zqm1 ?zqm2 ?_; (case zqC => walk_at "mine cx"); (case zqm1 => k_mem); (case zqm2 => k_mem); k_whole; intro h' tk' F' N'; (try k_sweep))))
  k_with "call ref" => (k_here; (with_reducible show wpAny _ _ (call (Value.ref 35) _ _) _ _ _); k_dflt (refine' dim_of_spec ?zqC ?zqm1 ?zqm2 ?_; (case zqC => walk_at "mine cx"); (case zqm1 => k_mem); (case zqm2 => k_mem); k_whole; intro h' tk' F' N'; (try k_sweep)))
  trivial
theorem News.dup {h₀ h : Heap} {L : Addr} {a : List (Addr × Obj)} {p : Addr × Obj} (N : News h₀ L h a) (hm : p ∈ a) : News h₀ L h (p :: a) := fun r hr => by
  rcases List.mem_cons.mp hr with rfl | hr
  · exact N _ hm
  · exact N _ hr
theorem my_item {prog : Program} {w : World} {A : Around} {E : Value → Shared → Prop} {s : Shared} {h₀ : Heap} {L : Addr} {news : List (Addr × Obj)} {value slice : PySem.Expr} {l : Addr} {vs : List Value} {n : Nat} {k : Int} {u : Tok} {v : Value} {Q : Value → Shared → Prop}
    (N : News h₀ L s.heap news) (hm : (l, W.listOf vs.toArray n) ∈ news) (h0 : 0 ≤ k) (hhi : k < 2 ^ 63) (hx : vs[k.toNat]? = some v) (h : Q v s)
    (hs : subscripted slice false (.ref l) (.int k u) = operate [.ref l, .int k u] (getItem (.ref l) (.int k u)) := by with_unfolding_all rfl) :
    wpAny (model prog w) A (subscriptTail value slice (.ref l) (.int k u)) Q E s :=
  have hl : s.heap.IsList l vs.toArray := News.isList N hm
  tail_any hl.typeIs slot_list_getitem.lookup (wpAny_getItem_list hl h0 hhi (by simpa using hx) h) hs
theorem reg7 : True := by
  k_with "subscriptTail" => (k_here; (with_reducible show wpAny _ _ (subscriptTail _ _ (Value.ref _) (Value.int _ _)) _ _ _); k_dflt (refine' my_item ?zqN ?zqm ?zqk2 ?zqk3 ?zqk4 ?_ ?zqk6; (case zqN => k_asm); (case zqm => k_mem); (case zqk2 => decide); (case zqk3 => decide); (case zqk4 => exact rfl); (case zqk6 => with_unfolding_all rfl); k_whole))
  k_with "pyIter ref" => (k_here; (with_reducible show wpAny _ _ (pyIter (Value.ref _)) (fun it s₂ => LoopAtV _ _ _ _ _ _ _ _ _ it s₂) _ _); (rename Fr _ _ _ _ => lF'); (with_unfolding_all refine' iter_listUnr ?zqhh lF' ?zqN ?zqhm ?zqhc ?zqhd ?_; (case zqhh => exact rfl); (case zqN => k_asm); (case zqhm => k_mem); (case zqhc => exact rfl); (case zqhd => exact rfl)); clear lF'; intro i' l1)
  trivial
theorem unrEnd_lt {h₀ : Heap} {L I : Addr} {it : Obj} {lp : Addr × Obj} {rest : (Str → Option Value) → List (Addr × Obj) → Prop} {s₁ : Shared} {h' : Heap} {tk : Nat} {m' : Str → Option Value} {all news' : List (Addr × Obj)} (F : Fr h₀ L h' m') (N : News h₀ L h' all)
    (l1 : ∀ p ∈ news', p.1 < I) (sub : ((I, it) :: news').Sublist all) (hm : lp ∈ news') (r : rest m' news') : UnrEnd h₀ L s₁ I it (fun m n => lp ∈ n ∧ rest m n) { s₁ with heap := h', toks := tk } :=
  UnrEnd.intro F N news' (fun p hp => sub.subset hp) (fun p hp => Nat.ne_of_lt (l1 p hp)) ⟨hm, r⟩
theorem reg8 : True := by
  k_with "UnrEnd" => (k_here; (refine' unrEnd_lt ?zqF ?zqN ?zql1 ?zqsub ?zqmem ?_); (case zql1 => assumption); (case zqF => k_asm); (case zqN => k_asm); (case zqsub => walk_at "mine sub"); (case zqmem => k_mem))
  trivial
theorem plain_call_name_spec {w : World} {dp u : Nat} {env : Env} {outer : List Env} {gs : Option (List Code)} {E : Value → Shared → Prop} {s : Shared} {h₀ : Heap} {L : Addr} {m : Str → Option Value} {news : List (Addr × Obj)}
    (C : Cx 490 w env outer dp u s.heap h₀ L m news) {x d li lt sy sd : Nat} {nm : Str} {kn k0 k1 k2 k3 k4 k5 j0 j1 j2 j3 : Tok} {v1 v2 : Value} {Q : Value → Shared → Prop}
    (m1 : (x, instObj 314 d) ∈ news) (m2 : (d, callD w (.ref li) (.ref lt) k0 k1 k2 k3 k4 k5) ∈ news) (m3 : (lt, W.listOf #[.none, .none, .none] 0) ∈ news) (m4 : (li, W.listOf #[.ref sy, v1, v2] 0) ∈ news) (m5 : (sy, instObj 292 sd) ∈ news) (m6 : (sd, symD w (.str nm kn) j0 j1 j2 j3) ∈ news)
    (post : ∀ {h' : Heap} {tk' : Nat}, Fr h₀ L h' m → News h₀ L h' news → Q (.str nm kn) { s with heap := h', toks := tk' }) :
    wpAny (MD w) (AR dp u env outer gs) (call (.ref 735) [.ref x]) Q E s := by
  obtain ⟨⟨A₀, base, mean, mg, mb, B, T⟩, F, X, N, hf, hke, hdp, hu⟩ := C
  replace N := News.dup N m3
  walk_at "mine start"
  k_steps
  exact post (by assumption) (News.sub (by assumption) (by walk_at "mine sub"))
theorem reg9 : True := by
  k_with "call ref" => (k_here; (with_reducible show wpAny _ _ (call (Value.ref 735) _ _) _ _ _); k_dflt (refine' plain_call_name_spec ?zqC ?zqm1 ?zqm2 ?zqm3 ?zqm4 ?zqm5 ?zqm6 ?_; (case zqC => walk_at "mine cx"); (case zqm1 => k_mem); (case zqm2 => k_mem); (case zqm3 => k_mem); (case zqm4 => k_mem); (case zqm5 => k_mem); (case zqm6 => k_mem); k_whole; intro h' tk' F' N'; (try k_sweep)))
  trivial
theorem result_dim_spec {w : World} {dp u : Nat} {env : Env} {outer : List Env} {gs : Option (List Code)} {E : Value → Shared → Prop} {s : Shared} {h₀ : Heap} {L : Addr} {m : Str → Option Value} {news : List (Addr × Obj)}
    (C : Cx 490 w env outer dp u s.heap h₀ L m news) {nx ny x dx lx y dy ly : Nat} {kdx kdy : Str} {itx ity shx lox shy loy : Value} {kx kx1 kx2 kx3 kx4 kx5 ky ky1 ky2 ky3 ky4 ky5 : Tok} {Q : Value → Shared → Prop}
    (m1 : (x, instObj 271 dx) ∈ news) (m2 : (dx, vecD w (.str kdx kx) (.ref lx) .none shx lox kx1 kx2 kx3 kx4 kx5) ∈ news) (m3 : (lx, W.listOf #[itx] nx) ∈ news)
    (m4 : (y, instObj 271 dy) ∈ news) (m5 : (dy, vecD w (.str kdy ky) (.ref ly) .none shy loy ky1 ky2 ky3 ky4 ky5) ∈ news) (m6 : (ly, W.listOf #[ity] ny) ∈ news) (hx : (kdx == Str.ofString "NULL") = false) (hy : (kdy == Str.ofString "NULL") = false)
    (post : ∀ {h' : Heap} {tk' : Nat}, Fr h₀ L h' m → News h₀ L h' news → Q .none { s with heap := h', toks := tk' }) :
    wpAny (MD w) (AR dp u env outer gs) (call (.ref 396) [.ref x, .ref y]) Q E s := by
  obtain ⟨⟨A₀, base, mean, mg, mb, B, T⟩, F, X, N, hf, hke, hdp, hu⟩ := C
  walk_at "mine start"
  k_steps
  exact post (by assumption) (News.sub (by assumption) (by walk_at "mine sub"))
theorem note_array_spec {w : World} {dp u : Nat} {env : Env} {outer : List Env} {gs : Option (List Code)} {E : Value → Shared → Prop} {s : Shared} {h₀ : Heap} {L : Addr} {m : Str → Option Value} {news : List (Addr × Obj)}
    (C : Cx 490 w env outer dp u s.heap h₀ L m news) {nx ny x dx lx y dy ly : Nat} {kdx kdy : Str} {itx ity shx lox shy loy : Value} {kx kx1 kx2 kx3 kx4 kx5 ky ky1 ky2 ky3 ky4 ky5 : Tok} {nt : Value} {Q : Value → Shared → Prop}
    (m1 : (x, instObj 271 dx) ∈ news) (m2 : (dx, vecD w (.str kdx kx) (.ref lx) .none shx lox kx1 kx2 kx3 kx4 kx5) ∈ news) (m3 : (lx, W.listOf #[itx] nx) ∈ news)
    (m4 : (y, instObj 271 dy) ∈ news) (m5 : (dy, vecD w (.str kdy ky) (.ref ly) .none shy loy ky1 ky2 ky3 ky4 ky5) ∈ news) (m6 : (ly, W.listOf #[ity] ny) ∈ news) (hx : (kdx == Str.ofString "NULL") = false) (hy : (kdy == Str.ofString "NULL") = false)
    (post : ∀ {h' : Heap} {tk' : Nat}, Fr h₀ L h' m → News h₀ L h' news → Q .none { s with heap := h', toks := tk' }) :
    wpAny (MD w) (AR dp u env outer gs) (call (.ref 403) [.ref x, .ref y, nt]) Q E s := by
  obtain ⟨⟨A₀, base, mean, mg, mb, B, T⟩, F, X, N, hf, hke, hdp, hu⟩ := C
  walk_at "mine start"
  k_steps
  exact post (by assumption) (News.sub (by assumption) (by walk_at "mine sub"))
theorem note_rec_spec {w : World} {dp u : Nat} {env : Env} {outer : List Env} {gs : Option (List Code)} {E : Value → Shared → Prop} {s : Shared} {h₀ : Heap} {L : Addr} {m : Str → Option Value} {news : List (Addr × Obj)}
    (C : Cx 490 w env outer dp u s.heap h₀ L m news) {t1 t2 : Tok} {nt : Value} {Q : Value → Shared → Prop}
    (post : ∀ {h' : Heap} {tk' : Nat}, Fr h₀ L h' m → News h₀ L h' news → Q .none { s with heap := h', toks := tk' }) :
    wpAny (MD w) (AR dp u env outer gs) (call (.ref 382) [.int 1 t1, .int 1 t2, nt]) Q E s := by
  obtain ⟨⟨A₀, base, mean, mg, mb, B, T⟩, F, X, N, hf, hke, hdp, hu⟩ := C
  walk_at "mine start"
  k_steps
  exact post (by assumption) (News.sub (by assumption) (by walk_at "mine sub"))
theorem reg10 : True := by
  k_with "call ref" => (k_here; (with_reducible show wpAny _ _ (call (Value.ref 396) _ _) _ _ _); k_dflt (refine' result_dim_spec ?zqC ?zqm1 ?zqm2 ?zqm3 ?zqm4 ?zqm5 ?zqm6 ?zqhx ?zqhy ?_; (case zqC => walk_at "mine cx"); (case zqm1 => k_mem); (case zqm2 => k_mem); (case zqm3 => k_mem); (case zqm4 => k_mem); (case zqm5 => k_mem); (case zqm6 => k_mem); (case zqhx => first | assumption | decide); (case zqhy => first | assumption | decide); k_whole; intro h' tk' F' N'; (try k_sweep)))
  k_with "call ref" => (k_here; (with_reducible show wpAny _ _ (call (Value.ref 403) _ _) _ _ _); k_dflt (refine' note_array_spec ?zqC ?zqm1 ?zqm2 ?zqm3 ?zqm4 ?zqm5 ?zqm6 ?zqhx ?zqhy ?_; (case zqC => walk_at "mine cx"); (case zqm1 => k_mem); (case zqm2 => k_mem); (case zqm3 => k_mem); (case zqm4 => k_mem); (case zqm5 => k_mem); (case zqm6 => k_mem); (case zqhx => first | assumption | decide); (case zqhy => first | assumption | decide); k_whole; intro h' tk' F' N'; (try k_sweep)))
  k_with "call ref" => (k_here; (with_reducible show wpAny _ _ (call (Value.ref 382) _ _) _ _ _); k_dflt (refine' note_rec_spec ?zqC ?_; (case zqC => walk_at "mine cx"); k_whole; intro h' tk' F' N'; (try k_sweep)))
  trivial
theorem common_length_spec {w : World} {dp u : Nat} {env : Env} {outer : List Env} {gs : Option (List Code)} {E : Value → Shared → Prop} {s : Shared} {h₀ : Heap} {L : Addr} {m : Str → Option Value} {news : List (Addr × Obj)}
    (C : Cx 480 w env outer dp u s.heap h₀ L m news) {nx ny x dx lx y dy ly : Nat} {kdx kdy : Str} {itx ity shx lox shy loy : Value} {kx kx1 kx2 kx3 kx4 kx5 ky ky1 ky2 ky3 ky4 ky5 : Tok} {nt : Value} {Q : Value → Shared → Prop}
    (m1 : (x, instObj 271 dx) ∈ news) (m2 : (dx, vecD w (.str kdx kx) (.ref lx) .none shx lox kx1 kx2 kx3 kx4 kx5) ∈ news) (m3 : (lx, W.listOf #[itx] nx) ∈ news)
    (m4 : (y, instObj 271 dy) ∈ news) (m5 : (dy, vecD w (.str kdy ky) (.ref ly) .none shy loy ky1 ky2 ky3 ky4 ky5) ∈ news) (m6 : (ly, W.listOf #[ity] ny) ∈ news) (hx : (kdx == Str.ofString "NULL") = false) (hy : (kdy == Str.ofString "NULL") = false)
    (post : ∀ {h' : Heap} {tk' tk : Nat}, Fr h₀ L h' m → News h₀ L h' news → Q (.int 1 tk) { s with heap := h', toks := tk' }) :
    wpAny (MD w) (AR dp u env outer gs) (call (.ref 410) [.ref x, .ref y, nt]) Q E s := by
  obtain ⟨⟨A₀, base, mean, mg, mb, B, T⟩, F, X, N, hf, hke, hdp, hu⟩ := C
  walk_at "mine start"
  k_steps
  exact post (by assumption) (News.sub (by assumption) (by walk_at "mine sub"))
theorem reg11 : True := by
  k_with "call ref" => (k_here; (with_reducible show wpAny _ _ (call (Value.ref 410) _ _) _ _ _); k_dflt (refine' common_length_spec ?zqC ?zqm1 ?zqm2 ?zqm3 ?zqm4 ?zqm5 ?zqm6 ?zqhx ?zqhy ?_; (case zqC => walk_at "mine cx"); (case zqm1 => k_mem); (case zqm2 => k_mem); (case zqm3 => k_mem); (case zqm4 => k_mem); (case zqm5 => k_mem); (case zqm6 => k_mem); (case zqhx => first | assumption | decide); (case zqhy => first | assumption | decide); k_whole; intro h' tk' tk F' N'; (try k_sweep)))
  trivial
theorem number_items_spec {w : World} {dp u : Nat} {env : Env} {outer : List Env} {gs : Option (List Code)} {E : Value → Shared → Prop} {s : Shared} {h₀ : Heap} {L : Addr} {m : Str → Option Value} {news : List (Addr × Obj)}
    (C : Cx 480 w env outer dp u s.heap h₀ L m news) {x d l : Nat} {kd : Str} {at_ sh lo : Value} {k k1 k2 k3 k4 k5 : Tok} {Q : Value → Shared → Prop}
    (m1 : (x, instObj 271 d) ∈ news) (m2 : (d, vecD w (.str kd k) (.ref l) at_ sh lo k1 k2 k3 k4 k5) ∈ news) (hk : kd = Str.ofString "double" ∨ kd = Str.ofString "integer")
    (post : ∀ {h' : Heap} {tk' : Nat}, Fr h₀ L h' m → News h₀ L h' news → Q (.ref l) { s with heap := h', toks := tk' }) :
    wpAny (MD w) (AR dp u env outer gs) (call (.ref 459) [.ref x]) Q E s := by
  obtain ⟨⟨A₀, base, mean, mg, mb, B, T⟩, F, X, N, hf, hke, hdp, hu⟩ := C
  rcases hk with rfl | rfl
  all_goals (walk_at "mine start"; k_steps)
  all_goals exact post (by assumption) (News.sub (by assumption) (by walk_at "mine sub"))
theorem reg12 : True := by
  k_with "call ref" => (k_here; (with_reducible show wpAny _ _ (call (Value.ref 459) _ _) _ _ _); k_dflt (refine' number_items_spec ?zqC ?zqm1 ?zqm2 ?zqhk ?_; (case zqC => walk_at "mine cx"); (case zqm1 => k_mem); (case zqm2 => k_mem); (case zqhk => first | assumption | exact .inl rfl | exact .inr rfl); k_whole; intro h' tk' F' N'; (try k_sweep)))
  trivial
theorem compEnd1 {h₀ : Heap} {L I C D : Addr} {m : Str → Option Value} {s₁ : Shared} {oI oC oD : Obj} {S : List (Addr × Obj) → Prop} {rest : Value → List (Addr × Obj) → Prop} {y : Value} {h' : Heap} {tk : Nat} {e : Addr × Obj} {tl : List (Addr × Obj)}
    (F : Fr h₀ L h' m) (N : News h₀ L h' (e :: (I, oI) :: (C, oC) :: (D, oD) :: tl)) (n1 : (@Ne Nat e.1 I) ∧ (@Ne Nat e.1 C) ∧ (@Ne Nat e.1 D)) (off : LCg.Off3 I C D tl) (hS : S (e :: tl)) (r : rest y (e :: tl)) :
    LCg.CompEnd h₀ L m s₁ I oI C oC D oD S rest y { s₁ with heap := h', toks := tk } :=
  LCg.CompEnd.intro F N (e :: tl) (fun p hp => by
    rcases List.mem_cons.mp hp with rfl | hp
    · exact .tail _ (.head _)
    rcases List.mem_cons.mp hp with rfl | hp
    · exact .tail _ (.tail _ (.head _))
    rcases List.mem_cons.mp hp with rfl | hp
    · exact .tail _ (.tail _ (.tail _ (.head _)))
    rcases List.mem_cons.mp hp with rfl | hp
    · exact .head _
    · exact .tail _ (.tail _ (.tail _ (.tail _ hp)))) ⟨n1, off⟩ hS r
theorem reg13 : True := by
  k_with "CompEnd" => (refine' compEnd1 ?zqF ?zqN ?zqn1 ?zqoff ?zqhS ?_; (case zqF => k_asm); (case zqN => k_asm); (case zqoff => first | assumption | exact (by assumption : _ ∧ LCg.Off3 _ _ _ _).2 | exact (by assumption : _ ∧ _ ∧ LCg.Off3 _ _ _ _).2.2); (case zqn1 => refine And.intro ?_ (And.intro ?_ ?_) <;> k_ne); (case zqhS => lcg_src); k_whole)
  trivial
/-- the one item of an operand: a whole or a double -/
def ItemAt (news : List (Addr × Obj)) (kd : Str) (it : Value) (n : Int) : Prop :=
  (kd = Str.ofString "double" ∧ ∃ t k1 k2, it = .ref t ∧ (t, tupO #[.int n k1, .int 1 k2]) ∈ news) ∨ (kd = Str.ofString "integer" ∧ ∃ k, it = .int n k)
theorem ItemAt.kd {news : List (Addr × Obj)} {kd : Str} {it : Value} {n : Int} (h : ItemAt news kd it n) : kd = Str.ofString "double" ∨ kd = Str.ofString "integer" := h.imp And.left And.left
theorem ItemAt.more {news news' : List (Addr × Obj)} {kd : Str} {it : Value} {n : Int} (h : ItemAt news kd it n) (s : ∀ p ∈ news, p ∈ news') : ItemAt news' kd it n :=
  h.imp (fun ⟨a, t, k1, k2, b, c⟩ => ⟨a, t, k1, k2, b, s _ c⟩) id
theorem double_items_spec {w : World} {dp u : Nat} {env : Env} {outer : List Env} {gs : Option (List Code)} {E : Value → Shared → Prop} {s : Shared} {h₀ : Heap} {L : Addr} {m : Str → Option Value} {news : List (Addr × Obj)}
    (C : Cx 470 w env outer dp u s.heap h₀ L m news) {nn x d l : Nat} {kd : Str} {it at_ sh lo : Value} {n : Int} {k k1 k2 k3 k4 k5 : Tok} {Q : Value → Shared → Prop}
    (m1 : (x, instObj 271 d) ∈ news) (m2 : (d, vecD w (.str kd k) (.ref l) at_ sh lo k1 k2 k3 k4 k5) ∈ news) (m3 : (l, W.listOf #[it] nn) ∈ news) (hi : ItemAt news kd it n)
    (post : ∀ {h' : Heap} {tk' : Nat} {n' r t : Nat} {j1 j2 : Tok}, Fr h₀ L h' m → News h₀ L h' ((r, W.listOf #[.ref t] n') :: (t, tupO #[.int n j1, .int 1 j2]) :: news) → Q (.ref r) { s with heap := h', toks := tk' }) :
    wpAny (MD w) (AR dp u env outer gs) (call (.ref 464) [.ref x]) Q E s := by
  obtain ⟨⟨A₀, base, mean, mg, mb, B, T⟩, F, X, N, hf, hke, hdp, hu⟩ := C
  rcases hi with ⟨rfl, t, j1, j2, rfl, m4⟩ | ⟨rfl, tn, rfl⟩
  · walk_at "mine start"
    k_steps
    exact post (by assumption) (News.dup (News.dup (News.sub (by assumption) (by walk_at "mine sub")) m4) (.tail _ m3))
  · walk_at "mine start"
    k_steps
    exact post (by assumption) (News.sub (by assumption) (by walk_at "mine sub"))
theorem reg14 : True := by
  k_with "mine item" => first | assumption | exact ItemAt.more (by assumption) (by kcf_all) | exact .inl ⟨rfl, _, _, _, rfl, by k_mem⟩ | exact .inr ⟨rfl, _, rfl⟩
  k_with "call ref" => (k_here; (with_reducible show wpAny _ _ (call (Value.ref 464) _ _) _ _ _); k_dflt (refine' double_items_spec ?zqC ?zqm1 ?zqm2 ?zqm3 ?zqhi ?_; (case zqC => walk_at "mine cx"); (case zqm1 => k_mem); (case zqm2 => k_mem); (case zqm3 => k_mem); (case zqhi => walk_at "mine item"); k_whole; intro h' tk' n' r t j1 j2 F' N'; (try k_sweep)))
  trivial
theorem is_great_spec {w : World} {dp u : Nat} {env : Env} {outer : List Env} {gs : Option (List Code)} {E : Value → Shared → Prop} {s : Shared} {h₀ : Heap} {L : Addr} {m : Str → Option Value} {news : List (Addr × Obj)}
    (C : Cx 470 w env outer dp u s.heap h₀ L m news) {kd : Str} {it : Value} {n : Int} {Q : Value → Shared → Prop} (hi : ItemAt news kd it n)
    (post : ∀ {h' : Heap} {tk' : Nat} {b : Bool}, (b = true ↔ 100 < n.natAbs) → Fr h₀ L h' m → News h₀ L h' news → Q (.bool b) { s with heap := h', toks := tk' }) :
    wpAny (MD w) (AR dp u env outer gs) (call (.ref 756) [it]) Q E s := by
  obtain ⟨⟨A₀, base, mean, mg, mb, B, T⟩, F, X, N, hf, hke, hdp, hu⟩ := C
  rcases hi with ⟨rfl, t, j1, j2, rfl, m4⟩ | ⟨rfl, tn, rfl⟩
  all_goals (walk_at "mine start"; k_steps)
  all_goals exact post (by rw [decide_eq_true_iff]; split <;> omega) (by assumption) (News.sub (by assumption) (by walk_at "mine sub"))
theorem is_great_two {w : World} {dp u : Nat} {env : Env} {outer : List Env} {gs : Option (List Code)} {E : Value → Shared → Prop} {s : Shared} {h₀ : Heap} {L : Addr} {m : Str → Option Value} {news : List (Addr × Obj)}
    (C : Cx 470 w env outer dp u s.heap h₀ L m news) {kd : Str} {it : Value} {n : Int} {Q : Value → Shared → Prop} (hi : ItemAt news kd it n)
    (small : n.natAbs ≤ 100 → ∀ {h' : Heap} {tk' : Nat}, Fr h₀ L h' m → News h₀ L h' news → Q (.bool false) { s with heap := h', toks := tk' })
    (great : 100 < n.natAbs → ∀ {h' : Heap} {tk' : Nat}, Fr h₀ L h' m → News h₀ L h' news → Q (.bool true) { s with heap := h', toks := tk' }) :
    wpAny (MD w) (AR dp u env outer gs) (call (.ref 756) [it]) Q E s :=
  is_great_spec C hi fun {_ _ b} hb F N => by
    cases b with
    | true => exact great (hb.mp rfl) F N
    | false => exact small (by have : ¬ 100 < n.natAbs := fun h => Bool.noConfusion (hb.mpr h); omega) F N
theorem reg15 : True := by
  k_with "call ref" => (k_here; (with_reducible show wpAny _ _ (call (Value.ref 756) _ _) _ _ _); k_dflt (refine' is_great_two ?zqC ?zqhi ?_ ?_; (case zqC => walk_at "mine cx"); (case zqhi => walk_at "mine item"); (all_goals (intro hgr h' tk' F' N'; (try k_sweep)))))
  trivial
/-- a pair of ints, of the ledger or ONE of the top -/
def TupAt (news : List (Addr × Obj)) (r : Addr) (P D : Int) : Prop := (∃ k1 k2 : Tok, (r, tupO #[.int P k1, .int D k2]) ∈ news) ∨ (r = 71 ∧ P = 1 ∧ D = 1)
theorem TupAt.more {news news' : List (Addr × Obj)} {r : Addr} {P D : Int} (h : TupAt news r P D) (s : ∀ p ∈ news, p ∈ news') : TupAt news' r P D := h.imp (fun ⟨k1, k2, h⟩ => ⟨k1, k2, s _ h⟩) id
def TupH (h : Heap) (r : Addr) (P D : Int) : Prop := ∃ (k1 k2 : Tok), IsTup h r #[.int P k1, .int D k2]
theorem one_in (P : Params) : (K P).lookup 71 = some { cls := .type "tuple", data := .seq #[.int 1 270, .int 1 271] } := by kernel_rfl!
theorem zero_in (P : Params) : (K P).lookup 70 = some { cls := .type "tuple", data := .seq #[.int 0 267, .int 1 268] } := by kernel_rfl!
theorem TupAt.tup {news : List (Addr × Obj)} {r : Addr} {P D : Int} {h₀ h : Heap} {L : Addr} {m : Str → Option Value} {w : World} (t : TupAt news r P D) (F : Fr h₀ L h m) (N : News h₀ L h news) (X : (K w.params).In h₀) : TupH h r P D := by
  rcases t with ⟨k1, k2, hm⟩ | ⟨rfl, rfl, rfl⟩
  · exact ⟨k1, k2, News.isTup N hm⟩
  · exact ⟨_, _, _, (X.keeps F.keep) _ _ (one_in _), rfl, _, rfl⟩
theorem TupH.one {h₀ h : Heap} {L : Addr} {m : Str → Option Value} {w : World} (F : Fr h₀ L h m) (X : (K w.params).In h₀) : TupH h 71 1 1 := ⟨_, _, _, (X.keeps F.keep) _ _ (one_in _), rfl, _, rfl⟩
theorem TupH.zero {h₀ h : Heap} {L : Addr} {m : Str → Option Value} {w : World} (F : Fr h₀ L h m) (X : (K w.params).In h₀) : TupH h 70 0 1 := ⟨_, _, _, (X.keeps F.keep) _ _ (zero_in _), rfl, _, rfl⟩
section
variable {prog : Program} {w : World} {A : Around} {E : Value → Shared → Prop} {s : Shared} {value slice : PySem.Expr} {r : Addr} {P D : Int} {u : Tok} {Q : Value → Shared → Prop}
theorem tup_item0 (t : TupH s.heap r P D) (h : ∀ tk, Q (.int P tk) s) (hs : subscripted slice false (.ref r) (.int 0 u) = operate [.ref r, .int 0 u] (getItem (.ref r) (.int 0 u)) := by with_unfolding_all rfl) :
    wpAny (model prog w) A (subscriptTail value slice (.ref r) (.int 0 u)) Q E s := by
  obtain ⟨k1, k2, t⟩ := t
  exact item_tupleT (l := [.int P k1, .int D k2]) (j := 0) t (by decide) (by decide) rfl rfl (h k1) hs
theorem tup_item1 (t : TupH s.heap r P D) (h : ∀ tk, Q (.int D tk) s) (hs : subscripted slice false (.ref r) (.int 1 u) = operate [.ref r, .int 1 u] (getItem (.ref r) (.int 1 u)) := by with_unfolding_all rfl) :
    wpAny (model prog w) A (subscriptTail value slice (.ref r) (.int 1 u)) Q E s := by
  obtain ⟨k1, k2, t⟩ := t
  exact item_tupleT (l := [.int P k1, .int D k2]) (j := 1) t (by decide) (by decide) rfl rfl (h k2) hs
theorem TupH.reads {h : Heap} {r : Addr} {P D : Int} (t : TupH h r P D) : ∃ as, Reads h (.ref r) (.tuple [.int P, .int D]) as := by
  obtain ⟨k1, k2, o, ho, hc, n, hd⟩ := t
  exact ⟨_, reads_tuple_at ho hc hd (.cons (.int _ _) (.cons (.int _ _) .nil))⟩
theorem eq_tups {a b : Addr} {P' : Int} (ta : TupH s.heap a P D) (tb : TupH s.heap b P' D) (hu : A.units + 64 < cLine) (h : Q (.bool (decide (P = P'))) s) :
    wpAny (model prog w) A (compareOp .Eq (.ref a) (.ref b)) Q E s := by
  obtain ⟨as, ra⟩ := ta.reads
  obtain ⟨bs, rb⟩ := tb.reads
  refine eq_dataH ra rb rfl rfl hu ?_
  have e : PyData.eqv (.tuple [.int P, .int D]) (.tuple [.int P', .int D]) = decide (P = P') := by
    simp [PyData.eqv, PyData.eqvAll]
    try (by_cases h : P = P' <;> simp [h])
  rw [e]; exact h
end
theorem reg16 : True := by
  k_with "mine tup" => first | exact TupAt.tup (by assumption) (by k_asm) (by k_asm) (by k_asm) | exact TupAt.tup (TupAt.more (by assumption) (by kcf_all)) (by k_asm) (by k_asm) (by k_asm) | exact TupH.one (by k_asm) (by k_asm) | exact TupH.zero (by k_asm) (by k_asm) | exact ⟨_, _, News.isTup (by k_asm) (by k_mem)⟩
  k_with "subscriptTail" => (k_here; (with_reducible show wpAny _ _ (subscriptTail _ _ (Value.ref _) (Value.int _ _)) _ _ _); k_dflt (first   | ((with_reducible refine' tup_item0 ?zqt ?_ ?zqhs); (case zqt => walk_at "mine tup"); (case zqhs => with_unfolding_all rfl); k_whole; intro tk)   | ((with_reducible refine' tup_item1 ?zqt ?_ ?zqhs); (case zqt => walk_at "mine tup"); (case zqhs => with_unfolding_all rfl); k_whole; intro tk)))
  k_with "mine units" => (simp only [units_deeper, units_in1, cLine_is, AR]; omega)
  k_with "compareOp Eq ref ref" => (k_here; (with_reducible show wpAny _ _ (compareOp CmpOp.Eq (Value.ref _) (Value.ref _)) _ _ _); k_dflt (refine' eq_tups ?zqa ?zqb ?zqu ?_; (case zqb => walk_at "mine tup"); (case zqa => walk_at "mine tup"); (case zqu => walk_at "mine units"); k_whole))
  k_with "call ref" => (k_here; (with_reducible show wpAny _ _ (call (Value.ref 65) _ _) _ _ _); exfalso; omega)
  trivial
theorem is_na_spec {w : World} {dp u : Nat} {env : Env} {outer : List Env} {gs : Option (List Code)} {E : Value → Shared → Prop} {s : Shared} {h₀ : Heap} {L : Addr} {m : Str → Option Value} {news : List (Addr × Obj)}
    (C : Cx 440 w env outer dp u s.heap h₀ L m news) {r : Nat} {P D : Int} {Q : Value → Shared → Prop} (hr : TupAt news r P D) (hD : 0 < D)
    (post : ∀ {h' : Heap} {tk' : Nat} {b : Bool}, b = false → Fr h₀ L h' m → News h₀ L h' news → Q (.bool b) { s with heap := h', toks := tk' }) :
    wpAny (MD w) (AR dp u env outer gs) (call (.ref 106) [.ref r]) Q E s := by
  obtain ⟨⟨A₀, base, mean, mg, mb, B, T⟩, F, X, N, hf, hke, hdp, hu⟩ := C
  walk_at "mine start"
  k_steps
  all_goals exact post (by simp only [beq_eq_false_iff_ne, ne_eq]; omega) (by assumption) (News.sub (by assumption) (by walk_at "mine sub"))
theorem bounded_spec {w : World} {dp u : Nat} {env : Env} {outer : List Env} {gs : Option (List Code)} {E : Value → Shared → Prop} {s : Shared} {h₀ : Heap} {L : Addr} {m : Str → Option Value} {news : List (Addr × Obj)}
    (C : Cx 440 w env outer dp u s.heap h₀ L m news) {n d : Int} {t1 t2 : Tok} {Q : Value → Shared → Prop} (h1 : n ≤ 10000000000000000000000000000000000000000000000000000000000000000000000000000000000000000000000000000) (h2 : -10000000000000000000000000000000000000000000000000000000000000000000000000000000000000000000000000000 ≤ n) (h3 : d ≤ 10000000000000000000000000000000000000000000000000000000000000000000000000000000000000000000000000000)
    (post : ∀ {h' : Heap} {tk' : Nat} {t : Nat}, Fr h₀ L h' m → News h₀ L h' ((t, tupO #[.int n t1, .int d t2]) :: news) → AllLt t news → Q (.ref t) { s with heap := h', toks := tk' }) :
    wpAny (MD w) (AR dp u env outer gs) (call (.ref 85) [.int n t1, .int d t2]) Q E s := by
  obtain ⟨⟨A₀, base, mean, mg, mb, B, T⟩, F, X, N, hf, hke, hdp, hu⟩ := C
  walk_at "mine start"
  k_steps
  exact post (by assumption) (News.sub (by assumption) (by walk_at "mine sub")) (by walk_at "mine lt")
theorem within_spec {w : World} {dp u : Nat} {env : Env} {outer : List Env} {gs : Option (List Code)} {E : Value → Shared → Prop} {s : Shared} {h₀ : Heap} {L : Addr} {m : Str → Option Value} {news : List (Addr × Obj)}
    (C : Cx 440 w env outer dp u s.heap h₀ L m news) {r : Nat} {P D : Int} {Q : Value → Shared → Prop} (hr : TupAt news r P D) (h1 : P ≤ 10000000000000000000000000000000000000000000000000000000000000000000000000000000000000000000000000000) (h2 : -10000000000000000000000000000000000000000000000000000000000000000000000000000000000000000000000000000 ≤ P) (h3 : D ≤ 10000000000000000000000000000000000000000000000000000000000000000000000000000000000000000000000000000)
    (post : ∀ {h' : Heap} {tk' : Nat}, Fr h₀ L h' m → News h₀ L h' news → Q (.ref r) { s with heap := h', toks := tk' }) :
    wpAny (MD w) (AR dp u env outer gs) (call (.ref 445) [.ref r]) Q E s := by
  obtain ⟨⟨A₀, base, mean, mg, mb, B, T⟩, F, X, N, hf, hke, hdp, hu⟩ := C
  walk_at "mine start"
  k_steps
  exact post (by assumption) (News.sub (by assumption) (by walk_at "mine sub"))
theorem reg17 : True := by
  k_with "mine tupat" => first | assumption | exact TupAt.more (by assumption) (by kcf_all) | exact .inl ⟨_, _, by k_mem⟩ | exact .inr ⟨rfl, rfl, rfl⟩
  k_with "call ref" => (k_here; (with_reducible show wpAny _ _ (call (Value.ref 106) _ _) _ _ _); k_dflt (refine' is_na_spec ?zqC ?zqhr ?zqhD ?_; (case zqC => walk_at "mine cx"); (case zqhr => walk_at "mine tupat"); (case zqhD => omega); k_whole; intro h' tk' b hb F' N'; subst hb; (try k_sweep)))
  k_with "call ref" => (k_here; (with_reducible show wpAny _ _ (call (Value.ref 85) _ _) _ _ _); k_dflt (refine' bounded_spec ?zqC ?zqh1 ?zqh2 ?zqh3 ?_; (case zqC => walk_at "mine cx"); (case zqh1 => first | omega | (simp only [Int.fdiv_one]; omega)); (case zqh2 => first | omega | (simp only [Int.fdiv_one]; omega)); (case zqh3 => first | omega | (simp only [Int.fdiv_one]; omega)); k_whole; intro h' tk' t F' N' l1; (try simp only [Int.fdiv_one] at N'); (try simp only [AllLt, and_true] at l1); (try k_sweep)))
  k_with "call ref" => (k_here; (with_reducible show wpAny _ _ (call (Value.ref 445) _ _) _ _ _); k_dflt (refine' within_spec ?zqC ?zqhr ?zqh1 ?zqh2 ?zqh3 ?_; (case zqC => walk_at "mine cx"); (case zqhr => walk_at "mine tupat"); (case zqh1 => omega); (case zqh2 => omega); (case zqh3 => omega); k_whole; intro h' tk' F' N'; (try k_sweep)))
  trivial
theorem gcd_step {a b : Int} (ha : 0 ≤ a) (hb : 0 < b) (h : Int.gcd a b = 1) : 0 ≤ a.fmod b ∧ Int.gcd b (a.fmod b) = 1 ∧ a.fmod b < b := by
  obtain ⟨x, rfl⟩ := Int.eq_ofNat_of_zero_le ha
  obtain ⟨y, rfl⟩ := Int.eq_ofNat_of_zero_le (Int.le_of_lt hb)
  rw [Int.fmod_eq_emod_of_nonneg _ (by omega)]
  rw [← Int.natCast_emod]
  simp only [Int.gcd_natCast_natCast] at h ⊢
  refine ⟨by omega, ?_, ?_⟩
  · rw [Nat.gcd_comm, ← Nat.gcd_rec, Nat.gcd_comm]; exact h
  · have := Nat.mod_lt x (show 0 < y by omega); omega
theorem gcd_last {a b : Int} (ha : 0 ≤ a) (hb : 0 ≤ b) (hb' : ¬ 0 < b) (h : Int.gcd a b = 1) : a = 1 := by
  obtain rfl : b = 0 := by omega
  rw [Int.gcd_zero_right] at h; omega
theorem gcd_spec {w : World} {dp u : Nat} {env : Env} {outer : List Env} {gs : Option (List Code)} {E : Value → Shared → Prop} {s : Shared} {h₀ : Heap} {L : Addr} {m : Str → Option Value} {news : List (Addr × Obj)}
    (C : Cx 440 w env outer dp u s.heap h₀ L m news) {a b : Int} {t1 t2 : Tok} {Q : Value → Shared → Prop} (h1 : 0 ≤ a) (h2 : 0 ≤ b) (hg : Int.gcd a b = 1)
    (post : ∀ {h' : Heap} {tk' tk : Nat}, Fr h₀ L h' m → News h₀ L h' news → Q (.int 1 tk) { s with heap := h', toks := tk' }) :
    wpAny (MD w) (AR dp u env outer gs) (call (.ref 78) [.int a t1, .int b t2]) Q E s := by
  obtain ⟨⟨A₀, base, mean, mg, mb, B, T⟩, F, X, N, hf, hke, hdp, hu⟩ := C
  walk_at "mine start"
  iterate 2 walk1
  (rename Fr _ _ _ _ => lF')
  (rename News _ _ _ _ => lN')
  with_unfolding_all refine' ksw_while (σ := (Int × Nat) × (Int × Nat)) (fun _ => news) (fun c => [(Str.ofString "a", .int c.1.1 c.1.2), (Str.ofString "b", .int c.2.1 c.2.2)]) (fun _ => True) [] (fun c => 0 ≤ c.1.1 ∧ 0 ≤ c.2.1 ∧ Int.gcd c.1.1 c.2.1 = 1) (fun c => c.2.1.toNat) ((a, t1), (b, t2)) lF' lN' trivial ?hk ⟨h1, h2, hg⟩ ?_
  case hk => intro p hp; simp only [List.mem_cons, List.not_mem_nil, or_false] at hp; rcases hp with rfl | rfl <;> rfl
  clear lF' lN'
  rintro ⟨⟨a', ta⟩, ⟨b', tb⟩⟩ uu h' tk _ ⟨p1, p2, p3⟩ F' N'
  dsimp only at p1 p2 p3 F' N' ⊢
  k_steps
  · obtain ⟨q1, q2, q3⟩ := gcd_step p1 (by assumption) p3
    refine' ksw_end ((b', tb), (a'.fmod b', _)) ?F ?N ?inn trivial ?k ?r ?pp ?m
    case F => assumption
    case N => assumption
    case inn => exact fun p hp => .tail _ hp
    case k => intro p hp; simp only [List.mem_cons, List.not_mem_nil, or_false] at hp; rcases hp with rfl | rfl <;> rfl
    case r => intro z z1 _; have ha := z1 _ (.head _); have hb := z1 _ (.tail _ (.head _)); simp only [] at ha hb; simp [ha, hb, kstB]
    case m => dsimp only; omega
    case pp => exact ⟨p2, q1, q2⟩
  · obtain rfl := gcd_last p1 p2 (by assumption) p3
    exact post (by assumption) (by assumption)
theorem reg18 : True := by
  k_with "call ref" => (k_here; (with_reducible show wpAny _ _ (call (Value.ref 78) _ _) _ _ _); k_dflt (refine' gcd_spec ?zqC ?zqh1 ?zqh2 ?zqhg ?_; (case zqC => walk_at "mine cx"); (case zqh1 => omega); (case zqh2 => omega); (case zqhg => assumption); k_whole; intro h' tk' tk F' N'; (try k_sweep)))
  trivial
theorem make_spec {w : World} {dp u : Nat} {env : Env} {outer : List Env} {gs : Option (List Code)} {E : Value → Shared → Prop} {s : Shared} {h₀ : Heap} {L : Addr} {m : Str → Option Value} {news : List (Addr × Obj)}
    (C : Cx 430 w env outer dp u s.heap h₀ L m news) {n d : Int} {t1 t2 : Tok} {Q : Value → Shared → Prop} (hd : 0 < d) (h1 : n ≤ 10000000000000000000000000000000000000000000000000000000000000000000000000000000000000000000000000000) (h2 : -10000000000000000000000000000000000000000000000000000000000000000000000000000000000000000000000000000 ≤ n) (h3 : d ≤ 10000000000000000000000000000000000000000000000000000000000000000000000000000000000000000000000000000) (hg : Int.gcd (if n < 0 then -n else n) d = 1)
    (post : ∀ {h' : Heap} {tk' : Nat} {t : Nat} {j1 j2 : Tok}, Fr h₀ L h' m → News h₀ L h' ((t, tupO #[.int n j1, .int d j2]) :: news) → AllLt t news → Q (.ref t) { s with heap := h', toks := tk' }) :
    wpAny (MD w) (AR dp u env outer gs) (call (.ref 92) [.int n t1, .int d t2]) Q E s := by
  obtain ⟨⟨A₀, base, mean, mg, mb, B, T⟩, F, X, N, hf, hke, hdp, hu⟩ := C
  walk_at "mine start"
  k_steps
  · exfalso; omega
  · exact post (by assumption) (by assumption) (by walk_at "mine lt")
theorem reg19 : True := by
  k_with "call ref" => (k_here; (with_reducible show wpAny _ _ (call (Value.ref 92) _ _) _ _ _); k_dflt (refine' make_spec ?zqC ?zqhd ?zqh1 ?zqh2 ?zqh3 ?zqhg ?_; (case zqC => walk_at "mine cx"); (case zqhd => omega); (case zqh1 => omega); (case zqh2 => omega); (case zqh3 => omega); (case zqhg => simp only [Int.mul_one, Int.one_mul]; assumption); k_whole; intro h' tk' t j1 j2 F' N' l1; (try simp only [Int.mul_one, Int.one_mul] at N'); (try simp only [AllLt, and_true] at l1); (try k_sweep)))
  trivial
theorem add_spec {w : World} {dp u : Nat} {env : Env} {outer : List Env} {gs : Option (List Code)} {E : Value → Shared → Prop} {s : Shared} {h₀ : Heap} {L : Addr} {m : Str → Option Value} {news : List (Addr × Obj)}
    (C : Cx 420 w env outer dp u s.heap h₀ L m news) {r y : Nat} {P D : Int} {t1 t2 : Tok} {Q : Value → Shared → Prop} (hr : TupAt news r P D) (hy : (y, tupO #[.int 1 t1, .int 1 t2]) ∈ news) (hd : 0 < D) (h1 : P ≤ 1000000000000000000000000000000000000000000000000000000000000000000000000000000000000000000000000000) (h2 : -1000000000000000000000000000000000000000000000000000000000000000000000000000000000000000000000000000 ≤ P) (h3 : D ≤ 1000000000000000000000000000000000000000000000000000000000000000000000000000000000000000000000000000) (hg : Int.gcd (if P + D < 0 then -(P + D) else P + D) D = 1)
    (post : ∀ {h' : Heap} {tk' : Nat} {t : Nat} {j1 j2 : Tok}, Fr h₀ L h' m → News h₀ L h' ((t, tupO #[.int (P + D) j1, .int D j2]) :: news) → AllLt t news → Q (.ref t) { s with heap := h', toks := tk' }) :
    wpAny (MD w) (AR dp u env outer gs) (call (.ref 141) [.ref r, .ref y]) Q E s := by
  obtain ⟨⟨A₀, base, mean, mg, mb, B, T⟩, F, X, N, hf, hke, hdp, hu⟩ := C
  walk_at "mine start"
  k_steps
  all_goals first | (exfalso; omega) | exact post (by assumption) (by assumption) (by walk_at "mine lt")
theorem reg20 : True := by
  k_with "call ref" => (k_here; (with_reducible show wpAny _ _ (call (Value.ref 141) _ _) _ _ _); k_dflt (refine' add_spec ?zqC ?zqhr ?zqhy ?zqhd ?zqh1 ?zqh2 ?zqh3 ?zqhg ?_; (case zqC => walk_at "mine cx"); (case zqhr => walk_at "mine tupat"); (case zqhy => k_mem); (case zqhd => omega); (case zqh1 => omega); (case zqh2 => omega); (case zqh3 => omega); (case zqhg => assumption); k_whole; intro h' tk' t j1 j2 F' N' l1; (try simp only [AllLt, and_true] at l1); (try k_sweep)))
  trivial
def pnum (b n : Int) : Int := if 0 ≤ n then b ^ n.toNat else if 0 < b ^ (-n).toNat then 1 else -1
def pden (b n : Int) : Int := if 0 ≤ n then 1 else if 0 < b ^ (-n).toNat then b ^ (-n).toNat else -(b ^ (-n).toNat)
theorem pow_hi9 : ∀ k : Nat, (9 : Int) ^ k ≤ 10 ^ k := fun k => by
  have h : (9 : Nat) ^ k ≤ 10 ^ k := Nat.pow_le_pow_left (by decide) k
  exact_mod_cast h
theorem natAbs_pow' (a : Int) (k : Nat) : (a ^ k).natAbs = a.natAbs ^ k := Int.natAbs_pow a k
theorem pow_bnd {a : Int} {k : Nat} (ha : a.natAbs ≤ 9) (hk : k ≤ 100) : (a ^ k).natAbs ≤ 9 ^ 100 := by
  rw [natAbs_pow']
  exact Nat.le_trans (Nat.pow_le_pow_left ha k) (Nat.pow_le_pow_right (by decide) hk)
theorem pow_lim : (9 : Nat) ^ 100 ≤ 1000000000000000000000000000000000000000000000000000000000000000000000000000000000000000000000000 := by decide +kernel
theorem one_pow' (k : Nat) : (1 : Int) ^ k = 1 := Int.one_pow
theorem neg_one_pow (k : Nat) : (-1 : Int) ^ k = if k % 2 = 0 then 1 else -1 := by
  induction k with
  | zero => rfl
  | succ k ih =>
    rw [Int.pow_succ, ih]
    split <;> split <;> omega
theorem pnum_one (n : Int) : pnum 1 n = 1 ∧ pden 1 n = 1 := by
  unfold pnum pden; simp only [Int.one_pow]; constructor <;> split <;> simp
theorem pnum_zero (b : Int) : pnum b 0 = 1 ∧ pden b 0 = 1 := by
  unfold pnum pden; simp
theorem pnum_neg_even {n : Int} (h : n.fmod 2 = 0) : pnum (-1) n = 1 ∧ pden (-1) n = 1 := by
  rw [Int.fmod_eq_emod_of_nonneg _ (by omega)] at h
  unfold pnum pden
  simp only [neg_one_pow]
  constructor <;> split <;> (repeat' split) <;> omega
theorem pnum_neg_odd {n : Int} (h : n.fmod 2 ≠ 0) : pnum (-1) n = -1 ∧ pden (-1) n = 1 := by
  rw [Int.fmod_eq_emod_of_nonneg _ (by omega)] at h
  unfold pnum pden
  simp only [neg_one_pow]
  constructor <;> split <;> (repeat' split) <;> omega
theorem pow_pos' {b : Int} (hb : 0 < b) (k : Nat) : 0 < b ^ k := Int.pow_pos hb
theorem pnum_pos {b n : Int} (hn : 0 < n) : pnum b n = b ^ n.toNat ∧ pden b n = 1 := by
  unfold pnum pden; simp only [if_pos (show 0 ≤ n by omega)]; exact ⟨trivial, trivial⟩
theorem pnum_negp {b n : Int} (hn : n < 0) (hb : 0 < b) : pnum b n = 1 ∧ pden b n = b ^ (-n).toNat := by
  have := pow_pos' hb (-n).toNat
  unfold pnum pden; simp only [if_neg (show ¬ 0 ≤ n by omega), if_pos this]; exact ⟨trivial, trivial⟩
theorem pow_neg_split (b : Int) (k : Nat) : b ^ k = (-1) ^ k * (-b) ^ k := by
  rw [← Int.mul_pow]; congr 1; omega
theorem pnum_negn {b n : Int} (hn : n < 0) (hb : b < 0) : pnum b n = (-1) ^ (-n).toNat ∧ pden b n = (-b) ^ (-n).toNat := by
  have h1 := pow_pos' (show 0 < -b by omega) (-n).toNat
  have h2 := pow_neg_split b (-n).toNat
  unfold pnum pden
  simp only [if_neg (show ¬ 0 ≤ n by omega), h2, neg_one_pow]
  generalize (-b) ^ (-n).toNat = v at *
  by_cases e : (-n).toNat % 2 = 0
  · simp only [e, if_true, Int.one_mul, if_pos h1]; exact ⟨trivial, trivial⟩
  · simp only [e, if_false]; rw [if_neg (by omega), if_neg (by omega)]; constructor <;> omega
section
variable {prog : Program} {w : World} {A : Around} {E : Value → Shared → Prop} {s : Shared} {a e : Int} {t u : Tok} {Q : Value → Shared → Prop}
theorem pow_small (ha : a.natAbs ≤ 9) (h0 : 0 ≤ e) (h1 : e ≤ 100) (h : ∀ v, v = a ^ e.toNat → v.natAbs ≤ 1000000000000000000000000000000000000000000000000000000000000000000000000000000000000000000000000 → Q (.int v s.toks) { s with toks := s.toks + 1 }) :
    wpAny (model prog w) A (binaryOp .Pow (.int a t) (.int e u)) Q E s :=
  pow_int_small h0 (by omega) (by omega) (h _ rfl (Nat.le_trans (pow_bnd ha (by omega)) pow_lim))
theorem pow_law (ha : a.natAbs ≤ 9) (h0 : 0 ≤ e) (h1 : e ≤ 130) (h : ∀ v, v = a ^ e.toNat → Q (.int v s.toks) { s with toks := s.toks + 1 }) :
    wpAny (model prog w) A (binaryOp .Pow (.int a t) (.int e u)) Q E s := pow_int_small h0 (by omega) (by omega) (h _ rfl)
theorem ten_pow (h0 : 1 ≤ e) (h1 : e ≤ 5001) (h : ∀ v, 10 ≤ v → Q (.int v s.toks) { s with toks := s.toks + 1 }) :
    wpAny (model prog w) A (binaryOp .Pow (.int 10 t) (.int e u)) Q E s := by
  refine pow_int_small (by omega) (by omega) (by decide) (h _ ?_)
  obtain ⟨k, hk⟩ : ∃ k, e.toNat = k + 1 := ⟨e.toNat - 1, by omega⟩
  rw [hk, Int.pow_succ]
  have := Int.pow_pos (n := 10) (m := k) (by decide)
  omega
theorem div_5000 (h0 : 1 ≤ e) (h9 : e ≤ 100) (h : ∀ v, 0 ≤ v → v ≤ 5000 → Q (.int v s.toks) { s with toks := s.toks + 1 }) :
    wpAny (model prog w) A (binaryOp .FloorDiv (.int 5000 t) (.int e u)) Q E s := by
  refine floordiv_int (by omega) (h _ ?_ ?_) (Or.inl ?_)
  · rw [Int.fdiv_eq_ediv_of_nonneg _ (by omega)]; exact Int.ediv_nonneg (by decide) (by omega)
  · rw [Int.fdiv_eq_ediv_of_nonneg _ (by omega)]; exact Int.ediv_le_self _ (by decide)
  · exact PyProof.noPylong_small (by omega)
end
theorem reg21 : True := by
  k_with "binaryOp Pow int int" => (k_here; first   | ((with_reducible refine' ten_pow ?zqa ?zqb ?_); (case zqa => omega); (case zqb => omega); k_whole; intro v hv)   | ((with_reducible refine' pow_small ?zqa ?zqb ?zqc ?_); (case zqa => first | decide | omega); (case zqb => omega); (case zqc => omega); k_whole; intro v hv hv2)   | ((with_reducible refine' pow_law ?zqa ?zqb ?zqc ?_); (case zqa => first | decide | omega); (case zqb => omega); (case zqc => omega); k_whole; intro v hv))
  k_with "binaryOp FloorDiv int int" => (k_here; (with_reducible refine' div_5000 ?zqa ?zqb ?_); (case zqa => omega); (case zqb => omega); k_whole; intro v hv hv2)
  trivial
theorem tup_now {t : Addr} {P D v1 v2 : Int} {k1 k2 : Tok} (h : P = v1 ∧ D = v2) : TupAt [(t, tupO #[.int v1 k1, .int v2 k2])] t P D := by
  rw [h.1, h.2]; exact .inl ⟨_, _, .head _⟩
theorem abs_neg' {n : Int} (h : n < 0) : (if n < 0 then -n else n) = -n := if_pos h
theorem pp1 {b n v1 v2 : Int} (hn : n < 0) (hb : 0 < b) (h1 : v1 = 1 ^ (if n < 0 then -n else n).toNat) (h2 : v2 = (if b < 0 then -b else b) ^ (if n < 0 then -n else n).toNat) : pnum b n = v1 ∧ pden b n = v2 := by
  rw [if_pos hn] at h1 h2; rw [if_neg (by omega)] at h2; rw [Int.one_pow] at h1
  obtain ⟨e1, e2⟩ := pnum_negp hn hb
  rw [e1, e2, h1, h2]; exact ⟨rfl, rfl⟩
theorem pp2 {b n v1 v2 : Int} (hn : n < 0) (hb : b < 0) (h1 : v1 = (0 - 1) ^ (if n < 0 then -n else n).toNat) (h2 : v2 = (if b < 0 then -b else b) ^ (if n < 0 then -n else n).toNat) : pnum b n = v1 ∧ pden b n = v2 := by
  rw [if_pos hn] at h1 h2; rw [if_pos hb] at h2
  obtain ⟨e1, e2⟩ := pnum_negn hn hb
  rw [e1, e2, h1, h2]; exact ⟨rfl, rfl⟩
theorem pp3 {b n v1 v2 : Int} (hn : 0 < n) (h1 : v1 = b ^ (if n < 0 then -n else n).toNat) (h2 : v2 = 1 ^ (if n < 0 then -n else n).toNat) : pnum b n = v1 ∧ pden b n = v2 := by
  rw [if_neg (by omega)] at h1 h2; rw [Int.one_pow] at h2
  obtain ⟨e1, e2⟩ := pnum_pos (b := b) hn
  rw [e1, e2, h1, h2]; exact ⟨rfl, rfl⟩
theorem pp4 {b n : Int} (hb : b = -1) (h : n.fmod 2 = 0) : 71 = 71 ∧ pnum b n = 1 ∧ pden b n = 1 := by subst hb; exact ⟨rfl, pnum_neg_even h⟩
theorem pp5 {b n : Int} (hb : b = -1) (h : n.fmod 2 ≠ 0) : pnum b n = b ∧ pden b n = 1 := by subst hb; exact pnum_neg_odd h
theorem whole_power_spec {w : World} {dp u : Nat} {env : Env} {outer : List Env} {gs : Option (List Code)} {E : Value → Shared → Prop} {s : Shared} {h₀ : Heap} {L : Addr} {m : Str → Option Value} {news : List (Addr × Obj)}
    (C : Cx 430 w env outer dp u s.heap h₀ L m news) {x : Nat} {b n : Int} {t1 t2 t3 : Tok} {Q : Value → Shared → Prop} (hx : (x, tupO #[.int b t1, .int 1 t2]) ∈ news)
    (hb : -4 ≤ b) (hb' : b ≤ 9) (hb0 : b ≠ 0) (hb1 : b ≠ 1) (hn : n.natAbs ≤ 100) (hn0 : n ≠ 0)
    (post : ∀ {h' : Heap} {tk' : Nat} {r t : Nat} {vs : Array Value}, Fr h₀ L h' m → News h₀ L h' ((t, tupO vs) :: news) → TupAt [(t, tupO vs)] r (pnum b n) (pden b n) → (t = x ∨ AllLt t news) → Q (.ref r) { s with heap := h', toks := tk' }) :
    wpAny (MD w) (AR dp u env outer gs) (call (.ref 204) [.ref x, .int n t3]) Q E s := by
  obtain ⟨⟨A₀, base, mean, mg, mb, B, T⟩, F, X, N, hf, hke, hdp, hu⟩ := C
  walk_at "mine start"
  k_steps
  all_goals first
    | (exfalso; omega)
    | exact post (by assumption) (News.dup (by assumption) hx) (.inr (pp4 (by omega) (by assumption))) (.inl rfl)
    | exact post (by assumption) (News.dup (by assumption) hx) (tup_now (pp5 (by omega) (by assumption))) (.inl rfl)
    | exact post (by assumption) (News.sub (by assumption) (by walk_at "mine sub")) (tup_now (pp1 (by omega) (by omega) (by assumption) (by assumption))) (.inr (by walk_at "mine lt"))
    | exact post (by assumption) (News.sub (by assumption) (by walk_at "mine sub")) (tup_now (pp2 (by omega) (by omega) (by assumption) (by assumption))) (.inr (by walk_at "mine lt"))
    | exact post (by assumption) (News.sub (by assumption) (by walk_at "mine sub")) (tup_now (pp3 (by omega) (by assumption) (by assumption))) (.inr (by walk_at "mine lt"))
    | w_report
theorem reg22 : True := by
  k_with "call ref" => (k_here; (with_reducible show wpAny _ _ (call (Value.ref 204) _ _) _ _ _); k_dflt (refine' whole_power_spec ?zqC ?zqhx ?zqa ?zqb ?zqc ?zqd ?zqe ?zqf ?_; (case zqC => walk_at "mine cx"); (case zqhx => k_mem); (case zqa => omega); (case zqb => omega); (case zqc => omega); (case zqd => omega); (case zqe => omega); (case zqf => omega); k_whole; intro h' tk' r t vs F' N' hT hor; (try k_sweep)))
  trivial
theorem pp6 {b n : Int} (hb : b = 1) : 71 = 71 ∧ pnum b n = 1 ∧ pden b n = 1 := by subst hb; exact ⟨rfl, pnum_one n⟩
theorem pp7 {b n : Int} (hb : n = 0) : 71 = 71 ∧ pnum b n = 1 ∧ pden b n = 1 := by subst hb; exact ⟨rfl, pnum_zero b⟩
theorem power_spec {w : World} {dp u : Nat} {env : Env} {outer : List Env} {gs : Option (List Code)} {E : Value → Shared → Prop} {s : Shared} {h₀ : Heap} {L : Addr} {m : Str → Option Value} {news : List (Addr × Obj)}
    (C : Cx 420 w env outer dp u s.heap h₀ L m news) {x y : Nat} {b n : Int} {t1 t2 t3 t4 : Tok} {Q : Value → Shared → Prop} (hx : (x, tupO #[.int b t1, .int 1 t2]) ∈ news) (hy : (y, tupO #[.int n t3, .int 1 t4]) ∈ news)
    (hb : -4 ≤ b) (hb' : b ≤ 9) (hb0 : b ≠ 0) (hn : n.natAbs ≤ 100)
    (post : ∀ {h' : Heap} {tk' : Nat} {r t : Nat} {vs : Array Value}, Fr h₀ L h' m → News h₀ L h' ((t, tupO vs) :: news) → TupAt [(t, tupO vs)] r (pnum b n) (pden b n) → (t = x ∨ AllLt t news) → Q (.ref r) { s with heap := h', toks := tk' }) :
    wpAny (MD w) (AR dp u env outer gs) (call (.ref 183) [.ref x, .ref y]) Q E s := by
  obtain ⟨⟨A₀, base, mean, mg, mb, B, T⟩, F, X, N, hf, hke, hdp, hu⟩ := C
  walk_at "mine start"
  k_steps
  all_goals first
    | exact post (by assumption) (by assumption) (by assumption) (by assumption)
    | exact post (by assumption) (News.dup (by assumption) hx) (.inr (pp6 (by omega))) (.inl rfl)
    | exact post (by assumption) (News.dup (by assumption) hx) (.inr (pp7 (by omega))) (.inl rfl)
    | w_report
theorem reg23 : True := by
  k_with "call ref" => (k_here; (with_reducible show wpAny _ _ (call (Value.ref 183) _ _) _ _ _); k_dflt (refine' power_spec ?zqC ?zqhx ?zqhy ?zqa ?zqb ?zqc ?zqd ?_; (case zqC => walk_at "mine cx"); (case zqhx => k_mem); (case zqhy => k_mem); (case zqa => omega); (case zqb => omega); (case zqc => omega); (case zqd => omega); k_whole; intro h' tk' r t vs F' N' hT hor; (try k_sweep)))
  trivial
theorem pden_pos {b n : Int} (hb0 : b ≠ 0) : 0 < pden b n := by
  unfold pden
  have hz : b ^ (-n).toNat ≠ 0 := by
    exact Int.pow_ne_zero hb0
  split
  · decide
  · split <;> omega
theorem pnum_bnd {b n : Int} (hb : -4 ≤ b) (hb' : b ≤ 9) (hn : n.natAbs ≤ 100) : (pnum b n).natAbs ≤ 1000000000000000000000000000000000000000000000000000000000000000000000000000000000000000000000000 ∧ (pden b n).natAbs ≤ 1000000000000000000000000000000000000000000000000000000000000000000000000000000000000000000000000 := by
  have h1 := Nat.le_trans (pow_bnd (a := b) (k := n.toNat) (by omega) (by omega)) pow_lim
  have h2 := Nat.le_trans (pow_bnd (a := b) (k := (-n).toNat) (by omega) (by omega)) pow_lim
  unfold pnum pden
  constructor <;> (repeat' split) <;> omega
theorem double_op_pow {w : World} {dp u : Nat} {env : Env} {outer : List Env} {gs : Option (List Code)} {E : Value → Shared → Prop} {s : Shared} {h₀ : Heap} {L : Addr} {m : Str → Option Value} {news : List (Addr × Obj)}
    (C : Cx 410 w env outer dp u s.heap h₀ L m news) {x y : Nat} {b n : Int} {k t1 t2 t3 t4 : Tok} {Q : Value → Shared → Prop} (hx : (x, tupO #[.int b t1, .int 1 t2]) ∈ news) (hy : (y, tupO #[.int n t3, .int 1 t4]) ∈ news)
    (hb : -4 ≤ b) (hb' : b ≤ 9) (hb0 : b ≠ 0) (hn : n.natAbs ≤ 100)
    (post : ∀ {h' : Heap} {tk' : Nat} {r t : Nat} {vs : Array Value}, Fr h₀ L h' m → News h₀ L h' ((t, tupO vs) :: news) → TupAt [(t, tupO vs)] r (pnum b n) (pden b n) → (t = x ∨ AllLt t news) → Q (.ref r) { s with heap := h', toks := tk' }) :
    wpAny (MD w) (AR dp u env outer gs) (call (.ref 452) [.str (Str.ofString "^") k, .ref x, .ref y]) Q E s := by
  obtain ⟨⟨A₀, base, mean, mg, mb, B, T⟩, F, X, N, hf, hke, hdp, hu⟩ := C
  have hp1 := pden_pos (n := n) hb0
  have hp2 := pnum_bnd hb hb' hn
  walk_at "mine start"
  k_steps
  all_goals first
    | exact post (by assumption) (by assumption) (by assumption) (by assumption)
    | (trace_state; w_report)
theorem double_op_add {w : World} {dp u : Nat} {env : Env} {outer : List Env} {gs : Option (List Code)} {E : Value → Shared → Prop} {s : Shared} {h₀ : Heap} {L : Addr} {m : Str → Option Value} {news : List (Addr × Obj)}
    (C : Cx 410 w env outer dp u s.heap h₀ L m news) {r y : Nat} {P D : Int} {k t1 t2 : Tok} {Q : Value → Shared → Prop} (hr : TupAt news r P D) (hy : (y, tupO #[.int 1 t1, .int 1 t2]) ∈ news) (hd : 0 < D) (h1 : P ≤ 1000000000000000000000000000000000000000000000000000000000000000000000000000000000000000000000000000) (h2 : -1000000000000000000000000000000000000000000000000000000000000000000000000000000000000000000000000000 ≤ P) (h3 : D ≤ 1000000000000000000000000000000000000000000000000000000000000000000000000000000000000000000000000000) (hg : Int.gcd (if P + D < 0 then -(P + D) else P + D) D = 1)
    (post : ∀ {h' : Heap} {tk' : Nat} {t : Nat} {j1 j2 : Tok}, Fr h₀ L h' m → News h₀ L h' ((t, tupO #[.int (P + D) j1, .int D j2]) :: news) → AllLt t news → Q (.ref t) { s with heap := h', toks := tk' }) :
    wpAny (MD w) (AR dp u env outer gs) (call (.ref 452) [.str (Str.ofString "+") k, .ref r, .ref y]) Q E s := by
  obtain ⟨⟨A₀, base, mean, mg, mb, B, T⟩, F, X, N, hf, hke, hdp, hu⟩ := C
  walk_at "mine start"
  k_steps
  all_goals first
    | exact post (by assumption) (by assumption) (by walk_at "mine lt")
    | (trace_state; w_report)
theorem reg24 : True := by
  k_with "call ref" => (k_here; (with_reducible show wpAny _ _ (call (Value.ref 452) _ _) _ _ _); k_dflt (first   | (refine' double_op_pow ?zqC ?zqhx ?zqhy ?zqa ?zqb ?zqc ?zqd ?_; (case zqC => walk_at "mine cx"); (case zqhx => k_mem); (case zqhy => k_mem); (case zqa => omega); (case zqb => omega); (case zqc => omega); (case zqd => omega); k_whole; intro h' tk' r t vs F' N' hT hor; (try k_sweep))   | (refine' double_op_add ?zqC ?zqhr ?zqhy ?zqhd ?zqh1 ?zqh2 ?zqh3 ?zqhg ?_; (case zqC => walk_at "mine cx"); (case zqhr => walk_at "mine tupat"); (case zqhy => k_mem); (case zqhd => omega); (case zqh1 => omega); (case zqh2 => omega); (case zqh3 => omega); (case zqhg => assumption); k_whole; intro h' tk' t j1 j2 F' N' l1; (try simp only [AllLt, and_true] at l1); (try k_sweep))))
  k_with "mine startC" => (w_on; w_top off; (have hK : K = K ∧ PySem.Challenge.rw_qd0177_01 = PySem.Challenge.rw_qd0177_01 := by (k_fill; exact ⟨rfl, rfl⟩)); clear hK; refine wpAny_call ?_; (refine' code_defC ?zqk1 ?zqk2 ?zqk3 ?zqk4 ?zqk5 ?zqkA ?zqkF ?zqkK ?zqk6 ?zqk7 ?zqk8 ?zqk9 ?zqkB ?zqkD ?_ ?zqc2 ?zqc3 ?zqc4; (case zqkA => exact rfl); (case zqkF => first | assumption | exact rfl); (case zqkK => first | assumption | exact rfl); (case zqk1 => k_asm); (case zqk2 => k_asm); (case zqk3 => k_asm); (case zqk4 => k_asm); (case zqk5 => k_asm); (case zqk6 => k_is); (case zqk7 => k_is); (case zqk8 => k_room); (case zqk9 => ((with_reducible refine' bindsP4 ?zqz0 ?zqz1 ?zqz2 ?zqz3 ?zqz4 ?zqz5); (case zqz0 => decide); (case zqz1 => decide); (case zqz2 => decide); (case zqz3 => decide); (case zqz4 => decide); (case zqz5 => decide))); (case zqkB => exact rfl); (case zqkD => decide +kernel); (case zqc2 => exact rfl); (case zqc3 => exact rfl); (case zqc4 => exact rfl); k_whole; intro g' L' h' tk' cells' FG' F' N' Y' B' X' T' l1; k_cells Y'; (try simp only [List.cons_append, List.nil_append] at N'); (try dsimp only); (try k_lift B'); (try k_fold)))
  trivial
theorem allLt_mem {d : Addr} : ∀ {l : List (Addr × Obj)}, AllLt d l → ∀ p ∈ l, p.1 < d
  | [], _, _, h => nomatch h
  | q :: r, h, p, hp => by
    rcases List.mem_cons.mp hp with rfl | hp
    · exact h.1
    · exact allLt_mem h.2 p hp
theorem AllLt.sub {d : Addr} {l l' : List (Addr × Obj)} (h : AllLt d l) (s : l'.Sublist l) : AllLt d l' := allLt_of fun p hp => allLt_mem h p (s.subset hp)
theorem ne3_of {t x I C D : Nat} {oI oC oD ox : Obj} {tl : List (Addr × Obj)} (h : t = x ∨ AllLt t ((I, oI) :: (C, oC) :: (D, oD) :: tl)) (off : LCg.Off3 I C D tl) (hx : (x, ox) ∈ tl) : (@Ne Nat t I) ∧ (@Ne Nat t C) ∧ (@Ne Nat t D) := by
  rcases h with rfl | h
  · exact off.mem _ hx
  · exact ⟨Nat.ne_of_gt h.1, Nat.ne_of_gt h.2.1, Nat.ne_of_gt h.2.2.1⟩
theorem reg25 : True := by
  k_with "CompEnd" => (k_dflt (refine' compEnd1 ?zqF ?zqN ?zqn1 ?zqoff ?zqhS ?_; (case zqF => k_asm); (case zqN => k_asm); (case zqoff => assumption); (case zqn1 => exact ne3_of (by assumption) (by assumption) (by k_mem)); (case zqhS => lcg_src); k_whole))
  k_with "CompSrc" => (k_here; k_dflt (refine LCg.CompSrc.range (by rfl) (by k_asm) (by k_asm) (by assumption) (by first | decide | rfl) (by first | rfl | decide) (by first | size_fits | exact Nat.le_of_ble_eq_true rfl) ?_; intro g'; lcg_lit; (try dsimp only)))
  trivial
theorem double_result_pow {w : World} {dp u : Nat} {env : Env} {outer : List Env} {gs : Option (List Code)} {E : Value → Shared → Prop} {s : Shared} {h₀ : Heap} {L : Addr} {m : Str → Option Value} {news : List (Addr × Obj)}
    (C : Cx 400 w env outer dp u s.heap h₀ L m news) {ll lr x y nx ny : Nat} {b n : Int} {k k1 t1 t2 t3 t4 : Tok} {Q : Value → Shared → Prop} (hl : (ll, W.listOf #[.ref x] nx) ∈ news) (hr : (lr, W.listOf #[.ref y] ny) ∈ news) (hx : (x, tupO #[.int b t1, .int 1 t2]) ∈ news) (hy : (y, tupO #[.int n t3, .int 1 t4]) ∈ news)
    (hb : -4 ≤ b) (hb' : b ≤ 9) (hb0 : b ≠ 0) (hn : n.natAbs ≤ 100)
    (post : ∀ {h' : Heap} {tk' : Nat} {r t l n' : Nat} {vs : Array Value}, Fr h₀ L h' m → News h₀ L h' ((l, W.listOf #[.ref r] n') :: (t, tupO vs) :: news) → TupAt [(t, tupO vs)] r (pnum b n) (pden b n) → (t = x ∨ AllLt t news) → Q (.ref l) { s with heap := h', toks := tk' }) :
    wpAny (MD w) (AR dp u env outer gs) (call (.ref 476) [.str (Str.ofString "^") k, .ref ll, .ref lr, .int 1 k1]) Q E s := by
  obtain ⟨⟨A₀, base, mean, mg, mb, B, T⟩, F, X, N, hf, hke, hdp, hu⟩ := C
  walk_at "mine startC"
  k_steps
  exact post (by assumption) (News.sub (by assumption) (by walk_at "mine sub")) (by assumption) (by rename _ = x ∨ AllLt _ (_ :: _) => ho; exact ho.imp_right fun h => AllLt.sub h (by walk_at "mine sub"))
theorem reg26 : True := by
  k_with "CompEnd" => (k_dflt (refine' compEnd1 ?zqF ?zqN ?zqn1 ?zqoff ?zqhS ?_; (case zqF => k_asm); (case zqN => k_asm); (case zqoff => assumption); (case zqn1 => first | exact ne3_of (by assumption) (by assumption) (by k_mem) | (refine And.intro ?_ (And.intro ?_ ?_) <;> k_ne)); (case zqhS => lcg_src); k_whole))
  k_with "call ref" => (k_here; (with_reducible show wpAny _ _ (call (Value.ref 476) _ _) _ _ _); k_dflt (refine' double_result_pow ?zqC ?zqhl ?zqhr ?zqhx ?zqhy ?zqa ?zqb ?zqc ?zqd ?_; (case zqC => walk_at "mine cx"); (case zqhl => k_mem); (case zqhr => k_mem); (case zqhx => k_mem); (case zqhy => k_mem); (case zqa => omega); (case zqb => omega); (case zqc => omega); (case zqd => omega); k_whole; intro h' tk' r t l n' vs F' N' hT hor; (try k_sweep)))
  trivial
theorem double_result_add {w : World} {dp u : Nat} {env : Env} {outer : List Env} {gs : Option (List Code)} {E : Value → Shared → Prop} {s : Shared} {h₀ : Heap} {L : Addr} {m : Str → Option Value} {news : List (Addr × Obj)}
    (C : Cx 400 w env outer dp u s.heap h₀ L m news) {ll lr r y nx ny : Nat} {P D : Int} {k k1 t1 t2 : Tok} {Q : Value → Shared → Prop} (hl : (ll, W.listOf #[.ref r] nx) ∈ news) (hr' : (lr, W.listOf #[.ref y] ny) ∈ news) (hr : TupAt news r P D) (hy : (y, tupO #[.int 1 t1, .int 1 t2]) ∈ news) (hd : 0 < D) (h1 : P ≤ 1000000000000000000000000000000000000000000000000000000000000000000000000000000000000000000000000000) (h2 : -1000000000000000000000000000000000000000000000000000000000000000000000000000000000000000000000000000 ≤ P) (h3 : D ≤ 1000000000000000000000000000000000000000000000000000000000000000000000000000000000000000000000000000) (hg : Int.gcd (if P + D < 0 then -(P + D) else P + D) D = 1)
    (post : ∀ {h' : Heap} {tk' : Nat} {t l n' : Nat} {j1 j2 : Tok}, Fr h₀ L h' m → News h₀ L h' ((l, W.listOf #[.ref t] n') :: (t, tupO #[.int (P + D) j1, .int D j2]) :: news) → Q (.ref l) { s with heap := h', toks := tk' }) :
    wpAny (MD w) (AR dp u env outer gs) (call (.ref 476) [.str (Str.ofString "+") k, .ref ll, .ref lr, .int 1 k1]) Q E s := by
  obtain ⟨⟨A₀, base, mean, mg, mb, B, T⟩, F, X, N, hf, hke, hdp, hu⟩ := C
  walk_at "mine startC"
  k_steps
  exact post (by assumption) (News.sub (by assumption) (by walk_at "mine sub"))
theorem reg27 : True := by
  k_with "call ref" => (k_here; (with_reducible show wpAny _ _ (call (Value.ref 476) (Value.str (Str.ofString "+") _ :: _) _) _ _ _); k_dflt (refine' double_result_add ?zqC ?zqhl ?zqhrr ?zqhr ?zqhy ?zqhd ?zqh1 ?zqh2 ?zqh3 ?zqhg ?_; (case zqC => walk_at "mine cx"); (case zqhl => k_mem); (case zqhrr => k_mem); (case zqhr => walk_at "mine tupat"); (case zqhy => k_mem); (case zqhd => omega); (case zqh1 => omega); (case zqh2 => omega); (case zqh3 => omega); (case zqhg => assumption); k_whole; intro h' tk' t l n' j1 j2 F' N'; (try k_sweep)))
  trivial
theorem unrEndW_lt {h₀ : Heap} {L I : Addr} {it : Obj} {keep : List (Addr × Obj)} {rest : (Str → Option Value) → List (Addr × Obj) → Prop} {s₁ : Shared} {h' : Heap} {tk : Nat} {m' : Str → Option Value} {all news' : List (Addr × Obj)} (F : Fr h₀ L h' m') (N : News h₀ L h' all)
    (l1 : ∀ p ∈ news', p.1 < I) (sub : ((I, it) :: news').Sublist all) (hk : SubL keep news') (r : rest m' news') : UnrEndW h₀ L s₁ [(I, it)] (fun m n => SubL keep n ∧ rest m n) { s₁ with heap := h', toks := tk } :=
  ⟨h', tk, m', news', rfl, F, fun p hp => N p (sub.subset (by simpa using hp)), fun p hp q hq e => by
    obtain rfl := List.mem_singleton.mp hq
    exact Nat.ne_of_lt (l1 p hp) e, hk, r⟩
theorem reg28 : True := by
  k_with "pyIter ref" => (k_here; (with_reducible show wpAny _ _ (pyIter (Value.ref _)) (fun it s₂ => TurnsAt _ _ _ _ _ _ _ _ _ it s₂) _ _); (rename Fr _ _ _ _ => lF'); (with_unfolding_all refine' iter_tupTurns ?zqhh lF' ?zqN ?zqhm ?zqhc ?zqhd ?_; (case zqhh => exact rfl); (case zqN => k_asm); (case zqhm => k_mem); (case zqhc => exact rfl); (case zqhd => exact rfl)); clear lF'; intro i' l1)
  k_with "UnrEndW" => (k_here; (refine' unrEndW_lt ?zqF ?zqN ?zql1 ?zqsub ?zqhk ?_); (case zql1 => assumption); (case zqF => k_asm); (case zqN => k_asm); (case zqsub => walk_at "mine sub"); (case zqhk => k_subL))
  trivial
theorem shape_attrs_spec {w : World} {dp u : Nat} {env : Env} {outer : List Env} {gs : Option (List Code)} {E : Value → Shared → Prop} {s : Shared} {h₀ : Heap} {L : Addr} {m : Str → Option Value} {news : List (Addr × Obj)}
    (C : Cx 470 w env outer dp u s.heap h₀ L m news) {nx ny nz x dx lx y dy ly z dz lz : Nat} {kdx kdy kdz : Str} {itx ity itz shx lox shy loy shz loz : Value} {kx kx1 kx2 kx3 kx4 kx5 ky ky1 ky2 ky3 ky4 ky5 kz kz1 kz2 kz3 kz4 kz5 : Tok} {Q : Value → Shared → Prop}
    (m1 : (x, instObj 271 dx) ∈ news) (m2 : (dx, vecD w (.str kdx kx) (.ref lx) .none shx lox kx1 kx2 kx3 kx4 kx5) ∈ news) (m3 : (lx, W.listOf #[itx] nx) ∈ news)
    (m4 : (y, instObj 271 dy) ∈ news) (m5 : (dy, vecD w (.str kdy ky) (.ref ly) .none shy loy ky1 ky2 ky3 ky4 ky5) ∈ news) (m6 : (ly, W.listOf #[ity] ny) ∈ news)
    (m7 : (z, instObj 271 dz) ∈ news) (m8 : (dz, vecD w (.str kdz kz) (.ref lz) .none shz loz kz1 kz2 kz3 kz4 kz5) ∈ news) (m9 : (lz, W.listOf #[itz] nz) ∈ news)
    (hx : (kdx == Str.ofString "NULL") = false) (hy : (kdy == Str.ofString "NULL") = false) (hz : (kdz == Str.ofString "NULL") = false)
    (post : ∀ {h' : Heap} {tk' : Nat}, Fr h₀ L h' m → News h₀ L h' news → Q .none { s with heap := h', toks := tk' }) :
    wpAny (MD w) (AR dp u env outer gs) (call (.ref 424) [.ref x, .ref y, .ref z]) Q E s := by
  obtain ⟨⟨A₀, base, mean, mg, mb, B, T⟩, F, X, N, hf, hke, hdp, hu⟩ := C
  walk_at "mine start"
  k_steps
  all_goals first
    | exact post (by assumption) (News.sub (by assumption) (by walk_at "mine sub"))
    | (trace_state; w_report)
theorem reg29 : True := by
  k_with "call ref" => (k_here; (with_reducible show wpAny _ _ (call (Value.ref 424) _ _) _ _ _); k_dflt (refine' shape_attrs_spec ?zqC ?zqm1 ?zqm2 ?zqm3 ?zqm4 ?zqm5 ?zqm6 ?zqm7 ?zqm8 ?zqm9 ?zqhx ?zqhy ?zqhz ?_; (case zqC => walk_at "mine cx"); (case zqm1 => k_mem); (case zqm2 => k_mem); (case zqm3 => k_mem); (case zqm4 => k_mem); (case zqm5 => k_mem); (case zqm6 => k_mem); (case zqm7 => k_mem); (case zqm8 => k_mem); (case zqm9 => k_mem); (case zqhx => first | assumption | decide); (case zqhy => first | assumption | decide); (case zqhz => first | assumption | decide); k_whole; intro h' tk' F' N'; (try k_sweep)))
  trivial
theorem result_attrs_spec {w : World} {dp u : Nat} {env : Env} {outer : List Env} {gs : Option (List Code)} {E : Value → Shared → Prop} {s : Shared} {h₀ : Heap} {L : Addr} {m : Str → Option Value} {news : List (Addr × Obj)}
    (C : Cx 460 w env outer dp u s.heap h₀ L m news) {nx ny nz x dx lx y dy ly z dz lz : Nat} {kdx kdy kdz : Str} {itx ity itz shx lox shy loy shz loz : Value} {kx kx1 kx2 kx3 kx4 kx5 ky ky1 ky2 ky3 ky4 ky5 kz kz1 kz2 kz3 kz4 kz5 : Tok} {Q : Value → Shared → Prop}
    (m1 : (x, instObj 271 dx) ∈ news) (m2 : (dx, vecD w (.str kdx kx) (.ref lx) .none shx lox kx1 kx2 kx3 kx4 kx5) ∈ news) (m3 : (lx, W.listOf #[itx] nx) ∈ news)
    (m4 : (y, instObj 271 dy) ∈ news) (m5 : (dy, vecD w (.str kdy ky) (.ref ly) .none shy loy ky1 ky2 ky3 ky4 ky5) ∈ news) (m6 : (ly, W.listOf #[ity] ny) ∈ news)
    (m7 : (z, instObj 271 dz) ∈ news) (m8 : (dz, vecD w (.str kdz kz) (.ref lz) .none shz loz kz1 kz2 kz3 kz4 kz5) ∈ news) (m9 : (lz, W.listOf #[itz] nz) ∈ news)
    (hx : (kdx == Str.ofString "NULL") = false) (hy : (kdy == Str.ofString "NULL") = false) (hz : (kdz == Str.ofString "NULL") = false)
    (post : ∀ {h' : Heap} {tk' : Nat}, Fr h₀ L h' m → News h₀ L h' news → Q .none { s with heap := h', toks := tk' }) :
    wpAny (MD w) (AR dp u env outer gs) (call (.ref 431) [.ref x, .ref y, .ref z]) Q E s := by
  obtain ⟨⟨A₀, base, mean, mg, mb, B, T⟩, F, X, N, hf, hke, hdp, hu⟩ := C
  walk_at "mine start"
  k_steps
  all_goals first
    | exact post (by assumption) (News.sub (by assumption) (by walk_at "mine sub"))
    | (trace_state; w_report)
theorem double_items_dbl {w : World} {dp u : Nat} {env : Env} {outer : List Env} {gs : Option (List Code)} {E : Value → Shared → Prop} {s : Shared} {h₀ : Heap} {L : Addr} {m : Str → Option Value} {news : List (Addr × Obj)}
    (C : Cx 470 w env outer dp u s.heap h₀ L m news) {x d l : Nat} {at_ sh lo : Value} {k k1 k2 k3 k4 k5 : Tok} {Q : Value → Shared → Prop}
    (m1 : (x, instObj 271 d) ∈ news) (m2 : (d, vecD w (.str (Str.ofString "double") k) (.ref l) at_ sh lo k1 k2 k3 k4 k5) ∈ news)
    (post : ∀ {h' : Heap} {tk' : Nat}, Fr h₀ L h' m → News h₀ L h' news → Q (.ref l) { s with heap := h', toks := tk' }) :
    wpAny (MD w) (AR dp u env outer gs) (call (.ref 464) [.ref x]) Q E s := by
  obtain ⟨⟨A₀, base, mean, mg, mb, B, T⟩, F, X, N, hf, hke, hdp, hu⟩ := C
  walk_at "mine start"
  k_steps
  exact post (by assumption) (News.sub (by assumption) (by walk_at "mine sub"))
theorem reg30 : True := by
  k_with "call ref" => (k_here; (with_reducible show wpAny _ _ (call (Value.ref 431) _ _) _ _ _); k_dflt (refine' result_attrs_spec ?zqC ?zqm1 ?zqm2 ?zqm3 ?zqm4 ?zqm5 ?zqm6 ?zqm7 ?zqm8 ?zqm9 ?zqhx ?zqhy ?zqhz ?_; (case zqC => walk_at "mine cx"); (case zqm1 => k_mem); (case zqm2 => k_mem); (case zqm3 => k_mem); (case zqm4 => k_mem); (case zqm5 => k_mem); (case zqm6 => k_mem); (case zqm7 => k_mem); (case zqm8 => k_mem); (case zqm9 => k_mem); (case zqhx => first | assumption | decide); (case zqhy => first | assumption | decide); (case zqhz => first | assumption | decide); k_whole; intro h' tk' F' N'; (try k_sweep)))
  k_with "call ref" => (k_here; (with_reducible show wpAny _ _ (call (Value.ref 464) _ _) _ _ _); k_dflt (refine' double_items_dbl ?zqC ?zqm1 ?zqm2 ?_; (case zqC => walk_at "mine cx"); (case zqm1 => k_mem); (case zqm2 => k_mem); k_whole; intro h' tk' F' N'; (try k_sweep)))
  trivial
theorem allLt2 {d a b : Nat} {o1 o2 : Obj} {l : List (Addr × Obj)} (h1 : a < d) (h2 : b < d) (h : AllLt d l) : AllLt d ((a, o1) :: (b, o2) :: l) := ⟨h1, h2, h⟩
theorem ItemAt.notNull {news : List (Addr × Obj)} {kd : Str} {it : Value} {n : Int} (h : ItemAt news kd it n) : (kd == Str.ofString "NULL") = false := by
  rcases h.kd with rfl | rfl <;> decide
theorem arith_pow {w : World} {dp u : Nat} {env : Env} {outer : List Env} {gs : Option (List Code)} {E : Value → Shared → Prop} {s : Shared} {h₀ : Heap} {L : Addr} {m : Str → Option Value} {news : List (Addr × Obj)}
    (C : Cx 390 w env outer dp u s.heap h₀ L m news) {x dx lx tx y dy ly nx ny : Nat} {kdy : Str} {ity shx lox shy loy nt : Value} {b n : Int} {k kx kx1 kx2 kx3 kx4 kx5 ky ky1 ky2 ky3 ky4 ky5 t1 t2 : Tok} {Q : Value → Shared → Prop}
    (m1 : (x, instObj 271 dx) ∈ news) (m2 : (dx, vecD w (.str (Str.ofString "double") kx) (.ref lx) .none shx lox kx1 kx2 kx3 kx4 kx5) ∈ news) (m3 : (lx, W.listOf #[.ref tx] nx) ∈ news) (m0 : (tx, tupO #[.int b t1, .int 1 t2]) ∈ news)
    (m4 : (y, instObj 271 dy) ∈ news) (m5 : (dy, vecD w (.str kdy ky) (.ref ly) .none shy loy ky1 ky2 ky3 ky4 ky5) ∈ news) (m6 : (ly, W.listOf #[ity] ny) ∈ news) (hi : ItemAt news kdy ity n)
    (hb : -4 ≤ b) (hb' : b ≤ 9) (hb0 : b ≠ 0) (hn : n.natAbs ≤ 100)
    (post : ∀ {h' : Heap} {tk' : Nat} {z d l n' r t : Nat} {vs : Array Value} {j1 j2 j3 j4 j5 j6 : Tok}, Fr h₀ L h' m → News h₀ L h' ((z, instObj 271 d) :: (d, vecD w (.str (Str.ofString "double") j6) (.ref l) .none (.bool false) (.bool false) j1 j2 j3 j4 j5) :: (l, W.listOf #[.ref r] n') :: (t, tupO vs) :: news) →
      TupAt [(t, tupO vs)] r (pnum b n) (pden b n) → (t = tx ∨ AllLt t news) → AllLt d ((l, W.listOf #[.ref r] n') :: (t, tupO vs) :: news) → d < z → Q (.ref z) { s with heap := h', toks := tk' }) :
    wpAny (MD w) (AR dp u env outer gs) (call (.ref 483) [.str (Str.ofString "^") k, .ref x, .ref y, nt]) Q E s := by
  obtain ⟨⟨A₀, base, mean, mg, mb, B, T⟩, F, X, N, hf, hke, hdp, hu⟩ := C
  have hkd := hi.kd
  have hnn := hi.notNull
  walk_at "mine start"
  k_steps
  exact post (by assumption) (News.sub (by assumption) (by walk_at "mine sub")) (by assumption) (by rename _ = tx ∨ AllLt _ (_ :: _) => ho; exact ho.imp_right fun h => AllLt.sub h (by walk_at "mine sub")) (allLt2 (by omega) (by omega) (by walk_at "mine lt")) (by omega)
theorem reg31 : True := by
  k_with "call ref" => (k_here; (with_reducible show wpAny _ _ (call (Value.ref 483) (Value.str (Str.ofString "^") _ :: _) _) _ _ _); k_dflt (refine' arith_pow ?zqC ?zqm1 ?zqm2 ?zqm3 ?zqm0 ?zqm4 ?zqm5 ?zqm6 ?zqhi ?zqa ?zqb ?zqc ?zqd ?_; (case zqC => walk_at "mine cx"); (case zqm1 => k_mem); (case zqm2 => k_mem); (case zqm3 => k_mem); (case zqm0 => k_mem); (case zqm4 => k_mem); (case zqm5 => k_mem); (case zqm6 => k_mem); (case zqhi => walk_at "mine item"); (case zqa => omega); (case zqb => omega); (case zqc => omega); (case zqd => omega); k_whole; intro h' tk' z d l n' r t vs j1 j2 j3 j4 j5 j6 F' N' hT hor l1 l2; (try k_sweep)))
  trivial
theorem arith_add {w : World} {dp u : Nat} {env : Env} {outer : List Env} {gs : Option (List Code)} {E : Value → Shared → Prop} {s : Shared} {h₀ : Heap} {L : Addr} {m : Str → Option Value} {news : List (Addr × Obj)}
    (C : Cx 390 w env outer dp u s.heap h₀ L m news) {x dx lx rx y dy ly ty nx ny : Nat} {shx lox shy loy nt : Value} {P D : Int} {k kx kx1 kx2 kx3 kx4 kx5 ky ky1 ky2 ky3 ky4 ky5 t1 t2 : Tok} {Q : Value → Shared → Prop}
    (m1 : (x, instObj 271 dx) ∈ news) (m2 : (dx, vecD w (.str (Str.ofString "double") kx) (.ref lx) .none shx lox kx1 kx2 kx3 kx4 kx5) ∈ news) (m3 : (lx, W.listOf #[.ref rx] nx) ∈ news) (hr : TupAt news rx P D)
    (m4 : (y, instObj 271 dy) ∈ news) (m5 : (dy, vecD w (.str (Str.ofString "double") ky) (.ref ly) .none shy loy ky1 ky2 ky3 ky4 ky5) ∈ news) (m6 : (ly, W.listOf #[.ref ty] ny) ∈ news) (m7 : (ty, tupO #[.int 1 t1, .int 1 t2]) ∈ news)
    (hd : 0 < D) (h1 : P ≤ 1000000000000000000000000000000000000000000000000000000000000000000000000000000000000000000000000000) (h2 : -1000000000000000000000000000000000000000000000000000000000000000000000000000000000000000000000000000 ≤ P) (h3 : D ≤ 1000000000000000000000000000000000000000000000000000000000000000000000000000000000000000000000000000) (hg : Int.gcd (if P + D < 0 then -(P + D) else P + D) D = 1)
    (post : ∀ {h' : Heap} {tk' : Nat} {z d l n' t : Nat} {j1 j2 j3 j4 j5 j6 i1 i2 : Tok}, Fr h₀ L h' m → News h₀ L h' ((z, instObj 271 d) :: (d, vecD w (.str (Str.ofString "double") j6) (.ref l) .none (.bool false) (.bool false) j1 j2 j3 j4 j5) :: (l, W.listOf #[.ref t] n') :: (t, tupO #[.int (P + D) i1, .int D i2]) :: news) →
      AllLt d ((l, W.listOf #[.ref t] n') :: (t, tupO #[.int (P + D) i1, .int D i2]) :: news) → d < z → Q (.ref z) { s with heap := h', toks := tk' }) :
    wpAny (MD w) (AR dp u env outer gs) (call (.ref 483) [.str (Str.ofString "+") k, .ref x, .ref y, nt]) Q E s := by
  obtain ⟨⟨A₀, base, mean, mg, mb, B, T⟩, F, X, N, hf, hke, hdp, hu⟩ := C
  walk_at "mine start"
  k_steps
  exact post (by assumption) (News.sub (by assumption) (by walk_at "mine sub")) (allLt2 (by omega) (by omega) (by walk_at "mine lt")) (by omega)
theorem reg32 : True := by
  k_with "call ref" => (k_here; (with_reducible show wpAny _ _ (call (Value.ref 483) (Value.str (Str.ofString "+") _ :: _) _) _ _ _); k_dflt (refine' arith_add ?zqC ?zqm1 ?zqm2 ?zqm3 ?zqhr ?zqm4 ?zqm5 ?zqm6 ?zqm7 ?zqhd ?zqh1 ?zqh2 ?zqh3 ?zqhg ?_; (case zqC => walk_at "mine cx"); (case zqm1 => k_mem); (case zqm2 => k_mem); (case zqm3 => k_mem); (case zqhr => walk_at "mine tupat"); (case zqm4 => k_mem); (case zqm5 => k_mem); (case zqm6 => k_mem); (case zqm7 => k_mem); (case zqhd => omega); (case zqh1 => omega); (case zqh2 => omega); (case zqh3 => omega); (case zqhg => assumption); k_whole; intro h' tk' z d l n' t j1 j2 j3 j4 j5 j6 i1 i2 F' N' l1 l2; (try k_sweep)))
  trivial
theorem binary_value_pow {w : World} {dp u : Nat} {env : Env} {outer : List Env} {gs : Option (List Code)} {E : Value → Shared → Prop} {s : Shared} {h₀ : Heap} {L : Addr} {m : Str → Option Value} {news : List (Addr × Obj)}
    (C : Cx 380 w env outer dp u s.heap h₀ L m news) {x dx lx tx y dy ly nx ny : Nat} {kdy : Str} {ity shx lox shy loy nt : Value} {b n : Int} {k kx kx1 kx2 kx3 kx4 kx5 ky ky1 ky2 ky3 ky4 ky5 t1 t2 : Tok} {Q : Value → Shared → Prop}
    (m1 : (x, instObj 271 dx) ∈ news) (m2 : (dx, vecD w (.str (Str.ofString "double") kx) (.ref lx) .none shx lox kx1 kx2 kx3 kx4 kx5) ∈ news) (m3 : (lx, W.listOf #[.ref tx] nx) ∈ news) (m0 : (tx, tupO #[.int b t1, .int 1 t2]) ∈ news)
    (m4 : (y, instObj 271 dy) ∈ news) (m5 : (dy, vecD w (.str kdy ky) (.ref ly) .none shy loy ky1 ky2 ky3 ky4 ky5) ∈ news) (m6 : (ly, W.listOf #[ity] ny) ∈ news) (hi : ItemAt news kdy ity n)
    (hb : -4 ≤ b) (hb' : b ≤ 9) (hb0 : b ≠ 0)
    (big : 100 < n.natAbs → ∀ {h' : Heap} {tk' : Nat}, Fr h₀ L h' m → News h₀ L h' news → Q .none { s with heap := h', toks := tk' })
    (post : n.natAbs ≤ 100 → ∀ {h' : Heap} {tk' : Nat} {z d l n' r t : Nat} {vs : Array Value} {j1 j2 j3 j4 j5 j6 : Tok}, Fr h₀ L h' m → News h₀ L h' ((z, instObj 271 d) :: (d, vecD w (.str (Str.ofString "double") j6) (.ref l) .none (.bool false) (.bool false) j1 j2 j3 j4 j5) :: (l, W.listOf #[.ref r] n') :: (t, tupO vs) :: news) →
      TupAt [(t, tupO vs)] r (pnum b n) (pden b n) → (t = tx ∨ AllLt t news) → AllLt d ((l, W.listOf #[.ref r] n') :: (t, tupO vs) :: news) → d < z → Q (.ref z) { s with heap := h', toks := tk' }) :
    wpAny (MD w) (AR dp u env outer gs) (call (.ref 749) [.str (Str.ofString "^") k, .ref x, .ref y, nt]) Q E s := by
  obtain ⟨⟨A₀, base, mean, mg, mb, B, T⟩, F, X, N, hf, hke, hdp, hu⟩ := C
  have hkd := hi.kd
  walk_at "mine start"
  k_steps
  all_goals first
    | exact big (by assumption) (by assumption) (News.sub (by assumption) (by walk_at "mine sub"))
    | exact post (by assumption) (by assumption) (News.sub (by assumption) (by walk_at "mine sub")) (by assumption) (by rename _ = tx ∨ AllLt _ (_ :: _) => ho; exact ho.imp_right fun h => AllLt.sub h (by walk_at "mine sub")) (by rename AllLt _ (_ :: _ :: _ :: _) => h1; exact AllLt.sub h1 (by walk_at "mine sub")) (by assumption)
    | (trace_state; w_report)
theorem binary_value_add {w : World} {dp u : Nat} {env : Env} {outer : List Env} {gs : Option (List Code)} {E : Value → Shared → Prop} {s : Shared} {h₀ : Heap} {L : Addr} {m : Str → Option Value} {news : List (Addr × Obj)}
    (C : Cx 380 w env outer dp u s.heap h₀ L m news) {x dx lx rx y dy ly ty nx ny : Nat} {shx lox shy loy nt : Value} {P D : Int} {k kx kx1 kx2 kx3 kx4 kx5 ky ky1 ky2 ky3 ky4 ky5 t1 t2 : Tok} {Q : Value → Shared → Prop}
    (m1 : (x, instObj 271 dx) ∈ news) (m2 : (dx, vecD w (.str (Str.ofString "double") kx) (.ref lx) .none shx lox kx1 kx2 kx3 kx4 kx5) ∈ news) (m3 : (lx, W.listOf #[.ref rx] nx) ∈ news) (hr : TupAt news rx P D)
    (m4 : (y, instObj 271 dy) ∈ news) (m5 : (dy, vecD w (.str (Str.ofString "double") ky) (.ref ly) .none shy loy ky1 ky2 ky3 ky4 ky5) ∈ news) (m6 : (ly, W.listOf #[.ref ty] ny) ∈ news) (m7 : (ty, tupO #[.int 1 t1, .int 1 t2]) ∈ news)
    (hd : 0 < D) (h1 : P ≤ 1000000000000000000000000000000000000000000000000000000000000000000000000000000000000000000000000000) (h2 : -1000000000000000000000000000000000000000000000000000000000000000000000000000000000000000000000000000 ≤ P) (h3 : D ≤ 1000000000000000000000000000000000000000000000000000000000000000000000000000000000000000000000000000) (hg : Int.gcd (if P + D < 0 then -(P + D) else P + D) D = 1)
    (post : ∀ {h' : Heap} {tk' : Nat} {z d l n' t : Nat} {j1 j2 j3 j4 j5 j6 i1 i2 : Tok}, Fr h₀ L h' m → News h₀ L h' ((z, instObj 271 d) :: (d, vecD w (.str (Str.ofString "double") j6) (.ref l) .none (.bool false) (.bool false) j1 j2 j3 j4 j5) :: (l, W.listOf #[.ref t] n') :: (t, tupO #[.int (P + D) i1, .int D i2]) :: news) →
      AllLt d ((l, W.listOf #[.ref t] n') :: (t, tupO #[.int (P + D) i1, .int D i2]) :: news) → d < z → Q (.ref z) { s with heap := h', toks := tk' }) :
    wpAny (MD w) (AR dp u env outer gs) (call (.ref 749) [.str (Str.ofString "+") k, .ref x, .ref y, nt]) Q E s := by
  obtain ⟨⟨A₀, base, mean, mg, mb, B, T⟩, F, X, N, hf, hke, hdp, hu⟩ := C
  walk_at "mine start"
  k_steps
  all_goals first
    | exact post (by assumption) (News.sub (by assumption) (by walk_at "mine sub")) (by rename AllLt _ (_ :: _ :: _ :: _) => h1; exact AllLt.sub h1 (by walk_at "mine sub")) (by assumption)
    | (trace_state; w_report)
theorem reg33 : True := by
  k_with "call ref" => (k_here; (with_reducible show wpAny _ _ (call (Value.ref 749) (Value.str (Str.ofString "^") _ :: _) _) _ _ _); k_dflt (refine' binary_value_pow ?zqC ?zqm1 ?zqm2 ?zqm3 ?zqm0 ?zqm4 ?zqm5 ?zqm6 ?zqhi ?zqa ?zqb ?zqc ?_ ?_; (case zqC => walk_at "mine cx"); (case zqm1 => k_mem); (case zqm2 => k_mem); (case zqm3 => k_mem); (case zqm0 => k_mem); (case zqm4 => k_mem); (case zqm5 => k_mem); (case zqm6 => k_mem); (case zqhi => walk_at "mine item"); (case zqa => omega); (case zqb => omega); (case zqc => omega); (all_goals first | (intro hgr h' tk' F' N'; (try k_sweep); done) | (intro hgr h' tk' z d l n' r t vs j1 j2 j3 j4 j5 j6 F' N' hT hor l1 l2; (try k_sweep)) | (intro hgr h' tk' F' N'; (try k_sweep)))))
  k_with "call ref" => (k_here; (with_reducible show wpAny _ _ (call (Value.ref 749) (Value.str (Str.ofString "+") _ :: _) _) _ _ _); k_dflt (refine' binary_value_add ?zqC ?zqm1 ?zqm2 ?zqm3 ?zqhr ?zqm4 ?zqm5 ?zqm6 ?zqm7 ?zqhd ?zqh1 ?zqh2 ?zqh3 ?zqhg ?_; (case zqC => walk_at "mine cx"); (case zqm1 => k_mem); (case zqm2 => k_mem); (case zqm3 => k_mem); (case zqhr => walk_at "mine tupat"); (case zqm4 => k_mem); (case zqm5 => k_mem); (case zqm6 => k_mem); (case zqm7 => k_mem); (case zqhd => omega); (case zqh1 => omega); (case zqh2 => omega); (case zqh3 => omega); (case zqhg => assumption); k_whole; intro h' tk' z d l n' t j1 j2 j3 j4 j5 j6 i1 i2 F' N' l1 l2; (try k_sweep)))
  trivial
theorem call_value_pow {w : World} {dp u : Nat} {env : Env} {outer : List Env} {gs : Option (List Code)} {E : Value → Shared → Prop} {s : Shared} {h₀ : Heap} {L : Addr} {m : Str → Option Value} {news : List (Addr × Obj)}
    (C : Cx 370 w env outer dp u s.heap h₀ L m news) {la na x dx lx tx y dy ly nx ny : Nat} {kdy : Str} {ity shx lox shy loy : Value} {b n : Int} {k kx kx1 kx2 kx3 kx4 kx5 ky ky1 ky2 ky3 ky4 ky5 t1 t2 : Tok} {Q : Value → Shared → Prop}
    (m1 : (x, instObj 271 dx) ∈ news) (m2 : (dx, vecD w (.str (Str.ofString "double") kx) (.ref lx) .none shx lox kx1 kx2 kx3 kx4 kx5) ∈ news) (m3 : (lx, W.listOf #[.ref tx] nx) ∈ news) (m0 : (tx, tupO #[.int b t1, .int 1 t2]) ∈ news)
    (m4 : (y, instObj 271 dy) ∈ news) (m5 : (dy, vecD w (.str kdy ky) (.ref ly) .none shy loy ky1 ky2 ky3 ky4 ky5) ∈ news) (m6 : (ly, W.listOf #[ity] ny) ∈ news) (hi : ItemAt news kdy ity n)
    (hb : -4 ≤ b) (hb' : b ≤ 9) (hb0 : b ≠ 0)
    (ma : (la, W.listOf #[.ref x, .ref y] na) ∈ news)
    (big : 100 < n.natAbs → ∀ {h' : Heap} {tk' : Nat}, Fr h₀ L h' m → News h₀ L h' news → Q .none { s with heap := h', toks := tk' })
    (post : n.natAbs ≤ 100 → ∀ {h' : Heap} {tk' : Nat} {z d l n' r t : Nat} {vs : Array Value} {j1 j2 j3 j4 j5 j6 : Tok}, Fr h₀ L h' m → News h₀ L h' ((z, instObj 271 d) :: (d, vecD w (.str (Str.ofString "double") j6) (.ref l) .none (.bool false) (.bool false) j1 j2 j3 j4 j5) :: (l, W.listOf #[.ref r] n') :: (t, tupO vs) :: news) →
      TupAt [(t, tupO vs)] r (pnum b n) (pden b n) → (t = tx ∨ AllLt t news) → AllLt d ((l, W.listOf #[.ref r] n') :: (t, tupO vs) :: news) → d < z → Q (.ref z) { s with heap := h', toks := tk' }) :
    wpAny (MD w) (AR dp u env outer gs) (call (.ref 763) [.str (Str.ofString "^") k, .ref la]) Q E s := by
  obtain ⟨⟨A₀, base, mean, mg, mb, B, T⟩, F, X, N, hf, hke, hdp, hu⟩ := C
  walk_at "mine start"
  k_steps
  all_goals first
    | exact big (by assumption) (by assumption) (News.sub (by assumption) (by walk_at "mine sub"))
    | exact post (by assumption) (by assumption) (News.sub (by assumption) (by walk_at "mine sub")) (by assumption) (by rename _ = tx ∨ AllLt _ (_ :: _) => ho; exact ho.imp_right fun h => AllLt.sub h (by walk_at "mine sub")) (by rename AllLt _ (_ :: _ :: _ :: _) => h1; exact AllLt.sub h1 (by walk_at "mine sub")) (by assumption)
    | (trace_state; w_report)
theorem call_value_add {w : World} {dp u : Nat} {env : Env} {outer : List Env} {gs : Option (List Code)} {E : Value → Shared → Prop} {s : Shared} {h₀ : Heap} {L : Addr} {m : Str → Option Value} {news : List (Addr × Obj)}
    (C : Cx 370 w env outer dp u s.heap h₀ L m news) {la na x dx lx rx y dy ly ty nx ny : Nat} {shx lox shy loy : Value} {P D : Int} {k kx kx1 kx2 kx3 kx4 kx5 ky ky1 ky2 ky3 ky4 ky5 t1 t2 : Tok} {Q : Value → Shared → Prop}
    (m1 : (x, instObj 271 dx) ∈ news) (m2 : (dx, vecD w (.str (Str.ofString "double") kx) (.ref lx) .none shx lox kx1 kx2 kx3 kx4 kx5) ∈ news) (m3 : (lx, W.listOf #[.ref rx] nx) ∈ news) (hr : TupAt news rx P D)
    (m4 : (y, instObj 271 dy) ∈ news) (m5 : (dy, vecD w (.str (Str.ofString "double") ky) (.ref ly) .none shy loy ky1 ky2 ky3 ky4 ky5) ∈ news) (m6 : (ly, W.listOf #[.ref ty] ny) ∈ news) (m7 : (ty, tupO #[.int 1 t1, .int 1 t2]) ∈ news)
    (hd : 0 < D) (h1 : P ≤ 1000000000000000000000000000000000000000000000000000000000000000000000000000000000000000000000000000) (h2 : -1000000000000000000000000000000000000000000000000000000000000000000000000000000000000000000000000000 ≤ P) (h3 : D ≤ 1000000000000000000000000000000000000000000000000000000000000000000000000000000000000000000000000000) (hg : Int.gcd (if P + D < 0 then -(P + D) else P + D) D = 1)
    (ma : (la, W.listOf #[.ref x, .ref y] na) ∈ news)
    (post : ∀ {h' : Heap} {tk' : Nat} {z d l n' t : Nat} {j1 j2 j3 j4 j5 j6 i1 i2 : Tok}, Fr h₀ L h' m → News h₀ L h' ((z, instObj 271 d) :: (d, vecD w (.str (Str.ofString "double") j6) (.ref l) .none (.bool false) (.bool false) j1 j2 j3 j4 j5) :: (l, W.listOf #[.ref t] n') :: (t, tupO #[.int (P + D) i1, .int D i2]) :: news) →
      AllLt d ((l, W.listOf #[.ref t] n') :: (t, tupO #[.int (P + D) i1, .int D i2]) :: news) → d < z → Q (.ref z) { s with heap := h', toks := tk' }) :
    wpAny (MD w) (AR dp u env outer gs) (call (.ref 763) [.str (Str.ofString "+") k, .ref la]) Q E s := by
  obtain ⟨⟨A₀, base, mean, mg, mb, B, T⟩, F, X, N, hf, hke, hdp, hu⟩ := C
  walk_at "mine start"
  k_steps
  all_goals first
    | exact post (by assumption) (News.sub (by assumption) (by walk_at "mine sub")) (by rename AllLt _ (_ :: _ :: _ :: _) => h1; exact AllLt.sub h1 (by walk_at "mine sub")) (by assumption)
    | (trace_state; w_report)
theorem reg34 : True := by
  k_with "call ref" => (k_here; (with_reducible show wpAny _ _ (call (Value.ref 763) (Value.str (Str.ofString "^") _ :: _) _) _ _ _); k_dflt (refine' call_value_pow ?zqC ?zqm1 ?zqm2 ?zqm3 ?zqm0 ?zqm4 ?zqm5 ?zqm6 ?zqhi ?zqa ?zqb ?zqc ?zqma ?_ ?_; (case zqC => walk_at "mine cx"); (case zqma => k_mem); (case zqm1 => k_mem); (case zqm2 => k_mem); (case zqm3 => k_mem); (case zqm0 => k_mem); (case zqm4 => k_mem); (case zqm5 => k_mem); (case zqm6 => k_mem); (case zqhi => walk_at "mine item"); (case zqa => omega); (case zqb => omega); (case zqc => omega); (all_goals first | (intro hgr h' tk' F' N'; (try k_sweep); done) | (intro hgr h' tk' z d l n' r t vs j1 j2 j3 j4 j5 j6 F' N' hT hor l1 l2; (try k_sweep)) | (intro hgr h' tk' F' N'; (try k_sweep)))))
  k_with "call ref" => (k_here; (with_reducible show wpAny _ _ (call (Value.ref 763) (Value.str (Str.ofString "+") _ :: _) _) _ _ _); k_dflt (refine' call_value_add ?zqC ?zqm1 ?zqm2 ?zqm3 ?zqhr ?zqm4 ?zqm5 ?zqm6 ?zqm7 ?zqhd ?zqh1 ?zqh2 ?zqh3 ?zqhg ?zqma ?_; (case zqC => walk_at "mine cx"); (case zqma => k_mem); (case zqm1 => k_mem); (case zqm2 => k_mem); (case zqm3 => k_mem); (case zqhr => walk_at "mine tupat"); (case zqm4 => k_mem); (case zqm5 => k_mem); (case zqm6 => k_mem); (case zqm7 => k_mem); (case zqhd => omega); (case zqh1 => omega); (case zqh2 => omega); (case zqh3 => omega); (case zqhg => assumption); k_whole; intro h' tk' z d l n' t j1 j2 j3 j4 j5 j6 i1 i2 F' N' l1 l2; (try k_sweep)))
  trivial
theorem fold_const {w : World} {dp u : Nat} {env : Env} {outer : List Env} {gs : Option (List Code)} {E : Value → Shared → Prop} {s : Shared} {h₀ : Heap} {L : Addr} {m : Str → Option Value} {news : List (Addr × Obj)}
    (C : Cx 360 w env outer dp u s.heap h₀ L m news) {x d l nn : Nat} {kd : Str} {it sh lo sf rm dk : Value} {k k1 k2 k3 k4 k5 : Tok} {Q : Value → Shared → Prop}
    (m1 : (x, instObj 271 d) ∈ news) (m2 : (d, vecD w (.str kd k) (.ref l) .none sh lo k1 k2 k3 k4 k5) ∈ news) (m3 : (l, W.listOf #[it] nn) ∈ news) (hk : kd = Str.ofString "double" ∨ kd = Str.ofString "integer")
    (post : ∀ {h' : Heap} {tk' t : Nat}, Fr h₀ L h' m → News h₀ L h' ((t, tupO #[.bool true, .ref x]) :: news) → AllLt t news → Q (.ref t) { s with heap := h', toks := tk' }) :
    wpAny (MD w) (AR dp u env outer gs) (call (.ref 777) [.ref x, sf, rm, dk]) Q E s := by
  obtain ⟨⟨A₀, base, mean, mg, mb, B, T⟩, F, X, N, hf, hke, hdp, hu⟩ := C
  walk_at "mine start"
  k_steps
  exact post (by assumption) (News.sub (by assumption) (by walk_at "mine sub")) (by walk_at "mine lt")
theorem reg35 : True := by
  k_with "call ref" => (k_here; (with_reducible show wpAny _ _ (call (Value.ref 777) _ _) _ _ _); k_dflt (refine' fold_const ?zqC ?zqm1 ?zqm2 ?zqm3 ?zqhk ?_; (case zqC => walk_at "mine cx"); (case zqm1 => k_mem); (case zqm2 => k_mem); (case zqm3 => k_mem); (case zqhk => first | assumption | exact .inl rfl | exact .inr rfl); k_whole; intro h' tk' t F' N' l1; (try simp only [AllLt, and_true] at l1); (try k_sweep)))
  trivial
def SafeAt (news : List (Addr × Obj)) (sf : Addr) : Prop := ∃ (vs : Array Value) (ys : List Str), (sf, tupO vs) ∈ news ∧ StrsAre vs.toList ys ∧ ys.any (· == Str.ofString "^") = true ∧ ys.any (· == Str.ofString "+") = true
theorem SafeAt.more {news news' : List (Addr × Obj)} {sf : Addr} (h : SafeAt news sf) (s : ∀ p ∈ news, p ∈ news') : SafeAt news' sf := let ⟨vs, ys, a, r⟩ := h; ⟨vs, ys, s _ a, r⟩
theorem notin_safe {prog : Program} {w : World} {A : Around} {E : Value → Shared → Prop} {s : Shared} {h₀ : Heap} {L : Addr} {news : List (Addr × Obj)} {sf : Addr} {x : Str} {u : Tok} {Q : Value → Shared → Prop} (N : News h₀ L s.heap news) (S : SafeAt news sf)
    (hx : x = Str.ofString "^" ∨ x = Str.ofString "+") (h : Q (.bool false) s) : wpAny (model prog w) A (compareOp .NotIn (.str x u) (.ref sf)) Q E s := by
  obtain ⟨vs, ys, hm, hs, h1, h2⟩ := S
  refine notin_tuple_strs (News.isTup N hm) hs ?_
  rcases hx with rfl | rfl
  · rw [h1]; exact h
  · rw [h2]; exact h
theorem reg36 : True := by
  k_with "mine safe" => first | assumption | exact SafeAt.more (by assumption) (by kcf_all)
  k_with "compareOp NotIn str ref" => (k_here; k_dflt (refine' notin_safe ?zqN ?zqS ?zqx ?_; (case zqN => k_asm); (case zqS => walk_at "mine safe"); (case zqx => first | exact .inl rfl | exact .inr rfl); k_whole))
  trivial
theorem allLt_ne {d : Addr} {l : List (Addr × Obj)} (h : AllLt d l) : ∀ p ∈ l, p.1 ≠ d := fun p hp => Nat.ne_of_lt (allLt_mem h p hp)
section
variable {prog : Program} {w : World} {A : Around} {E : Value → Shared → Prop} {s : Shared} {h₀ : Heap} {L D : Addr} {m : Str → Option Value} {news news' : List (Addr × Obj)} {n : Nat} {t : Tok}
theorem my_get {l : Addr} {vs : List Value} {k : Int} {v : Value} {u : Tok} {Q : Value → Shared → Prop} (N : News h₀ L s.heap news) (hm : (l, W.listOf vs.toArray n) ∈ news) (h0 : 0 ≤ k) (hhi : k < 2 ^ 63) (hx : vs[k.toNat]? = some v) (h : Q v s) :
    wpAny (model prog w) A (getItem (.ref l) (.int k u)) Q E s :=
  wpAny_getItem_list (News.isList N hm) h0 hhi (by simpa using hx) h
theorem my_set {Q : Unit → Shared → Prop} {v x : Value} (F : Fr h₀ L s.heap m) (N : News h₀ L s.heap news) (U : Upd D (W.listOf #[v] n) (W.listOf #[x] n) news news')
    (h : ∀ h', Fr h₀ L h' m → News h₀ L h' news' → Q () { s with heap := h' }) : wpAny (model prog w) A (setItem (.ref D) (.int 0 t) x) Q E s := by
  obtain ⟨pre, post, rfl, rfl, a, b⟩ := U.split
  have z := N (D, W.listOf #[v] n) (List.mem_append.mpr (.inr (.head _)))
  refine ki_setAt z.1 (by decide) (by decide) (Int.zero_lt_one) (h _ (F.change (Heap.SameBut.update ..) z.2.1 z.2.2) (ki_turn _ N a b ?_ ?_))
  · rfl
  · rfl
end
theorem reg37 : True := by
  k_with "getItem ref int" => (k_here; (with_reducible show wpAny _ _ (getItem (Value.ref _) (Value.int _ _)) _ _ _); k_dflt (refine' my_get ?zqN ?zqm ?zqk2 ?zqk3 ?zqk4 ?_; (case zqN => k_asm); (case zqm => k_mem); (case zqk2 => decide); (case zqk3 => decide); (case zqk4 => exact rfl); k_whole))
  k_with "setItem ref int" => (k_here; (with_reducible show wpAny _ _ (setItem (Value.ref _) (Value.int 0 _) _) _ _ _); k_dflt (refine' my_set ?zqF ?zqN ?zqU ?_; (case zqF => k_asm); (case zqN => k_asm); (case zqU => k_upd); k_whole; intro h' F' N'; (try k_sweep)))
  trivial
local macro_rules | `(tactic| k_all) => `(tactic| first | exact fun p hp => Nat.ne_of_lt ((by assumption : ∀ p ∈ _, _) p hp) | assumption | exact allLt_ne (by walk_at "mine lt") | (refine' List.forall_mem_cons.mpr ⟨?a, ?b⟩; (case a => k_ne); (case b => k_all)))
theorem unrEnd_ne {h₀ : Heap} {L I : Addr} {it : Obj} {lp : Addr × Obj} {rest : (Str → Option Value) → List (Addr × Obj) → Prop} {s₁ : Shared} {h' : Heap} {tk : Nat} {m' : Str → Option Value} {all news' : List (Addr × Obj)} (F : Fr h₀ L h' m') (N : News h₀ L h' all)
    (sub : ((I, it) :: news').Sublist all) (off : ∀ p ∈ news', p.1 ≠ I) (hm : lp ∈ news') (r : rest m' news') : UnrEnd h₀ L s₁ I it (fun m n => lp ∈ n ∧ rest m n) { s₁ with heap := h', toks := tk } :=
  UnrEnd.intro F N news' (fun p hp => sub.subset hp) off ⟨hm, r⟩
theorem reg38 : True := by
  k_with "exec For Name Subscript cons nil" => (k_here; (rename Fr _ _ _ _ => lF'); (with_unfolding_all refine' For_invVF lF' ?zqk1 ?zqk2 ?_; (case zqk1 => exact rfl); (case zqk2 => exact rfl); k_whole))
  k_with "pyIter ref" => (k_here; (with_reducible show wpAny _ _ (pyIter (Value.ref _)) (fun it s₂ => LoopAtV _ _ _ _ _ _ _ _ _ it s₂) _ _); (rename Fr _ _ _ _ => lF'); (with_unfolding_all refine' iter_listUnr ?zqhh lF' ?zqN ?zqhm ?zqhc ?zqhd ?_; (case zqhh => exact rfl); (case zqN => k_asm); (case zqhm => k_mem); (case zqhc => exact rfl); (case zqhd => exact rfl)); clear lF'; intro i' l1; (try k_lt l1))
  k_with "UnrEnd" => (k_here; (refine' unrEnd_ne ?zqF ?zqN ?zqsub ?zqoff ?zqmem ?_); (case zqF => k_asm); (case zqN => k_asm); (case zqsub => walk_at "mine sub"); (case zqoff => k_all); (case zqmem => k_mem))
  k_with "call builtin:list.append" => (k_here; (with_reducible show wpAny _ _ (call (Value.builtin _) [Value.ref _, _]) _ _ _); k_dflt (refine' append_K ?zqk1 ?zqk2 ?zqk3 ?_ ?zqz; (case zqk1 => k_asm); (case zqk2 => k_asm); (case zqk3 => k_upd); (case zqz => size_fits); k_whole); intro h' F' N'; (try simp only [List.push_toArray, List.nil_append, List.cons_append] at N'); (try k_sweep))
  trivial
theorem fold_pow {w : World} {dp u : Nat} {env : Env} {outer : List Env} {gs : Option (List Code)} {E : Value → Shared → Prop} {s : Shared} {h₀ : Heap} {L : Addr} {m : Str → Option Value} {news : List (Addr × Obj)} {rm nr : Nat} {rk : Int} {tr : Tok}
    (C : Cx 350 w env outer dp u s.heap h₀ L m ((rm, W.listOf #[.int rk tr] nr) :: news)) {e de li lt sy sd sf : Nat} {dk : Int} {td kn c0 c1 c2 c3 c4 c5 j0 j1 j2 j3 : Tok}
    {x dx lx tx y dy ly nx ny : Nat} {kdy : Str} {ity shx lox shy loy : Value} {b n : Int} {kx kx1 kx2 kx3 kx4 kx5 ky ky1 ky2 ky3 ky4 ky5 t1 t2 : Tok} {Q : Value → Shared → Prop}
    (hrm : ∀ p ∈ news, p.1 ≠ rm) (hrk : 0 < rk) (hrk' : rk ≤ 1000) (hdk : 1 < dk) (hdk' : dk ≤ 1000) (ms : SafeAt news sf)
    (e1 : (e, instObj 314 de) ∈ news) (e2 : (de, callD w (.ref li) (.ref lt) c0 c1 c2 c3 c4 c5) ∈ news) (e3 : (lt, W.listOf #[.none, .none, .none] 0) ∈ news) (e4 : (li, W.listOf #[.ref sy, .ref x, .ref y] 0) ∈ news) (e5 : (sy, instObj 292 sd) ∈ news) (e6 : (sd, symD w (.str (Str.ofString "^") kn) j0 j1 j2 j3) ∈ news)
    (m1 : (x, instObj 271 dx) ∈ news) (m2 : (dx, vecD w (.str (Str.ofString "double") kx) (.ref lx) .none shx lox kx1 kx2 kx3 kx4 kx5) ∈ news) (m3 : (lx, W.listOf #[.ref tx] nx) ∈ news) (m0 : (tx, tupO #[.int b t1, .int 1 t2]) ∈ news)
    (m4 : (y, instObj 271 dy) ∈ news) (m5 : (dy, vecD w (.str kdy ky) (.ref ly) .none shy loy ky1 ky2 ky3 ky4 ky5) ∈ news) (m6 : (ly, W.listOf #[ity] ny) ∈ news) (hi : ItemAt news kdy ity n)
    (hb : -4 ≤ b) (hb' : b ≤ 9) (hb0 : b ≠ 0)
    (big : 100 < n.natAbs → ∀ {h' : Heap} {tk' t nr' : Nat} {tr' : Tok}, Fr h₀ L h' m → News h₀ L h' ((t, tupO #[.bool false, .none]) :: (rm, W.listOf #[.int (rk - 1) tr'] nr') :: news) → AllLt t news → Q (.ref t) { s with heap := h', toks := tk' })
    (post : n.natAbs ≤ 100 → ∀ {h' : Heap} {tk' : Nat} {q z d l n' r t nr' : Nat} {vs : Array Value} {j1 j2 j3 j4 j5 j6 tr' : Tok}, Fr h₀ L h' m → News h₀ L h' ((q, tupO #[.bool true, .ref z]) :: (z, instObj 271 d) :: (d, vecD w (.str (Str.ofString "double") j6) (.ref l) .none (.bool true) (.bool false) j1 j2 j3 j4 j5) :: (l, W.listOf #[.ref r] n') :: (t, tupO vs) :: (rm, W.listOf #[.int (rk - 1) tr'] nr') :: news) →
      TupAt [(t, tupO vs)] r (pnum b n) (pden b n) → (t = tx ∨ AllLt t news) → Q (.ref q) { s with heap := h', toks := tk' }) :
    wpAny (MD w) (AR dp u env outer gs) (call (.ref 777) [.ref e, .ref sf, .ref rm, .int dk td]) Q E s := by
  obtain ⟨⟨A₀, base, mean, mg, mb, B, T⟩, F, X, N, hf, hke, hdp, hu⟩ := C
  have hkd := hi.kd
  walk_at "mine start"
  k_steps
  all_goals first
    | exact big (by assumption) (by assumption) (News.sub (by assumption) (by walk_at "mine sub")) (by walk_at "mine lt")
    | exact post (by assumption) (by assumption) (News.sub (by assumption) (by walk_at "mine sub")) (by assumption) (by rename _ = tx ∨ AllLt _ (_ :: _) => ho; exact ho.imp_right fun h => AllLt.sub h (by walk_at "mine sub"))
    | (exfalso; omega)
    | w_report
theorem reg39 : True := by
  k_with "call ref" => (k_here; (with_reducible show wpAny _ _ (call (Value.ref 777) _ _) _ _ _); k_dflt (refine' fold_pow ?zqC ?zqhrm ?zqhrk ?zqhrkk ?zqhdk ?zqhdkk ?zqms ?zqe1 ?zqe2 ?zqe3 ?zqe4 ?zqe5 ?zqe6 ?zqm1 ?zqm2 ?zqm3 ?zqm0 ?zqm4 ?zqm5 ?zqm6 ?zqhi ?zqa ?zqb ?zqc ?_ ?_; (case zqC => walk_at "mine cx"); (case zqe1 => k_mem); (case zqe2 => k_mem); (case zqe3 => k_mem); (case zqe4 => k_mem); (case zqe5 => k_mem); (case zqe6 => k_mem); (case zqm1 => k_mem); (case zqm2 => k_mem); (case zqm3 => k_mem); (case zqm0 => k_mem); (case zqm4 => k_mem); (case zqm5 => k_mem); (case zqm6 => k_mem); (case zqhi => walk_at "mine item"); (case zqhrm => k_all); (case zqhrk => omega); (case zqhrkk => omega); (case zqhdk => omega); (case zqhdkk => omega); (case zqms => walk_at "mine safe"); (case zqa => omega); (case zqb => omega); (case zqc => omega); (all_goals first | (intro hgr h' tk' t nr' tr' F' N' l1; (try k_sweep); done) | (intro hgr h' tk' q z d l n' r t nr' vs j1 j2 j3 j4 j5 j6 tr' F' N' hT hor; (try k_sweep)) | (intro hgr h' tk' t nr' tr' F' N' l1; (try k_sweep)))))
  trivial
theorem gcd_pm {e D : Int} (h : e = 1 ∨ e = -1) : Int.gcd (e + D) D = 1 := by
  have h1 := Int.gcd_dvd_left (e + D) D
  have h2 := Int.gcd_dvd_right (e + D) D
  have h3 := Int.dvd_sub h1 h2
  rw [Int.add_sub_cancel] at h3
  have h4 : (((e + D).gcd D : Nat) : Int) ∣ 1 := by
    rcases h with rfl | rfl
    · exact h3
    · exact Int.dvd_neg.mp h3
  have := Int.eq_one_of_dvd_one (Int.natCast_nonneg _) h4
  omega
theorem newsNe {h₀ h : Heap} {L a b : Addr} {o₁ o₂ : Obj} {ns : List (Addr × Obj)} (N : News h₀ L h ns) (h1 : (a, o₁) ∈ ns) (h2 : (b, o₂) ∈ ns) (hne : o₁ ≠ o₂) : (@Ne Nat a b) := fun e => by
  have q1 := (N _ h1).1
  have q2 := (N _ h2).1
  simp only at q1 q2
  rw [e] at q1
  exact hne (Option.some.inj (q1.symm.trans q2))
theorem ne_cls {o₁ o₂ : Obj} (h : o₁.cls ≠ o₂.cls) : o₁ ≠ o₂ := fun e => h (congrArg Obj.cls e)
theorem ne_size {xs ys : Array Value} {m n : Nat} (h : xs.size ≠ ys.size) : W.listOf xs m ≠ W.listOf ys n := fun e => h (by
  have q := congrArg Obj.data e
  simp only at q
  injection q with q
  rw [q])
theorem gcd_pow {b n : Int} (hb0 : b ≠ 0) : Int.gcd (if pnum b n + pden b n < 0 then -(pnum b n + pden b n) else pnum b n + pden b n) (pden b n) = 1 := by
  have e : ∀ x y : Int, Int.gcd (if x < 0 then -x else x) y = Int.gcd x y := fun x y => by
    split
    · exact Int.neg_gcd
    · rfl
  rw [e]
  have : pden b n = 1 ∨ pnum b n = 1 ∨ pnum b n = -1 := by
    unfold pnum pden
    (repeat' split) <;> simp
  rcases this with h | h | h
  · rw [h, Int.gcd_one]
  · rw [h]; exact gcd_pm (.inl rfl)
  · rw [h]; exact gcd_pm (.inr rfl)
theorem fold_pow3 {w : World} {dp u : Nat} {env : Env} {outer : List Env} {gs : Option (List Code)} {E : Value → Shared → Prop} {s : Shared} {h₀ : Heap} {L : Addr} {m : Str → Option Value} {news : List (Addr × Obj)} {I S a ns na : Nat} {it : Obj} {v1 v2 : Value} {rm nr : Nat} {rk : Int} {tr : Tok}
    (C : Cx 350 w env outer dp u s.heap h₀ L m ((I, it) :: (S, W.listOf #[v1, v2] ns) :: (a, W.listOf #[] na) :: (rm, W.listOf #[.int rk tr] nr) :: news)) (hit : it.cls = .type "list_iterator") {e de li lt sy sd sf : Nat} {dk : Int} {td kn c0 c1 c2 c3 c4 c5 j0 j1 j2 j3 : Tok}
    {x dx lx tx y dy ly nx ny : Nat} {kdy : Str} {ity shx lox shy loy : Value} {b n : Int} {kx kx1 kx2 kx3 kx4 kx5 ky ky1 ky2 ky3 ky4 ky5 t1 t2 : Tok} {Q : Value → Shared → Prop}
    (hI : (@Ne Nat I rm)) (hS : (@Ne Nat S rm)) (ha : (@Ne Nat a rm)) (hrm : ∀ p ∈ news, p.1 ≠ rm) (hrk : 0 < rk) (hrk' : rk ≤ 1000) (hdk : 1 < dk) (hdk' : dk ≤ 1000) (ms : SafeAt news sf)
    (e1 : (e, instObj 314 de) ∈ news) (e2 : (de, callD w (.ref li) (.ref lt) c0 c1 c2 c3 c4 c5) ∈ news) (e3 : (lt, W.listOf #[.none, .none, .none] 0) ∈ news) (e4 : (li, W.listOf #[.ref sy, .ref x, .ref y] 0) ∈ news) (e5 : (sy, instObj 292 sd) ∈ news) (e6 : (sd, symD w (.str (Str.ofString "^") kn) j0 j1 j2 j3) ∈ news)
    (m1 : (x, instObj 271 dx) ∈ news) (m2 : (dx, vecD w (.str (Str.ofString "double") kx) (.ref lx) .none shx lox kx1 kx2 kx3 kx4 kx5) ∈ news) (m3 : (lx, W.listOf #[.ref tx] nx) ∈ news) (m0 : (tx, tupO #[.int b t1, .int 1 t2]) ∈ news)
    (m4 : (y, instObj 271 dy) ∈ news) (m5 : (dy, vecD w (.str kdy ky) (.ref ly) .none shy loy ky1 ky2 ky3 ky4 ky5) ∈ news) (m6 : (ly, W.listOf #[ity] ny) ∈ news) (hi : ItemAt news kdy ity n)
    (hb : -4 ≤ b) (hb' : b ≤ 9) (hb0 : b ≠ 0)
    (big : 100 < n.natAbs → ∀ {h' : Heap} {tk' t nr' : Nat} {tr' : Tok}, Fr h₀ L h' m → News h₀ L h' ((t, tupO #[.bool false, .none]) :: (I, it) :: (S, W.listOf #[v1, v2] ns) :: (a, W.listOf #[] na) :: (rm, W.listOf #[.int (rk - 1) tr'] nr') :: news) → Q (.ref t) { s with heap := h', toks := tk' })
    (post : n.natAbs ≤ 100 → ∀ {h' : Heap} {tk' : Nat} {q z d l n' r t nr' : Nat} {vs : Array Value} {j1 j2 j3 j4 j5 j6 tr' : Tok}, Fr h₀ L h' m → News h₀ L h' ((I, it) :: (q, tupO #[.bool true, .ref z]) :: (z, instObj 271 d) :: (d, vecD w (.str (Str.ofString "double") j6) (.ref l) .none (.bool true) (.bool false) j1 j2 j3 j4 j5) :: (l, W.listOf #[.ref r] n') :: (t, tupO vs) :: (S, W.listOf #[v1, v2] ns) :: (a, W.listOf #[] na) :: (rm, W.listOf #[.int (rk - 1) tr'] nr') :: news) →
      TupAt [(t, tupO vs)] r (pnum b n) (pden b n) → ((@Ne Nat q I) ∧ (@Ne Nat z I) ∧ (@Ne Nat d I) ∧ (@Ne Nat l I) ∧ (@Ne Nat t I)) → ((@Ne Nat q a) ∧ (@Ne Nat z a) ∧ (@Ne Nat d a) ∧ (@Ne Nat l a) ∧ (@Ne Nat t a)) →
      0 < pden b n → pnum b n ≤ 1000000000000000000000000000000000000000000000000000000000000000000000000000000000000000000000000000 → -1000000000000000000000000000000000000000000000000000000000000000000000000000000000000000000000000000 ≤ pnum b n → pden b n ≤ 1000000000000000000000000000000000000000000000000000000000000000000000000000000000000000000000000000 → Int.gcd (if pnum b n + pden b n < 0 then -(pnum b n + pden b n) else pnum b n + pden b n) (pden b n) = 1 → Q (.ref q) { s with heap := h', toks := tk' }) :
    wpAny (MD w) (AR dp u env outer gs) (call (.ref 777) [.ref e, .ref sf, .ref rm, .int dk td]) Q E s := by
  have hp1 := pden_pos (n := n) hb0
  have hg := gcd_pow (n := n) hb0
  obtain ⟨ex, F, X, N, hf, hke, hdp, hu⟩ := C
  have up : ∀ p ∈ news, p ∈ (I, it) :: (S, W.listOf #[v1, v2] ns) :: (a, W.listOf #[] na) :: news := fun p hp => .tail _ (.tail _ (.tail _ hp))
  refine fold_pow (tr := tr) (nr := nr) (news := (I, it) :: (S, W.listOf #[v1, v2] ns) :: (a, W.listOf #[] na) :: news) ⟨ex, F, X, fun p hp => N p ?_, hf, hke, hdp, hu⟩ ?_ hrk hrk' hdk hdk' (ms.more up) (up _ e1) (up _ e2) (up _ e3) (up _ e4) (up _ e5) (up _ e6) (up _ m1) (up _ m2) (up _ m3) (up _ m0) (up _ m4) (up _ m5) (up _ m6) (hi.more up) hb hb' hb0 ?_ ?_
  · simp only [List.mem_cons] at hp ⊢
    rcases hp with h | h | h | h | h <;> simp [h]
  · intro p hp
    simp only [List.mem_cons] at hp
    rcases hp with rfl | rfl | rfl | hp
    · exact hI
    · exact hS
    · exact ha
    · exact hrm p hp
  · intro hn h' tk' t nr' tr' F' N' _
    refine big (tr' := tr') (nr' := nr') hn F' fun p hp => N' p ?_
    simp only [List.mem_cons] at hp ⊢
    rcases hp with h | h | h | h | h | h <;> simp [h]
  · intro hn h' tk' q z d l n' r t nr' vs j1 j2 j3 j4 j5 j6 tr' F' N' hT hor
    have hp2 := pnum_bnd hb hb' hn
    have iI : (I, it) ∈ (q, tupO #[.bool true, .ref z]) :: (z, instObj 271 d) :: (d, vecD w (.str (Str.ofString "double") j6) (.ref l) .none (.bool true) (.bool false) j1 j2 j3 j4 j5) :: (l, W.listOf #[.ref r] n') :: (t, tupO vs) :: (rm, W.listOf #[.int (rk - 1) tr'] nr') :: (I, it) :: (S, W.listOf #[v1, v2] ns) :: (a, W.listOf #[] na) :: news := by simp
    have ia : (a, W.listOf #[] na) ∈ (q, tupO #[.bool true, .ref z]) :: (z, instObj 271 d) :: (d, vecD w (.str (Str.ofString "double") j6) (.ref l) .none (.bool true) (.bool false) j1 j2 j3 j4 j5) :: (l, W.listOf #[.ref r] n') :: (t, tupO vs) :: (rm, W.listOf #[.int (rk - 1) tr'] nr') :: (I, it) :: (S, W.listOf #[v1, v2] ns) :: (a, W.listOf #[] na) :: news := by simp
    refine post (tr' := tr') (nr' := nr') (q := q) (z := z) (d := d) (l := l) (n' := n') (r := r) (t := t) (vs := vs) (j1 := j1) (j2 := j2) (j3 := j3) (j4 := j4) (j5 := j5) (j6 := j6) hn F' (fun p hp => N' p ?_) hT ⟨?_, ?_, ?_, ?_, ?_⟩ ⟨?_, ?_, ?_, ?_, ?_⟩ hp1 (by omega) (by omega) (by omega) hg
    · simp only [List.mem_cons] at hp ⊢
      rcases hp with h | h | h | h | h | h | h | h | h | h <;> simp [h]
    · exact newsNe N' (.head _) iI (ne_cls (by rw [hit]; show Value.type "tuple" ≠ Value.type "list_iterator"; decide))
    · exact newsNe N' (.tail _ (.head _)) iI (ne_cls (by rw [hit]; intro e; cases e))
    · exact newsNe N' (.tail _ (.tail _ (.head _))) iI (ne_cls (by rw [hit]; show Value.type "dict" ≠ Value.type "list_iterator"; decide))
    · exact newsNe N' (.tail _ (.tail _ (.tail _ (.head _)))) iI (ne_cls (by rw [hit]; show Value.type "list" ≠ Value.type "list_iterator"; decide))
    · exact newsNe N' (.tail _ (.tail _ (.tail _ (.tail _ (.head _))))) iI (ne_cls (by rw [hit]; show Value.type "tuple" ≠ Value.type "list_iterator"; decide))
    · exact newsNe N' (.head _) ia (ne_cls (by show Value.type "tuple" ≠ Value.type "list"; decide))
    · exact newsNe N' (.tail _ (.head _)) ia (ne_cls (by intro e; cases e))
    · exact newsNe N' (.tail _ (.tail _ (.head _))) ia (ne_cls (by show Value.type "dict" ≠ Value.type "list"; decide))
    · exact newsNe N' (.tail _ (.tail _ (.tail _ (.head _)))) ia (ne_size (by simp))
    · exact newsNe N' (.tail _ (.tail _ (.tail _ (.tail _ (.head _))))) ia (ne_cls (by show Value.type "tuple" ≠ Value.type "list"; decide))
theorem reg40 : True := by
  k_with "call ref" => (k_here; (with_reducible show wpAny _ _ (call (Value.ref 777) _ _) _ _ _); k_dflt (refine' fold_pow3 ?zqC ?zqhit ?zqhI ?zqhS ?zqha ?zqhrm ?zqhrk ?zqhrkk ?zqhdk ?zqhdkk ?zqms ?zqe1 ?zqe2 ?zqe3 ?zqe4 ?zqe5 ?zqe6 ?zqm1 ?zqm2 ?zqm3 ?zqm0 ?zqm4 ?zqm5 ?zqm6 ?zqhi ?zqa ?zqb ?zqc ?_ ?_; (case zqC => walk_at "mine cx"); (case zqe1 => k_mem); (case zqe2 => k_mem); (case zqe3 => k_mem); (case zqe4 => k_mem); (case zqe5 => k_mem); (case zqe6 => k_mem); (case zqm1 => k_mem); (case zqm2 => k_mem); (case zqm3 => k_mem); (case zqm0 => k_mem); (case zqm4 => k_mem); (case zqm5 => k_mem); (case zqm6 => k_mem); (case zqhi => walk_at "mine item"); (case zqhit => assumption); (case zqhI => k_ne); (case zqhS => k_ne); (case zqha => k_ne); (case zqhrm => k_all); (case zqhrk => omega); (case zqhrkk => omega); (case zqhdk => omega); (case zqhdkk => omega); (case zqms => walk_at "mine safe"); (case zqa => omega); (case zqb => omega); (case zqc => omega); (all_goals first | (intro hgr h' tk' t nr' tr' F' N'; (try k_sweep); done) | (intro hgr h' tk' q z d l n' r t nr' vs j1 j2 j3 j4 j5 j6 tr' F' N' hT hn1 hn2 hp1 hp2 hp3 hp4 hp5; (try k_sweep)) | (intro hgr h' tk' t nr' tr' F' N'; (try k_sweep)))))
  trivial
theorem fold_add {w : World} {dp u : Nat} {env : Env} {outer : List Env} {gs : Option (List Code)} {E : Value → Shared → Prop} {s : Shared} {h₀ : Heap} {L : Addr} {m : Str → Option Value} {news : List (Addr × Obj)} {rm nr : Nat} {rk : Int} {tr : Tok}
    (C : Cx 340 w env outer dp u s.heap h₀ L m ((rm, W.listOf #[.int rk tr] nr) :: news)) {e0 de0 li0 lt0 sy0 sd0 o od ol ot no : Nat} {sho loo : Value} {g0 g1 g2 g3 g4 g5 kn0 i0 i1 i2 i3 ok ok1 ok2 ok3 ok4 ok5 u1 u2 : Tok} {e de li lt sy sd sf : Nat} {dk : Int} {td kn c0 c1 c2 c3 c4 c5 j0 j1 j2 j3 : Tok}
    {x dx lx tx y dy ly nx ny : Nat} {kdy : Str} {ity shx lox shy loy : Value} {b n : Int} {kx kx1 kx2 kx3 kx4 kx5 ky ky1 ky2 ky3 ky4 ky5 t1 t2 : Tok} {Q : Value → Shared → Prop}
    (hrm : ∀ p ∈ news, p.1 ≠ rm) (hrk : 1 < rk) (hrk' : rk ≤ 1000) (hdk : 2 < dk) (hdk' : dk ≤ 1000) (ms : SafeAt news sf)
    (f1 : (e0, instObj 314 de0) ∈ news) (f2 : (de0, callD w (.ref li0) (.ref lt0) g0 g1 g2 g3 g4 g5) ∈ news) (f3 : (lt0, W.listOf #[.none, .none, .none] 0) ∈ news) (f4 : (li0, W.listOf #[.ref sy0, .ref e, .ref o] 0) ∈ news) (f5 : (sy0, instObj 292 sd0) ∈ news) (f6 : (sd0, symD w (.str (Str.ofString "+") kn0) i0 i1 i2 i3) ∈ news)
    (o1 : (o, instObj 271 od) ∈ news) (o2 : (od, vecD w (.str (Str.ofString "double") ok) (.ref ol) .none sho loo ok1 ok2 ok3 ok4 ok5) ∈ news) (o3 : (ol, W.listOf #[.ref ot] no) ∈ news) (o4 : (ot, tupO #[.int 1 u1, .int 1 u2]) ∈ news)
    (e1 : (e, instObj 314 de) ∈ news) (e2 : (de, callD w (.ref li) (.ref lt) c0 c1 c2 c3 c4 c5) ∈ news) (e3 : (lt, W.listOf #[.none, .none, .none] 0) ∈ news) (e4 : (li, W.listOf #[.ref sy, .ref x, .ref y] 0) ∈ news) (e5 : (sy, instObj 292 sd) ∈ news) (e6 : (sd, symD w (.str (Str.ofString "^") kn) j0 j1 j2 j3) ∈ news)
    (m1 : (x, instObj 271 dx) ∈ news) (m2 : (dx, vecD w (.str (Str.ofString "double") kx) (.ref lx) .none shx lox kx1 kx2 kx3 kx4 kx5) ∈ news) (m3 : (lx, W.listOf #[.ref tx] nx) ∈ news) (m0 : (tx, tupO #[.int b t1, .int 1 t2]) ∈ news)
    (m4 : (y, instObj 271 dy) ∈ news) (m5 : (dy, vecD w (.str kdy ky) (.ref ly) .none shy loy ky1 ky2 ky3 ky4 ky5) ∈ news) (m6 : (ly, W.listOf #[ity] ny) ∈ news) (hi : ItemAt news kdy ity n)
    (hb : -4 ≤ b) (hb' : b ≤ 9) (hb0 : b ≠ 0)
    (big : 100 < n.natAbs → ∀ {h' : Heap} {tk' t : Nat}, Fr h₀ L h' m → News h₀ L h' ((t, tupO #[.bool false, .none]) :: news) → Q (.ref t) { s with heap := h', toks := tk' })
    (post : n.natAbs ≤ 100 → ∀ {h' : Heap} {tk' : Nat} {q z d l n' t : Nat} {j1 j2 j3 j4 j5 j6 j7 j8 : Tok}, Fr h₀ L h' m → News h₀ L h' ((q, tupO #[.bool true, .ref z]) :: (z, instObj 271 d) :: (d, vecD w (.str (Str.ofString "double") j6) (.ref l) .none (.bool true) (.bool false) j1 j2 j3 j4 j5) :: (l, W.listOf #[.ref t] n') :: (t, tupO #[.int (pnum b n + pden b n) j7, .int (pden b n) j8]) :: news) → Q (.ref q) { s with heap := h', toks := tk' }) :
    wpAny (MD w) (AR dp u env outer gs) (call (.ref 777) [.ref e0, .ref sf, .ref rm, .int dk td]) Q E s := by
  obtain ⟨⟨A₀, base, mean, mg, mb, B, T⟩, F, X, N, hf, hke, hdp, hu⟩ := C
  walk_at "mine start"
  k_steps
  all_goals first
    | exact big (by assumption) (by assumption) (News.sub (by assumption) (by walk_at "mine sub"))
    | exact post (by assumption) (by assumption) (News.sub (by assumption) (by walk_at "mine sub"))
    | (exfalso; omega)
    | w_report
theorem reg41 : True := by
  k_with "mine cx" => exact ⟨⟨_, _, _, _, _, by k_asm, by k_asm⟩, by k_asm, by k_in, by k_asm, by first | assumption | exact rfl, by first | assumption | exact rfl, by first | ((try dsimp only [AR]); omega) | ((try simp only [depth_deeper, depth_caller, AR]); omega) | decide, by first | ((try dsimp only [AR]); omega) | ((try simp only [units_deeper, units_caller, AR]); omega) | decide⟩
  trivial
theorem safe_spec {w : World} {dp u : Nat} {env : Env} {outer : List Env} {gs : Option (List Code)} {E : Value → Shared → Prop} {s : Shared} {h₀ : Heap} {L : Addr} {m : Str → Option Value} {news : List (Addr × Obj)}
    (C : Cx 400 w env outer dp u s.heap h₀ L m news) {Q : Value → Shared → Prop}
    (post : ∀ {h' : Heap} {tk' sf : Nat} {vs : Array Value}, Fr h₀ L h' m → News h₀ L h' ((sf, tupO vs) :: news) → SafeAt [(sf, tupO vs)] sf → AllLt sf news → Q (.ref sf) { s with heap := h', toks := tk' }) :
    wpAny (MD w) (AR dp u env outer gs) (call (.ref 721) []) Q E s := by
  obtain ⟨⟨A₀, base, mean, mg, mb, B, T⟩, F, X, N, hf, hke, hdp, hu⟩ := C
  walk_at "mine start"
  k_steps
  all_goals first
    | exact post (by assumption) (News.sub (by assumption) (by walk_at "mine sub")) ⟨_, _, .head _, by repeat constructor, by decide, by decide⟩ (by walk_at "mine lt")
    | (trace_state; w_report)
theorem reg42 : True := by
  k_with "call ref" => (k_here; (with_reducible show wpAny _ _ (call (Value.ref 721) _ _) _ _ _); k_dflt (refine' safe_spec ?zqC ?_; (case zqC => walk_at "mine cx"); k_whole; intro h' tk' sf vs F' N' hsf l1; (try simp only [AllLt, and_true] at l1); (try k_sweep)))
  k_with "call ref" => (k_here; (with_reducible show wpAny _ _ (call (Value.ref 777) _ _) _ _ _); k_dflt (refine' fold_add ?zqC ?zqhrm ?zqhrk ?zqhrkk ?zqhdk ?zqhdkk ?zqms ?zqf1 ?zqf2 ?zqf3 ?zqf4 ?zqf5 ?zqf6 ?zqo1 ?zqo2 ?zqo3 ?zqo4 ?zqe1 ?zqe2 ?zqe3 ?zqe4 ?zqe5 ?zqe6 ?zqm1 ?zqm2 ?zqm3 ?zqm0 ?zqm4 ?zqm5 ?zqm6 ?zqhi ?zqa ?zqb ?zqc ?_ ?_; (case zqC => walk_at "mine cx"); (case zqf1 => k_mem); (case zqf2 => k_mem); (case zqf3 => k_mem); (case zqf4 => k_mem); (case zqf5 => k_mem); (case zqf6 => k_mem); (case zqe1 => k_mem); (case zqe2 => k_mem); (case zqe3 => k_mem); (case zqe4 => k_mem); (case zqe5 => k_mem); (case zqe6 => k_mem); (case zqo1 => k_mem); (case zqo2 => k_mem); (case zqo3 => k_mem); (case zqo4 => k_mem); (case zqm1 => k_mem); (case zqm2 => k_mem); (case zqm3 => k_mem); (case zqm0 => k_mem); (case zqm4 => k_mem); (case zqm5 => k_mem); (case zqm6 => k_mem); (case zqhi => walk_at "mine item"); (case zqhrm => k_all); (case zqhrk => omega); (case zqhrkk => omega); (case zqhdk => omega); (case zqhdkk => omega); (case zqms => walk_at "mine safe"); (case zqa => omega); (case zqb => omega); (case zqc => omega); (all_goals first | (intro hgr h' tk' t F' N'; (try k_sweep); done) | (intro hgr h' tk' q z d l n' t j1 j2 j3 j4 j5 j6 j7 j8 F' N'; (try k_sweep)) | (intro hgr h' tk' t F' N'; (try k_sweep)))))
  trivial
theorem slice4 (a b c d : Value) (rest : List Value) : kms_pick (a :: b :: c :: d :: rest) none (some 4) = [a, b, c, d] := by
  unfold kms_pick kms_lo kms_hi
  have : min 4 (rest.length + 1 + 1 + 1 + 1) = 4 := by omega
  simp [this]
theorem slice3 (l : List Value) (h : l.length ≤ 3) : kms_pick l none (some 4) = l := by
  unfold kms_pick kms_lo kms_hi
  have : min 4 l.length = l.length := by omega
  simp [this]
theorem vs_cases {vs : List Value} {ns : List Int} (h : IntsAre vs ns) : vs = [] ∨ (∃ a t, vs = [.int a t]) ∨ (∃ a t b u, vs = [.int a t, .int b u]) ∨ (∃ a t b u c v, vs = [.int a t, .int b u, .int c v]) ∨ (∃ a t b u c v d x r, vs = .int a t :: .int b u :: .int c v :: .int d x :: r) := by
  rcases h with _ | ⟨a, t, h⟩
  · exact .inl rfl
  rcases h with _ | ⟨b, u, h⟩
  · exact .inr (.inl ⟨_, _, rfl⟩)
  rcases h with _ | ⟨c, v, h⟩
  · exact .inr (.inr (.inl ⟨_, _, _, _, rfl⟩))
  rcases h with _ | ⟨d, x, h⟩
  · exact .inr (.inr (.inr (.inl ⟨_, _, _, _, _, _, rfl⟩)))
  · exact .inr (.inr (.inr (.inr ⟨_, _, _, _, _, _, _, _, _, rfl⟩)))
/-- what stands behind the first statement -/
def Mid1 (h₀ : Heap) (L : Addr) (m : Str → Option Value) (s : Shared) (f : Flow) (s' : Shared) : Prop :=
  f = .next ∧ ∃ (h' : Heap) (tk' D n : Nat) (c0 c1 c2 c3 : Int) (t0 t1 t2 t3 : Tok) (rest : List Value), s' = { s with heap := h', toks := tk' } ∧ Fr h₀ L h' (fun y => if y = Str.ofString "cells" then some (.ref D) else m y) ∧
    News h₀ L h' [(D, W.listOf (Value.int c0 t0 :: Value.int c1 t1 :: Value.int c2 t2 :: Value.int c3 t3 :: rest).toArray n)]
theorem mid1 {M : Model} {A : Around} {t : Sem Flow} {Q : Flow → Shared → Prop} {E : Value → Shared → Prop} {s : Shared} {h₀ : Heap} {L : Addr} {m : Str → Option Value} (F : Fr h₀ L s.heap m) (h1 : wpAny M A t (Mid1 h₀ L m s) E s)
    (h2 : ∀ {h' : Heap} {tk' D n : Nat} {c0 c1 c2 c3 : Int} {t0 t1 t2 t3 : Tok} {rest : List Value}, Fr h₀ L h' (fun y => if y = Str.ofString "cells" then some (.ref D) else m y) →
      News h₀ L h' [(D, W.listOf (Value.int c0 t0 :: Value.int c1 t1 :: Value.int c2 t2 :: Value.int c3 t3 :: rest).toArray n)] → Q .next { s with heap := h', toks := tk' }) : wpAny M A t Q E s :=
  wpAny_mono h1 (fun f s' ⟨e, h', tk', D, n, c0, c1, c2, c3, t0, t1, t2, t3, rest, e', F', N'⟩ => by subst e; subst e'; exact h2 F' N') fun _ _ e => e
theorem mid1_end {h₀ : Heap} {L : Addr} {m : Str → Option Value} {s : Shared} {h' : Heap} {tk' D n : Nat} {c0 c1 c2 c3 : Int} {t0 t1 t2 t3 : Tok} {rest : List Value} {news : List (Addr × Obj)} (F : Fr h₀ L h' (fun y => if y = Str.ofString "cells" then some (.ref D) else m y)) (N : News h₀ L h' news)
    (hm : (D, W.listOf (Value.int c0 t0 :: Value.int c1 t1 :: Value.int c2 t2 :: Value.int c3 t3 :: rest).toArray n) ∈ news) : Mid1 h₀ L m s .next { s with heap := h', toks := tk' } :=
  ⟨rfl, h', tk', D, n, c0, c1, c2, c3, t0, t1, t2, t3, rest, rfl, F, fun p hp => by obtain rfl := List.mem_singleton.mp hp; exact N _ hm⟩
theorem reg43 : True := by
  k_with "subscriptTail Name Slice ref ref" => (k_here; (with_reducible show wpAny _ _ (subscriptTail _ (PySem.Expr.Slice _ _ none _) (Value.ref _) (Value.ref _)) _ _ _); k_dflt (refine' kms_slice_lit ?zqF ?zqN ?zql ?zqp ?zqq ?zqe ?_ ?zqs ?zqt ?zqz; (case zqF => k_asm); (case zqN => k_asm); (case zql => kmk_list); (case zqp => kmk_part); (case zqq => kmk_part); (case zqe => first | exact slice4 _ _ _ _ _ | exact slice3 _ (by decide) | exact slice3 _ (Nat.le_of_ble_eq_true rfl) | kl_lit); (case zqs => with_unfolding_all rfl); (case zqt => kmk_pure); (case zqz => kmk_size)); intro D' h' F' N' l1; (try k_lt l1); (try k_sweep))
  trivial
theorem fmod261 (c : Int) : 0 ≤ c.fmod 261 ∧ c.fmod 261 < 261 := ⟨Int.fmod_nonneg_of_pos _ (by decide), Int.fmod_lt_of_pos _ (by decide)⟩
theorem menu_item {prog : Program} {w : World} {A : Around} {E : Value → Shared → Prop} {s : Shared} {h₀ : Heap} {L : Addr} {news : List (Addr × Obj)} {value slice : PySem.Expr} {l n : Nat} {c : Int} {u k1 k2 k3 k4 k5 k6 k7 k8 k9 : Tok} {Q : Value → Shared → Prop}
    (N : News h₀ L s.heap news) (hm : (l, W.listOf #[.int (-4) k1, .int (-3) k2, .int (-2) k3, .int (-1) k4, .int 1 k5, .int 2 k6, .int 3 k7, .int 5 k8, .int 9 k9] n) ∈ news)
    (h : ∀ b tk, -4 ≤ b → b ≤ 9 → b ≠ 0 → Q (.int b tk) s)
    (hs : ∀ k, subscripted slice false (.ref l) (.int k u) = operate [.ref l, .int k u] (getItem (.ref l) (.int k u)) := by intro _; with_unfolding_all rfl) :
    wpAny (model prog w) A (subscriptTail value slice (.ref l) (.int (Int.fmod c 9) u)) Q E s := by
  have h0 := Int.fmod_nonneg_of_pos c (show (0 : Int) < 9 by decide)
  have h1 := Int.fmod_lt_of_pos c (show (0 : Int) < 9 by decide)
  generalize Int.fmod c 9 = k at *
  have hk : k = 0 ∨ k = 1 ∨ k = 2 ∨ k = 3 ∨ k = 4 ∨ k = 5 ∨ k = 6 ∨ k = 7 ∨ k = 8 := by omega
  rcases hk with rfl | rfl | rfl | rfl | rfl | rfl | rfl | rfl | rfl <;>
    exact my_item (vs := [.int (-4) k1, .int (-3) k2, .int (-2) k3, .int (-1) k4, .int 1 k5, .int 2 k6, .int 3 k7, .int 5 k8, .int 9 k9]) N hm (by decide) (by decide) rfl (h _ _ (by decide) (by decide) (by decide)) (hs _)
theorem reg44 : True := by
  k_with "subscriptTail" => (k_here; (with_reducible show wpAny _ _ (subscriptTail _ _ (Value.ref _) (Value.int (Int.fmod _ 9) _)) _ _ _); k_dflt (refine' menu_item ?zqN ?zqm ?_ ?zqhs; (case zqN => k_asm); (case zqm => k_mem); (case zqhs => intro _; with_unfolding_all rfl); k_whole; intro b tb hb1 hb2 hb0))
  trivial
/-- what stands behind side = .. -/
def Mid4 (w : World) (h₀ : Heap) (L : Addr) (m : Str → Option Value) (led : List (Addr × Obj)) (n : Int) (s : Shared) (f : Flow) (s' : Shared) : Prop :=
  f = .next ∧ ∃ (h' : Heap) (tk' x d l nn : Nat) (kd : Str) (it : Value) (k k1 k2 k3 k4 k5 : Tok) (news : List (Addr × Obj)), s' = { s with heap := h', toks := tk' } ∧ Fr h₀ L h' (fun y => if y = Str.ofString "side" then some (.ref x) else m y) ∧ News h₀ L h' news ∧
    (∀ p ∈ led, p ∈ news) ∧ (x, instObj 271 d) ∈ news ∧ (d, vecD w (.str kd k) (.ref l) .none (.bool false) (.bool false) k1 k2 k3 k4 k5) ∈ news ∧ (l, W.listOf #[it] nn) ∈ news ∧ ItemAt news kd it n
theorem mid4 {M : Model} {A : Around} {t : Sem Flow} {Q : Flow → Shared → Prop} {E : Value → Shared → Prop} {s : Shared} {h₀ : Heap} {L : Addr} {m : Str → Option Value} {led : List (Addr × Obj)} (w : World) (n : Int) (F : Fr h₀ L s.heap m) (N : News h₀ L s.heap led) (h1 : wpAny M A t (Mid4 w h₀ L m led n s) E s)
    (h2 : ∀ {h' : Heap} {tk' x d l nn : Nat} {kd : Str} {it : Value} {k k1 k2 k3 k4 k5 : Tok} {news : List (Addr × Obj)}, Fr h₀ L h' (fun y => if y = Str.ofString "side" then some (.ref x) else m y) → News h₀ L h' news →
      (∀ p ∈ led, p ∈ news) → (x, instObj 271 d) ∈ news → (d, vecD w (.str kd k) (.ref l) .none (.bool false) (.bool false) k1 k2 k3 k4 k5) ∈ news → (l, W.listOf #[it] nn) ∈ news → ItemAt news kd it n → Q .next { s with heap := h', toks := tk' }) : wpAny M A t Q E s :=
  wpAny_mono h1 (fun f s' ⟨e, h', tk', x, d, l, nn, kd, it, k, k1, k2, k3, k4, k5, news, e', F', N', a, b, c, d', i⟩ => by subst e; subst e'; exact h2 F' N' a b c d' i) fun _ _ e => e
theorem mid4_end {w : World} {h₀ : Heap} {L : Addr} {m : Str → Option Value} {led : List (Addr × Obj)} {n : Int} {s : Shared} {h' : Heap} {tk' x d l nn : Nat} {kd : Str} {it : Value} {k k1 k2 k3 k4 k5 : Tok} {news : List (Addr × Obj)} (F : Fr h₀ L h' (fun y => if y = Str.ofString "side" then some (.ref x) else m y)) (N : News h₀ L h' news)
    (a : ∀ p ∈ led, p ∈ news) (b : (x, instObj 271 d) ∈ news) (c : (d, vecD w (.str kd k) (.ref l) .none (.bool false) (.bool false) k1 k2 k3 k4 k5) ∈ news) (e : (l, W.listOf #[it] nn) ∈ news) (i : ItemAt news kd it n) : Mid4 w h₀ L m led n s .next { s with heap := h', toks := tk' } :=
  ⟨rfl, h', tk', x, d, l, nn, kd, it, k, k1, k2, k3, k4, k5, news, rfl, F, N, a, b, c, e, i⟩
/-- what stands behind due = .. -/
def Mid7 (h₀ : Heap) (L : Addr) (m : Str → Option Value) (led : List (Addr × Obj)) (P D : Int) (s : Shared) (f : Flow) (s' : Shared) : Prop :=
  f = .next ∧ ∃ (h' : Heap) (tk' td : Nat) (k1 k2 : Tok), s' = { s with heap := h', toks := tk' } ∧ Fr h₀ L h' (fun y => if y = Str.ofString "due" then some (.ref td) else m y) ∧ News h₀ L h' ((td, tupO #[.int P k1, .int D k2]) :: led) ∧ AllLt td led
theorem mid7 {M : Model} {A : Around} {t : Sem Flow} {Q : Flow → Shared → Prop} {E : Value → Shared → Prop} {s : Shared} {h₀ : Heap} {L : Addr} {m : Str → Option Value} {led : List (Addr × Obj)} {v b n : Int} (hv : v = b ^ (if n < 0 then -n else n).toNat) (F : Fr h₀ L s.heap m) (N : News h₀ L s.heap led) (h1 : wpAny M A t (Mid7 h₀ L m led (pnum b n) (pden b n) s) E s)
    (h2 : ∀ {h' : Heap} {tk' td : Nat} {k1 k2 : Tok}, Fr h₀ L h' (fun y => if y = Str.ofString "due" then some (.ref td) else m y) → News h₀ L h' ((td, tupO #[.int (pnum b n) k1, .int (pden b n) k2]) :: led) → AllLt td led → Q .next { s with heap := h', toks := tk' }) : wpAny M A t Q E s :=
  wpAny_mono h1 (fun f s' ⟨e, h', tk', td, k1, k2, e', F', N', a⟩ => by subst e; subst e'; exact h2 F' N' a) fun _ _ e => e
theorem mid7_end {h₀ : Heap} {L : Addr} {m : Str → Option Value} {led : List (Addr × Obj)} {P D P' D' : Int} {s : Shared} {h' : Heap} {tk' td : Nat} {k1 k2 : Tok} (F : Fr h₀ L h' (fun y => if y = Str.ofString "due" then some (.ref td) else m y)) (N : News h₀ L h' ((td, tupO #[.int P' k1, .int D' k2]) :: led)) (a : AllLt td led)
    (h : P = P' ∧ D = D') : Mid7 h₀ L m led P D s .next { s with heap := h', toks := tk' } := by
  obtain ⟨rfl, rfl⟩ := h
  exact ⟨rfl, h', tk', td, k1, k2, rfl, F, N, a⟩
theorem due1 {b n v : Int} (hn : 0 ≤ n) (h : v = b ^ (if n < 0 then -n else n).toNat) : pnum b n = v ∧ pden b n = 1 := by
  rw [if_neg (by omega)] at h
  unfold pnum pden; simp only [if_pos hn, h]; exact ⟨trivial, trivial⟩
theorem due2 {b n v : Int} (hn : n < 0) (hv : 0 < v) (h : v = b ^ (if n < 0 then -n else n).toNat) : pnum b n = 1 ∧ pden b n = v := by
  rw [if_pos hn] at h
  unfold pnum pden; simp only [if_neg (show ¬ 0 ≤ n by omega), ← h, if_pos hv]; exact ⟨trivial, trivial⟩
theorem due3 {b n v : Int} (hn : n < 0) (hv : ¬ 0 < v) (h : v = b ^ (if n < 0 then -n else n).toNat) : pnum b n = -1 ∧ pden b n = -v := by
  rw [if_pos hn] at h
  unfold pnum pden; simp only [if_neg (show ¬ 0 ≤ n by omega), ← h, if_neg hv]; exact ⟨trivial, trivial⟩
theorem zero_den {b n : Int} (hb0 : b ≠ 0) (h : pnum b n + pden b n = 0) : 1 = pden b n := by
  have h1 := gcd_pow (n := n) hb0
  have h2 := pden_pos (n := n) hb0
  rw [h] at h1
  simp only [Int.lt_irrefl, if_false, Int.gcd_zero_left] at h1
  omega
theorem eq_final {prog : Program} {w : World} {A : Around} {E : Value → Shared → Prop} {s : Shared} {h₀ : Heap} {L : Addr} {news : List (Addr × Obj)} {a b l l2 r td n n2 : Nat} {P D P' D' : Int} {k1 k2 : Tok} {Q : Value → Shared → Prop}
    (N : News h₀ L s.heap news) (hA : (a, tupO #[.str (Str.ofString "double") k1, .ref l]) ∈ news) (hl : (l, W.listOf #[.ref r] n) ∈ news) (hr : TupH s.heap r P D) (hB : (b, tupO #[.str (Str.ofString "double") k2, .ref l2]) ∈ news) (hl2 : (l2, W.listOf #[.ref td] n2) ∈ news) (ht : TupH s.heap td P' D')
    (hP : P' = P) (hD : D' = D) (hu : A.units + 64 < cLine) (h : Q (.bool true) s) : wpAny (model prog w) A (compareOp .Eq (.ref a) (.ref b)) Q E s := by
  subst hP; subst hD
  obtain ⟨_, r1⟩ := hr.reads
  obtain ⟨_, r2⟩ := ht.reads
  have q1 := reads_tuple_at (News.get N hA) rfl rfl (.cons (.str _ _) (.cons (reads_list_at (News.get N hl) rfl rfl (.cons r1 .nil)) .nil))
  have q2 := reads_tuple_at (News.get N hB) rfl rfl (.cons (.str _ _) (.cons (reads_list_at (News.get N hl2) rfl rfl (.cons r2 .nil)) .nil))
  have eo : PyData.strOk (Str.ofString "double") = true := by decide +kernel
  have es : SeqAt.shaped (.tuple [.str (Str.ofString "double"), .list [.tuple [.int P', .int D']]]) = true := by
    simp [SeqAt.shaped, PyData.canLay0, PyData.canLayAll0, PyData.depth, PyData.depthAll, eo]
  refine eq_dataH q1 q2 es es hu ?_
  have e : PyData.eqv (.tuple [.str (Str.ofString "double"), .list [.tuple [.int P', .int D']]]) (.tuple [.str (Str.ofString "double"), .list [.tuple [.int P', .int D']]]) = true := by
    simp [PyData.eqv, PyData.eqvAll]
  rw [e]; exact h
theorem reg45 : True := by
  k_with "mine tup" => first | exact ⟨_, _, News.isTup (by k_asm) (by k_mem)⟩ | (refine' TupAt.tup ?zqT ?zqF ?zqN ?zqX; (case zqF => k_asm); (case zqN => k_asm); (case zqX => k_asm); (case zqT => walk_at "mine tupat"))
  k_with "mine units" => first | (simp only [units_deeper, units_in1, units_caller, cLine_is]; omega) | (simp only [units_deeper, units_in1, cLine_is, AR]; omega) | decide
  k_with "compareOp Eq ref ref" => (k_here; (with_reducible show wpAny _ _ (compareOp CmpOp.Eq (Value.ref _) (Value.ref _)) _ _ _); k_dflt (refine' eq_final ?zqN ?zqhA ?zqhl ?zqhr ?zqhB ?zqhl2 ?zqht ?zqhP ?zqhD ?zqhu ?_; (case zqN => k_asm); (case zqhA => k_mem); (case zqhl => k_mem); (case zqhr => walk_at "mine tup"); (case zqhB => k_mem); (case zqhl2 => k_mem); (case zqht => walk_at "mine tup"); (case zqhP => first | exact rfl | omega); (case zqhD => first | exact rfl | exact zero_den (by assumption) (by omega)); (case zqhu => walk_at "mine units"); k_whole))
  trivial
set_option maxHeartbeats 8000000 in
theorem the_law : PySem.Challenge.rw_qd0177_01.Holds := by
  w_on
  refine hd said left (by rfl) (by rfl) (by rfl) ?_
  (have hK : K = K ∧ PySem.Challenge.rw_qd0177_01 = PySem.Challenge.rw_qd0177_01 := by (k_fill; exact ⟨rfl, rfl⟩))
  clear hK
  w_strict (k_go0; (all_goals try k_fold); (try dsimp only))
  walk1
  (rename Fr _ _ _ _ => F0)
  dsimp only at F0
  refine mid1 F0 ?ha ?hb
  case ha =>
    (rename IntsAre _ _ => hI0)
    rcases vs_cases hI0 with rfl | ⟨a, t, rfl⟩ | ⟨a, t, b, u, rfl⟩ | ⟨a, t, b, u, c, v, rfl⟩ | ⟨a, t, b, u, c, v, d, x, r, rfl⟩
    all_goals k_steps
    all_goals exact mid1_end (by assumption) (by assumption) (.head _)
  case hb =>
    clear F0
    (rename News _ _ _ [] => N00)
    clear N00
    intro h1 tk1 D n0 c0 c1 c2 c3 t0 t1 t2 t3 rest F1 N1
    have hf1 := fmod261 c1
    dsimp only
    iterate 80 (first | ((fail_if_success (with_reducible show wpAny _ _ (exec (Stmt.Assign [Expr.Name (Str.ofString "side") _] _ _) _) _ _ _)); first | (k_unfold; (try dsimp only)) | walk1 | (dsimp only; walk1)) | skip)
    (rename Fr _ _ _ _ => F2)
    (rename News _ _ _ _ => N2)
    (rename World => w)
    generalize hn : Int.fmod c1 261 - 130 = n at F2
    have hn1 : -130 ≤ n := by omega
    have hn2 : n ≤ 130 := by omega
    clear hn hf1
    dsimp only at F2 N2
    refine mid4 w n F2 N2 ?ha ?hb
    case ha =>
      k_steps
      all_goals exact mid4_end (by assumption) (by assumption) (by kcf_all) (by k_mem) (by k_mem) (by k_mem) (by walk_at "mine item")
    case hb =>
      clear F2 N2
      intro h4 tk4 x d l nn kd it k k1 k2 k3 k4 k5 news F4 N4 hsub i1 i2 i3 hi
      have iD := hsub _ (.tail _ (.head _))
      clear hsub
      dsimp only
      iterate 200 (first | ((fail_if_success (with_reducible show wpAny _ _ (exec (Stmt.Assign [Expr.Name (Str.ofString "due") _] _ _) _) _ _ _)); first | (k_unfold; (try dsimp only)) | walk1 | (dsimp only; walk1)) | skip)
      (rename Fr _ _ _ _ => F5)
      (rename News _ _ _ _ => N5)
      (rename (_ : Int) = _ ^ _ => hv)
      dsimp only at F5 N5
      refine mid7 hv F5 N5 ?ha ?hb
      case ha =>
        k_steps
        all_goals first
          | exact mid7_end (by assumption) (by assumption) (by first | assumption | exact allLt_of (by assumption)) (due1 (by omega) hv)
          | exact mid7_end (by assumption) (by assumption) (by first | assumption | exact allLt_of (by assumption)) (due2 (by omega) (by omega) hv)
          | exact mid7_end (by assumption) (by assumption) (by first | assumption | exact allLt_of (by assumption)) (due3 (by omega) (by omega) hv)
          | w_report
      case hb =>
        clear F5 N5
        intro h7 tk7 td j1 j2 F7 N7 l7
        (try simp only [AllLt, and_true] at l7)
        dsimp only
        k_steps
        all_goals w_report
end Mine
theorem PySem.Challenge.cw_qd0177_01_holds : PySem.Challenge.rw_qd0177_01.Holds := by
  exact Mine.the_law
