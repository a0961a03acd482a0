import PyProof.Rows.All
import Wide.All
import OpenK.AllK
import Wide.FinOn
import PySem.Challenge.RW_pq1419_01
open PySem PySem.W PyProof.Rows PySem.Calls
set_option Elab.async false
set_option maxRecDepth 100000
set_option maxHeartbeats 0
set_option linter.unusedVariables false
set_option linter.unusedSimpArgs false
set_option compiler.extract_closed false
set_option rowWalk.seconds 0
namespace Mine

/-! The head closed by the kernel at once: o_head's own words, the view written by its places. -/
/-! The head closed by the kernel at once: o_head's own words, the view written by its places. -/
/-! The head's run over a tree of objects, checked by the kernel at once. -/
section
variable {tb : String → Option Builtin} {p : Program} {w : World} {n₀ : Nat} {ann : Option Value}
noncomputable def topRunT (tb : String → Option Builtin) (p : Program) (w : World) (n₀ : Nat) (ann : Option Value) : Nat → SharedT → Thread → Option SharedT
  | 0, _, _ => none
  | n + 1, s, t => match through t with
    | true => some s
    | false => match stepOk n₀ ann t with
      | false => none
      | true => match stepT (denote tb) p w s t with
        | some (s', t') => topRunT tb p w n₀ ann n s' t'
        | none => none
theorem topRunT_of : ∀ {n : Nat} {s s' : SharedT} {t : Thread}, topRunT tb p w n₀ ann n s t = some s' → topRun tb p w n₀ ann n s.abs t = some s'.abs
  | 0, _, _, _, h => by cases h
  | n + 1, s, s', t, h => by
    unfold topRunT at h
    unfold topRun
    cases he : through t with
    | true => rw [he] at h; cases h; rfl
    | false =>
      rw [he] at h
      cases hk : stepOk n₀ ann t with
      | false => rw [hk] at h; cases h
      | true =>
        rw [hk] at h
        cases hs : stepT (denote tb) p w s t with
        | none => rw [hs] at h; cases h
        | some r => obtain ⟨s₂, t₂⟩ := r; rw [hs] at h; rw [stepT_spec hs]; exact topRunT_of h
end
noncomputable def bootTree (l : List Obj) : BT := (l.foldl (fun (x : BT × Nat) o => (x.1.ins x.2 o, x.2 + 1)) (BT.nil, 0)).1
noncomputable def bootT (w : World) (os : OsState) : SharedT := ⟨bootTree (boot_heap w.params).objs.toList, (boot_heap w.params).objs.size, (boot_heap w.params).life, #[], boot_drawn, boot_toks, os⟩
abbrev S (x : String) : PySem.Str := PySem.Str.ofString x
/-! What the program's top leaves, object by object; the texts of its defs by their place. -/
abbrev en (P : Params) (k : String) (t : Tok) (v : Value) : DictEntry := { hash := PyData.keyHash P (Str.ofString k), key := .str (Str.ofString k) t, val := v }
def fdef1 : Stmt → List (Arguments × List Stmt × Scope)
  | .FunctionDef _ a b _ _ _ sc _ _ _ => [(a, b, sc)]
  | .ClassDef _ _ _ body _ _ _ _ _ _ _ => body.filterMap fun | .FunctionDef _ a b _ _ _ sc _ _ _ => some (a, b, sc) | _ => none
  | _ => []
def fnN (k : Nat) : Arguments × List Stmt × Scope := ((PySem.Challenge.pw_pq1419_01.main.body.flatMap fdef1)[k]?).getD default
def fnA (k : Nat) : Arguments := (fnN k).1
def fnB (k : Nat) : List Stmt := (fnN k).2.1
def fnC (k : Nat) : Scope := (fnN k).2.2
noncomputable def fo_0 (P : Params) : Obj := boot_o_0 P
noncomputable def fo_1 (P : Params) : Obj := boot_o_1 P
noncomputable def fo_2 (P : Params) : Obj := { cls := .none, data := .dict #[(en P "type.__subclasses__.Exception.0" 230 (.int 45 0)), (en P "type.__subclasses__.Exception.n" 231 (.int 1 0))] 2 }
noncomputable def fo_3 (P : Params) : Obj := { cls := .type "dict", data := .dict #[(en P "__name__" 165 (.str (S "law_pq1419_01") 1058)), (en P "__doc__" 166 (.none)), (en P "__package__" 167 (.none)), (en P "__loader__" 168 (.builtin "__main__.__loader__#opaque")), (en P "__spec__" 169 (.none)), (en P "__annotations__" 170 (.ref 6)), (en P "__builtins__" 171 (.ref 4)), (en P "__file__" 173 (.str (S "/claim/cut.py") 172)), (en P "__cached__" 174 (.none)), (en P "_wall" 193 (.ref 21)), (en P "recycle_length" 203 (.ref 28)), (en P "keep_all" 211 (.ref 35)), (en P "CoveError" 233 (.ref 45)), (en P "Refusal" 258 (.ref 65)), (en P "Vector" 302 (.ref 92)), (en P "Environment" 339 (.ref 114)), (en P "Matching" 424 (.ref 175)), (en P "doubled_text" 431 (.ref 186)), (en P "argument_text" 443 (.ref 193)), (en P "plain_text" 451 (.ref 200)), (en P "unused_text" 457 (.ref 205)), (en P "match_names" 463 (.ref 211)), (en P "needed" 471 (.ref 218)), (en P "take" 477 (.ref 224)), (en P "NAN" 482 (.ref 225)), (en P "INF" 485 (.ref 226)), (en P "ZERO" 488 (.ref 227)), (en P "ONE" 491 (.ref 228)), (en P "MOST_FIGURES" 493 (.int 5000 492)), (en P "MOST_PART" 496 (.int 100000000000000000000000000000000000000000000000000000000000000000000000000000000000000000000000000000000000000000000000000000000000000000000000000000000000000000000000000000000000000000000000000000000000000000000000000000000000000000000000000000000000000000000000000000000000000000000000000000000000000000000000000000000000000000000000000000000000000000000000000000000000000000000000000000000000000000000000000000000000000000000000000000000000000000000000000000000000000000000000000000000000000000000000000000000000000000000000000000000000000000000000000000000000000000000000000000000000000000000000000000000000000000000000000000000000000000000000000000000000000000000000000000000000000000000000000000000000000000000000000000000000000000000000000000000000000000000000000000000000000000000000000000000000000000000000000000000000000000000000000000000000000000000000000000000000000000000000000000000000000000000000000000000000000000000000000000000000000000000000000000000000000000000000000000000000000000000000000000000000000000000000000000000000000000000000000000000000000000000000000000000000000000000000000000000000000000000000000000000000000000000000000000000000000000000000000000000000000000000000000000000000000000000000000000000000000000000000000000000000000000000000000000000000000000000000000000000000000000000000000000000000000000000000000000000000000000000000000000000000000000000000000000000000000000000000000000000000000000000000000000000000000000000000000000000000000000000000000000000000000000000000000000000000000000000000000000000000000000000000000000000000000000000000000000000000000000000000000000000000000000000000000000000000000000000000000000000000000000000000000000000000000000000000000000000000000000000000000000000000000000000000000000000000000000000000000000000000000000000000000000000000000000000000000000000000000000000000000000000000000000000000000000000000000000000000000000000000000000000000000000000000000000000000000000000000000000000000000000000000000000000000000000000000000000000000000000000000000000000000000000000000000000000000000000000000000000000000000000000000000000000000000000000000000000000000000000000000000000000000000000000000000000000000000000000000000000000000000000000000000000000000000000000000000000000000000000000000000000000000000000000000000000000000000000000000000000000000000000000000000000000000000000000000000000000000000000000000000000000000000000000000000000000000000000000000000000000000000000000000000000000000000000000000000000000000000000000000000000000000000000000000000000000000000000000000000000000000000000000000000000000000000000000000000000000000000000000000000000000000000000000000000000000000000000000000000000000000000000000000000000000000000000000000000000000000000000000000000000000000000000000000000000000000000000000000000000000000000000000000000000000000000000000000000000000000000000000000000000000000000000000000000000000000000000000000000000000000000000000000000000000000000000000000000000000000000000000000000000000000000000000000000000000000000000000000000000000000000000000000000000000000000000000000000000000000000000000000000000000000000000000000000000000000000000000000000000000000000000000000000000000000000000000000000000000000000000000000000000000000000000000000000000000000000000000000000000000000000000000000000000000000000000000000000000000000000000000000000000000000000000000000000000000000000000000000000000000000000000000000000000000000000000000000000000000000000000000000000000000000000000000000000000000000000000000000000000000000000000000000000000000000000000000000000000000000000000000000000000000000000000000000000000000000000000000000000000000000000000000000000000000000000000000000000000000000000000000000000000000000000000000000000000000000000000000000000000000000000000000000000000000000000000000000000000000000000000000000000000000000000000000000000000000000000000000000000000000000000000000000000000000000000000000000000000000000000000000000000000000000000000000000000000000000000000000000000000000000000000000000000000000000000000000000000000000000000000000000000000000000000000000000000000000000000000000000000000000000000000000000000000000000000000000000000000000000000000000000000000000000000000000000000000000000000000000000000000000000000000000000000000000000000000000000000000000000000000000000000000000000000000000000000000000000000000000000000000000000000000000000000000000000000000000000000000000000000000000000000000000000000000000000000000000000000000000000000000000000000000000000000000000000000000000000000000000000000000000000000000000000000000000000000000000000000000000000000000000000000000000000000000000000000000000000000000000000000000000000000000000000000000000000000000000000000000000000000000000000000000000000000000000000000000000000000000000000000000000000000000000000000000000000000000000000000000000000000000000000000000000000000000000000000000000000000000000000000000000000000000000000000000000000000000000000000000000000000000000000000000000000000000000000000000000 495)), (en P "gcd" 504 (.ref 235)), (en P "bounded" 512 (.ref 242)), (en P "make" 521 (.ref 249)), (en P "from_int" 528 (.ref 256)), (en P "is_na" 535 (.ref 263)), (en P "is_nan" 542 (.ref 270)), (en P "is_finite" 549 (.ref 277)), (en P "sign" 556 (.ref 284)), (en P "marked" 564 (.ref 291)), (en P "neg" 571 (.ref 298)), (en P "div" 579 (.ref 305)), (en P "isqrt" 588 (.ref 312)), (en P "root" 597 (.ref 319)), (en P "floor" 604 (.ref 326)), (en P "ceiling" 611 (.ref 333)), (en P "trunc" 618 (.ref 340)), (en P "to_whole" 626 (.ref 347)), (en P "compare" 636 (.ref 354)), (en P "MOST_FACTORS" 640 (.int 4096 639)), (en P "check_math" 647 (.ref 361)), (en P "doubles" 653 (.ref 366)), (en P "abs_item" 660 (.ref 373)), (en P "sign_item" 667 (.ref 380)), (en P "exp_item" 674 (.ref 387)), (en P "log_item" 681 (.ref 394)), (en P "log_above" 691 (.ref 401)), (en P "log_to" 699 (.ref 408)), (en P "math_item" 707 (.ref 415)), (en P "math1" 713 (.ref 420)), (en P "finish" 724 (.ref 427)), (en P "log_beside" 735 (.ref 434)), (en P "b_log" 753 (.ref 441)), (en P "kept_beside" 761 (.ref 448)), (en P "Evaluator" 1057 (.ref 654)), (en P "_law_coins" 1070 (.ref 665)), (en P "_law_coin" 1078 (.ref 672)), (en P "_law_power" 1089 (.ref 679)), (en P "_law_entry" 1098 (.ref 686)), (en P "_law_weight" 1105 (.ref 693)), (en P "_law_quotient" 1117 (.ref 700)), (en P "_law_seen" 1123 (.ref 705)), (en P "law" 1129 (.ref 710))] 72 }
noncomputable def fo_4 (P : Params) : Obj := boot_o_4 P
noncomputable def fo_5 (P : Params) : Obj := boot_o_5 P
noncomputable def fo_6 (P : Params) : Obj := boot_o_6 P
noncomputable def fo_7 (P : Params) : Obj := boot_o_7 P
noncomputable def fo_8 (P : Params) : Obj := boot_o_8 P
noncomputable def fo_9 (P : Params) : Obj := boot_o_9 P
noncomputable def fo_10 (P : Params) : Obj := boot_o_10 P
noncomputable def fo_11 (P : Params) : Obj := { cls := .type "tuple", data := .seq #[] }
noncomputable def fo_12 (P : Params) : Obj := { cls := .none, data := .fields #[.int 1 0, .int 0 0, .ref 20, .int 5 0, .int 0 0, .ref 27, .int 9 0, .int 0 0, .ref 34, .int 14 0, .int 0 0, .ref 41, .int 16 0, .int 0 0, .ref 54, .int 21 0, .int 0 0, .ref 73, .int 32 0, .int 0 0, .ref 102, .int 43 0, .int 0 0, .ref 124, .int 96 0, .int 0 0, .ref 185, .int 98 0, .int 0 0, .ref 192, .int 104 0, .int 0 0, .ref 199, .int 119 0, .int 0 0, .ref 204, .int 125 0, .int 0 0, .ref 210, .int 134 0, .int 0 0, .ref 217, .int 138 0, .int 0 0, .ref 223, .int 156 0, .int 0 0, .ref 234, .int 160 0, .int 0 0, .ref 241, .int 164 0, .int 0 0, .ref 248, .int 174 0, .int 0 0, .ref 255, .int 178 0, .int 0 0, .ref 262, .int 180 0, .int 0 0, .ref 269, .int 182 0, .int 0 0, .ref 276, .int 184 0, .int 0 0, .ref 283, .int 190 0, .int 0 0, .ref 290, .int 194 0, .int 0 0, .ref 297, .int 198 0, .int 0 0, .ref 304, .int 206 0, .int 0 0, .ref 311, .int 217 0, .int 0 0, .ref 318, .int 227 0, .int 0 0, .ref 325, .int 231 0, .int 0 0, .ref 332, .int 233 0, .int 0 0, .ref 339, .int 237 0, .int 0 0, .ref 346, .int 242 0, .int 0 0, .ref 353, .int 262 0, .int 0 0, .ref 360, .int 265 0, .int 0 0, .ref 365, .int 269 0, .int 0 0, .ref 372, .int 273 0, .int 0 0, .ref 379, .int 277 0, .int 0 0, .ref 386, .int 285 0, .int 0 0, .ref 393, .int 295 0, .int 0 0, .ref 400, .int 304 0, .int 0 0, .ref 407, .int 316 0, .int 0 0, .ref 414, .int 336 0, .int 0 0, .ref 419, .int 351 0, .int 0 0, .ref 426, .int 356 0, .int 0 0, .ref 433, .int 367 0, .int 0 0, .ref 440, .int 385 0, .int 0 0, .ref 447, .int 390 0, .int 0 0, .ref 454, .int 501 0, .int 0 0, .ref 664, .int 513 0, .int 0 0, .ref 671, .int 517 0, .int 0 0, .ref 678, .int 524 0, .int 0 0, .ref 685, .int 531 0, .int 0 0, .ref 692, .int 541 0, .int 0 0, .ref 699, .int 559 0, .int 0 0, .ref 704, .int 561 0, .int 0 0, .ref 709] }
noncomputable def fo_13 (P : Params) : Obj := { cls := .type "code", data := .fields #[.str (S "<module>") 182, .str (S "<module>") 183, .str (S "/claim/cut.py") 184, .int 1 0, .int 0 0, .int 0 0, .int 0 0, .int 0 0, .ref 11, .bool false, .int 181 0, .ref 12, .none, .none, .none, .none, .int 185 0, .int 1 0, .str (S "/claim/cut.py") 186] }
noncomputable def fo_14 (P : Params) : Obj := { cls := .type "frame", slots := #[some (.ref 13), some (.ref 3), some (.ref 3), none, some (.str (S "__main__") 164), none, some (.ref 0)] }
noncomputable def fo_15 (P : Params) : Obj := { cls := .type "tuple", data := .seq #[] }
noncomputable def fo_16 (P : Params) : Obj := { cls := .none, data := .fields #[] }
noncomputable def fo_17 (P : Params) : Obj := { cls := .type "tuple", data := .seq #[.str (S "k") 190] }
noncomputable def fo_18 (P : Params) : Obj := { cls := .type "tuple", data := .seq #[] }
noncomputable def fo_19 (P : Params) : Obj := { cls := .none, data := .func { name := S "_wall", qualname := S "_wall", params := (fnA 0), body := .stmts (fnB 0), scope := (fnC 0), globals := 0, closure := [], defaults := .none, kwdefaults := .none } }
noncomputable def fo_20 (P : Params) : Obj := { cls := .type "code", data := .fields #[.str (S "_wall") 187, .str (S "_wall") 188, .str (S "/claim/cut.py") 189, .int 1 0, .int 1 0, .int 0 0, .int 0 0, .int 3 0, .ref 15, .bool true, .int 181 0, .ref 16, .none, .ref 17, .ref 18, .ref 19, .int 191 0, .int 1 0, .str (S "/claim/cut.py") 192] }
noncomputable def fo_21 (P : Params) : Obj := { cls := .type "function", data := .func { name := S "_wall", qualname := S "_wall", params := (fnA 0), body := .stmts (fnB 0), scope := (fnC 0), globals := 3, closure := [], defaults := .none, kwdefaults := .none, pyModule := .str (S "__main__") 164, code := .ref 20 } }
noncomputable def fo_22 (P : Params) : Obj := { cls := .type "tuple", data := .seq #[] }
noncomputable def fo_23 (P : Params) : Obj := { cls := .none, data := .fields #[] }
noncomputable def fo_24 (P : Params) : Obj := { cls := .type "tuple", data := .seq #[.str (S "n") 199, .str (S "m") 200] }
noncomputable def fo_25 (P : Params) : Obj := { cls := .type "tuple", data := .seq #[] }
noncomputable def fo_26 (P : Params) : Obj := { cls := .none, data := .func { name := S "recycle_length", qualname := S "recycle_length", params := (fnA 1), body := .stmts (fnB 1), scope := (fnC 1), globals := 0, closure := [], defaults := .none, kwdefaults := .none } }
noncomputable def fo_27 (P : Params) : Obj := { cls := .type "code", data := .fields #[.str (S "recycle_length") 196, .str (S "recycle_length") 197, .str (S "/claim/cut.py") 198, .int 5 0, .int 2 0, .int 0 0, .int 0 0, .int 3 0, .ref 22, .bool true, .int 181 0, .ref 23, .none, .ref 24, .ref 25, .ref 26, .int 201 0, .int 5 0, .str (S "/claim/cut.py") 202] }
noncomputable def fo_28 (P : Params) : Obj := { cls := .type "function", data := .func { name := S "recycle_length", qualname := S "recycle_length", params := (fnA 1), body := .stmts (fnB 1), scope := (fnC 1), globals := 3, closure := [], defaults := .none, kwdefaults := .none, pyModule := .str (S "vectorcove.arith") 194, code := .ref 27 } }
noncomputable def fo_29 (P : Params) : Obj := { cls := .type "tuple", data := .seq #[] }
noncomputable def fo_30 (P : Params) : Obj := { cls := .none, data := .fields #[] }
noncomputable def fo_31 (P : Params) : Obj := { cls := .type "tuple", data := .seq #[.str (S "v") 207, .str (S "result") 208] }
noncomputable def fo_32 (P : Params) : Obj := { cls := .type "tuple", data := .seq #[] }
noncomputable def fo_33 (P : Params) : Obj := { cls := .none, data := .func { name := S "keep_all", qualname := S "keep_all", params := (fnA 2), body := .stmts (fnB 2), scope := (fnC 2), globals := 0, closure := [], defaults := .none, kwdefaults := .none } }
noncomputable def fo_34 (P : Params) : Obj := { cls := .type "code", data := .fields #[.str (S "keep_all") 204, .str (S "keep_all") 205, .str (S "/claim/cut.py") 206, .int 9 0, .int 2 0, .int 0 0, .int 0 0, .int 3 0, .ref 29, .bool true, .int 181 0, .ref 30, .none, .ref 31, .ref 32, .ref 33, .int 209 0, .int 9 0, .str (S "/claim/cut.py") 210] }
noncomputable def fo_35 (P : Params) : Obj := { cls := .type "function", data := .func { name := S "keep_all", qualname := S "keep_all", params := (fnA 2), body := .stmts (fnB 2), scope := (fnC 2), globals := 3, closure := [], defaults := .none, kwdefaults := .none, pyModule := .str (S "vectorcove.arith") 194, code := .ref 34 } }
noncomputable def fo_36 (P : Params) : Obj := { cls := .type "tuple", data := .seq #[.type "Exception"] }
noncomputable def fo_37 (P : Params) : Obj := { cls := .type "builtin_function_or_method", data := .fields #[.builtin "type.__prepare__", .type "type"] }
noncomputable def fo_38 (P : Params) : Obj := { cls := .type "dict", data := .dict #[(en P "__module__" 221 (.str (S "vectorcove.errors") 212)), (en P "__qualname__" 223 (.str (S "CoveError") 222)), (en P "__firstlineno__" 225 (.int 14 224)), (en P "__static_attributes__" 226 (.ref 43))] 4 }
noncomputable def fo_39 (P : Params) : Obj := { cls := .type "tuple", data := .seq #[] }
noncomputable def fo_40 (P : Params) : Obj := { cls := .none, data := .fields #[] }
noncomputable def fo_41 (P : Params) : Obj := { cls := .type "code", data := .fields #[.str (S "CoveError") 216, .str (S "CoveError") 217, .str (S "/claim/cut.py") 218, .int 14 0, .int 0 0, .int 0 0, .int 0 0, .int 0 0, .ref 39, .bool false, .int 181 0, .ref 40, .none, .none, .none, .none, .int 219 0, .int 14 0, .str (S "/claim/cut.py") 220] }
noncomputable def fo_42 (P : Params) : Obj := { cls := .type "frame", slots := #[some (.ref 41), some (.ref 3), some (.ref 38), none, some (.str (S "vectorcove.errors") 212), none, some (.ref 0)] }
noncomputable def fo_43 (P : Params) : Obj := { cls := .type "tuple", data := .seq #[] }
noncomputable def fo_44 (P : Params) : Obj := { cls := .type "dict", data := .dict #[(en P "__module__" 221 (.str (S "vectorcove.errors") 212)), (en P "__firstlineno__" 225 (.int 14 224)), (en P "__static_attributes__" 226 (.ref 43)), (en P "__weakref__" 228 (.ref 46)), (en P "__doc__" 229 (.none))] 3 }
noncomputable def fo_45 (P : Params) : Obj := { cls := .type "type", data := .cls { name := S "CoveError", bases := [.type "Exception"], mro := [.ref 45, .type "Exception", .type "BaseException", .type "object"], ns := 44, qualname := S "CoveError", subclasses := [.ref 65] }, slots := #[some (.ref 36), none, some (.str (S "CoveError") 214), some (.str (S "CoveError") 222), some (.builtin "Exception.__new__"), some (.bool true)] }
noncomputable def fo_46 (P : Params) : Obj := { cls := .type "getset_descriptor", data := .fields #[.str (S "__weakref__") 227, .ref 45, .builtin "ExceptionGroup.__weakref__", .none] }
noncomputable def fo_47 (P : Params) : Obj := { cls := .type "super", data := .fields #[.ref 45, .ref 45, .ref 45] }
noncomputable def fo_48 (P : Params) : Obj := { cls := .type "builtin_function_or_method", data := .fields #[.builtin "object.__init_subclass__", .ref 45] }
noncomputable def fo_49 (P : Params) : Obj := { cls := .type "tuple", data := .seq #[.ref 45] }
noncomputable def fo_50 (P : Params) : Obj := { cls := .type "builtin_function_or_method", data := .fields #[.builtin "type.__prepare__", .type "type"] }
noncomputable def fo_51 (P : Params) : Obj := { cls := .type "dict", data := .dict #[(en P "__module__" 241 (.str (S "vectorcove.errors") 212)), (en P "__qualname__" 243 (.str (S "Refusal") 242)), (en P "__firstlineno__" 245 (.int 16 244)), (en P "__init__" 253 (.ref 62)), (en P "__static_attributes__" 255 (.ref 63))] 5 }
noncomputable def fo_52 (P : Params) : Obj := { cls := .type "tuple", data := .seq #[] }
noncomputable def fo_53 (P : Params) : Obj := { cls := .none, data := .fields #[.int 18 0, .int 4 0, .ref 61] }
noncomputable def fo_54 (P : Params) : Obj := { cls := .type "code", data := .fields #[.str (S "Refusal") 236, .str (S "Refusal") 237, .str (S "/claim/cut.py") 238, .int 16 0, .int 0 0, .int 0 0, .int 0 0, .int 0 0, .ref 52, .bool false, .int 181 0, .ref 53, .none, .none, .none, .none, .int 239 0, .int 16 0, .str (S "/claim/cut.py") 240] }
noncomputable def fo_55 (P : Params) : Obj := { cls := .type "frame", slots := #[some (.ref 54), some (.ref 3), some (.ref 51), none, some (.str (S "vectorcove.errors") 212), none, some (.ref 0)] }
noncomputable def fo_56 (P : Params) : Obj := { cls := .type "tuple", data := .seq #[] }
noncomputable def fo_57 (P : Params) : Obj := { cls := .none, data := .fields #[] }
noncomputable def fo_58 (P : Params) : Obj := { cls := .type "tuple", data := .seq #[.str (S "self") 249, .str (S "message") 250] }
noncomputable def fo_59 (P : Params) : Obj := { cls := .type "tuple", data := .seq #[] }
noncomputable def fo_60 (P : Params) : Obj := { cls := .none, data := .func { name := S "__init__", qualname := S "Refusal.__init__", params := (fnA 3), body := .stmts (fnB 3), scope := (fnC 3), globals := 0, closure := [], defaults := .none, kwdefaults := .none } }
noncomputable def fo_61 (P : Params) : Obj := { cls := .type "code", data := .fields #[.str (S "__init__") 246, .str (S "Refusal.__init__") 247, .str (S "/claim/cut.py") 248, .int 18 0, .int 2 0, .int 0 0, .int 0 0, .int 3 0, .ref 56, .bool true, .int 181 0, .ref 57, .none, .ref 58, .ref 59, .ref 60, .int 251 0, .int 18 0, .str (S "/claim/cut.py") 252] }
noncomputable def fo_62 (P : Params) : Obj := { cls := .type "function", data := .func { name := S "__init__", qualname := S "Refusal.__init__", params := (fnA 3), body := .stmts (fnB 3), scope := (fnC 3), globals := 3, closure := [], defaults := .none, kwdefaults := .none, pyModule := .str (S "vectorcove.errors") 212, code := .ref 61 } }
noncomputable def fo_63 (P : Params) : Obj := { cls := .type "tuple", data := .seq #[.str (S "message") 254] }
noncomputable def fo_64 (P : Params) : Obj := { cls := .type "dict", data := .dict #[(en P "__module__" 241 (.str (S "vectorcove.errors") 212)), (en P "__firstlineno__" 245 (.int 16 244)), (en P "__init__" 253 (.ref 62)), (en P "__static_attributes__" 255 (.ref 63)), (en P "__doc__" 256 (.none))] 2 }
noncomputable def fo_65 (P : Params) : Obj := { cls := .type "type", data := .cls { name := S "Refusal", bases := [.ref 45], mro := [.ref 65, .ref 45, .type "Exception", .type "BaseException", .type "object"], ns := 64, qualname := S "Refusal" }, slots := #[some (.ref 49), none, some (.str (S "Refusal") 234), some (.str (S "Refusal") 242), some (.builtin "Exception.__new__"), some (.bool true)] }
noncomputable def fo_66 (P : Params) : Obj := { cls := .type "super", data := .fields #[.ref 65, .ref 65, .ref 65] }
noncomputable def fo_67 (P : Params) : Obj := { cls := .type "builtin_function_or_method", data := .fields #[.builtin "object.__init_subclass__", .ref 65] }
noncomputable def fo_68 (P : Params) : Obj := { cls := .type "tuple", data := .seq #[] }
noncomputable def fo_69 (P : Params) : Obj := { cls := .type "builtin_function_or_method", data := .fields #[.builtin "type.__prepare__", .type "type"] }
noncomputable def fo_70 (P : Params) : Obj := { cls := .type "dict", data := .dict #[(en P "__module__" 268 (.str (S "vectorcove.values") 259)), (en P "__qualname__" 270 (.str (S "Vector") 269)), (en P "__firstlineno__" 272 (.int 21 271)), (en P "__init__" 282 (.ref 82)), (en P "copy" 289 (.ref 89)), (en P "__static_attributes__" 295 (.ref 90))] 6 }
noncomputable def fo_71 (P : Params) : Obj := { cls := .type "tuple", data := .seq #[] }
noncomputable def fo_72 (P : Params) : Obj := { cls := .none, data := .fields #[.int 23 0, .int 4 0, .ref 81, .int 30 0, .int 4 0, .ref 88] }
noncomputable def fo_73 (P : Params) : Obj := { cls := .type "code", data := .fields #[.str (S "Vector") 263, .str (S "Vector") 264, .str (S "/claim/cut.py") 265, .int 21 0, .int 0 0, .int 0 0, .int 0 0, .int 0 0, .ref 71, .bool false, .int 181 0, .ref 72, .none, .none, .none, .none, .int 266 0, .int 21 0, .str (S "/claim/cut.py") 267] }
noncomputable def fo_74 (P : Params) : Obj := { cls := .type "frame", slots := #[some (.ref 73), some (.ref 3), some (.ref 70), none, some (.str (S "vectorcove.values") 259), none, some (.ref 0)] }
noncomputable def fo_75 (P : Params) : Obj := { cls := .type "tuple", data := .seq #[.none] }
noncomputable def fo_76 (P : Params) : Obj := { cls := .type "tuple", data := .seq #[] }
noncomputable def fo_77 (P : Params) : Obj := { cls := .none, data := .fields #[] }
noncomputable def fo_78 (P : Params) : Obj := { cls := .type "tuple", data := .seq #[.str (S "self") 276, .str (S "kind") 277, .str (S "items") 278, .str (S "attrs") 279] }
noncomputable def fo_79 (P : Params) : Obj := { cls := .type "tuple", data := .seq #[] }
noncomputable def fo_80 (P : Params) : Obj := { cls := .none, data := .func { name := S "__init__", qualname := S "Vector.__init__", params := (fnA 4), body := .stmts (fnB 4), scope := (fnC 4), globals := 0, closure := [], defaults := .none, kwdefaults := .none } }
noncomputable def fo_81 (P : Params) : Obj := { cls := .type "code", data := .fields #[.str (S "__init__") 273, .str (S "Vector.__init__") 274, .str (S "/claim/cut.py") 275, .int 23 0, .int 4 0, .int 0 0, .int 0 0, .int 3 0, .ref 76, .bool true, .int 181 0, .ref 77, .none, .ref 78, .ref 79, .ref 80, .int 280 0, .int 23 0, .str (S "/claim/cut.py") 281] }
noncomputable def fo_82 (P : Params) : Obj := { cls := .type "function", data := .func { name := S "__init__", qualname := S "Vector.__init__", params := (fnA 4), body := .stmts (fnB 4), scope := (fnC 4), globals := 3, closure := [], defaults := .ref 75, kwdefaults := .none, pyModule := .str (S "vectorcove.values") 259, code := .ref 81 } }
noncomputable def fo_83 (P : Params) : Obj := { cls := .type "tuple", data := .seq #[] }
noncomputable def fo_84 (P : Params) : Obj := { cls := .none, data := .fields #[] }
noncomputable def fo_85 (P : Params) : Obj := { cls := .type "tuple", data := .seq #[.str (S "self") 286] }
noncomputable def fo_86 (P : Params) : Obj := { cls := .type "tuple", data := .seq #[] }
noncomputable def fo_87 (P : Params) : Obj := { cls := .none, data := .func { name := S "copy", qualname := S "Vector.copy", params := (fnA 5), body := .stmts (fnB 5), scope := (fnC 5), globals := 0, closure := [], defaults := .none, kwdefaults := .none } }
noncomputable def fo_88 (P : Params) : Obj := { cls := .type "code", data := .fields #[.str (S "copy") 283, .str (S "Vector.copy") 284, .str (S "/claim/cut.py") 285, .int 30 0, .int 1 0, .int 0 0, .int 0 0, .int 3 0, .ref 83, .bool true, .int 181 0, .ref 84, .none, .ref 85, .ref 86, .ref 87, .int 287 0, .int 30 0, .str (S "/claim/cut.py") 288] }
noncomputable def fo_89 (P : Params) : Obj := { cls := .type "function", data := .func { name := S "copy", qualname := S "Vector.copy", params := (fnA 5), body := .stmts (fnB 5), scope := (fnC 5), globals := 3, closure := [], defaults := .none, kwdefaults := .none, pyModule := .str (S "vectorcove.values") 259, code := .ref 88 } }
noncomputable def fo_90 (P : Params) : Obj := { cls := .type "tuple", data := .seq #[.str (S "attrs") 290, .str (S "items") 291, .str (S "kind") 292, .str (S "loose") 293, .str (S "shared") 294] }
noncomputable def fo_91 (P : Params) : Obj := { cls := .type "dict", data := .dict #[(en P "__module__" 268 (.str (S "vectorcove.values") 259)), (en P "__firstlineno__" 272 (.int 21 271)), (en P "__init__" 282 (.ref 82)), (en P "copy" 289 (.ref 89)), (en P "__static_attributes__" 295 (.ref 90)), (en P "__dict__" 297 (.ref 93)), (en P "__weakref__" 299 (.ref 94)), (en P "__doc__" 300 (.none))] 4 }
noncomputable def fo_92 (P : Params) : Obj := { cls := .type "type", data := .cls { name := S "Vector", bases := [.type "object"], mro := [.ref 92, .type "object"], ns := 91, qualname := S "Vector" }, slots := #[none, none, some (.str (S "Vector") 261), some (.str (S "Vector") 269), some (.builtin "object.__new__"), some (.bool true)] }
noncomputable def fo_93 (P : Params) : Obj := { cls := .type "getset_descriptor", data := .fields #[.str (S "__dict__") 296, .ref 92, .builtin "function.__dict__", .builtin "function.__dict__#set"] }
noncomputable def fo_94 (P : Params) : Obj := { cls := .type "getset_descriptor", data := .fields #[.str (S "__weakref__") 298, .ref 92, .builtin "ExceptionGroup.__weakref__", .none] }
noncomputable def fo_95 (P : Params) : Obj := { cls := .type "super", data := .fields #[.ref 92, .ref 92, .ref 92] }
noncomputable def fo_96 (P : Params) : Obj := { cls := .type "builtin_function_or_method", data := .fields #[.builtin "object.__init_subclass__", .ref 92] }
noncomputable def fo_97 (P : Params) : Obj := { cls := .type "tuple", data := .seq #[] }
noncomputable def fo_98 (P : Params) : Obj := { cls := .type "builtin_function_or_method", data := .fields #[.builtin "type.__prepare__", .type "type"] }
noncomputable def fo_99 (P : Params) : Obj := { cls := .type "dict", data := .dict #[(en P "__module__" 310 (.str (S "vectorcove.values") 259)), (en P "__qualname__" 312 (.str (S "Environment") 311)), (en P "__firstlineno__" 314 (.int 32 313)), (en P "__init__" 324 (.ref 111)), (en P "__static_attributes__" 332 (.ref 112))] 5 }
noncomputable def fo_100 (P : Params) : Obj := { cls := .type "tuple", data := .seq #[] }
noncomputable def fo_101 (P : Params) : Obj := { cls := .none, data := .fields #[.int 34 0, .int 4 0, .ref 110] }
noncomputable def fo_102 (P : Params) : Obj := { cls := .type "code", data := .fields #[.str (S "Environment") 305, .str (S "Environment") 306, .str (S "/claim/cut.py") 307, .int 32 0, .int 0 0, .int 0 0, .int 0 0, .int 0 0, .ref 100, .bool false, .int 181 0, .ref 101, .none, .none, .none, .none, .int 308 0, .int 32 0, .str (S "/claim/cut.py") 309] }
noncomputable def fo_103 (P : Params) : Obj := { cls := .type "frame", slots := #[some (.ref 102), some (.ref 3), some (.ref 99), none, some (.str (S "vectorcove.values") 259), none, some (.ref 0)] }
noncomputable def fo_104 (P : Params) : Obj := { cls := .type "tuple", data := .seq #[.none] }
noncomputable def fo_105 (P : Params) : Obj := { cls := .type "tuple", data := .seq #[] }
noncomputable def fo_106 (P : Params) : Obj := { cls := .none, data := .fields #[] }
noncomputable def fo_107 (P : Params) : Obj := { cls := .type "tuple", data := .seq #[.str (S "self") 318, .str (S "number") 319, .str (S "parent") 320, .str (S "attrs") 321] }
noncomputable def fo_108 (P : Params) : Obj := { cls := .type "tuple", data := .seq #[] }
noncomputable def fo_109 (P : Params) : Obj := { cls := .none, data := .func { name := S "__init__", qualname := S "Environment.__init__", params := (fnA 6), body := .stmts (fnB 6), scope := (fnC 6), globals := 0, closure := [], defaults := .none, kwdefaults := .none } }
noncomputable def fo_110 (P : Params) : Obj := { cls := .type "code", data := .fields #[.str (S "__init__") 315, .str (S "Environment.__init__") 316, .str (S "/claim/cut.py") 317, .int 34 0, .int 4 0, .int 0 0, .int 0 0, .int 3 0, .ref 105, .bool true, .int 181 0, .ref 106, .none, .ref 107, .ref 108, .ref 109, .int 322 0, .int 34 0, .str (S "/claim/cut.py") 323] }
noncomputable def fo_111 (P : Params) : Obj := { cls := .type "function", data := .func { name := S "__init__", qualname := S "Environment.__init__", params := (fnA 6), body := .stmts (fnB 6), scope := (fnC 6), globals := 3, closure := [], defaults := .ref 104, kwdefaults := .none, pyModule := .str (S "vectorcove.values") 259, code := .ref 110 } }
noncomputable def fo_112 (P : Params) : Obj := { cls := .type "tuple", data := .seq #[.str (S "attrs") 325, .str (S "frame") 326, .str (S "kind") 327, .str (S "locked") 328, .str (S "locks") 329, .str (S "number") 330, .str (S "parent") 331] }
noncomputable def fo_113 (P : Params) : Obj := { cls := .type "dict", data := .dict #[(en P "__module__" 310 (.str (S "vectorcove.values") 259)), (en P "__firstlineno__" 314 (.int 32 313)), (en P "__init__" 324 (.ref 111)), (en P "__static_attributes__" 332 (.ref 112)), (en P "__dict__" 334 (.ref 115)), (en P "__weakref__" 336 (.ref 116)), (en P "__doc__" 337 (.none))] 4 }
noncomputable def fo_114 (P : Params) : Obj := { cls := .type "type", data := .cls { name := S "Environment", bases := [.type "object"], mro := [.ref 114, .type "object"], ns := 113, qualname := S "Environment" }, slots := #[none, none, some (.str (S "Environment") 303), some (.str (S "Environment") 311), some (.builtin "object.__new__"), some (.bool true)] }
noncomputable def fo_115 (P : Params) : Obj := { cls := .type "getset_descriptor", data := .fields #[.str (S "__dict__") 333, .ref 114, .builtin "function.__dict__", .builtin "function.__dict__#set"] }
noncomputable def fo_116 (P : Params) : Obj := { cls := .type "getset_descriptor", data := .fields #[.str (S "__weakref__") 335, .ref 114, .builtin "ExceptionGroup.__weakref__", .none] }
noncomputable def fo_117 (P : Params) : Obj := { cls := .type "super", data := .fields #[.ref 114, .ref 114, .ref 114] }
noncomputable def fo_118 (P : Params) : Obj := { cls := .type "builtin_function_or_method", data := .fields #[.builtin "object.__init_subclass__", .ref 114] }
noncomputable def fo_119 (P : Params) : Obj := { cls := .type "tuple", data := .seq #[] }
noncomputable def fo_120 (P : Params) : Obj := { cls := .type "builtin_function_or_method", data := .fields #[.builtin "type.__prepare__", .type "type"] }
noncomputable def fo_121 (P : Params) : Obj := { cls := .type "dict", data := .dict #[(en P "__module__" 349 (.str (S "vectorcove.callargs") 340)), (en P "__qualname__" 351 (.str (S "Matching") 350)), (en P "__firstlineno__" 353 (.int 43 352)), (en P "__init__" 362 (.ref 132)), (en P "exact" 371 (.ref 139)), (en P "partial" 379 (.ref 146)), (en P "partial_of" 389 (.ref 153)), (en P "positional" 398 (.ref 160)), (en P "is_free" 406 (.ref 167)), (en P "rest" 412 (.ref 172)), (en P "__static_attributes__" 417 (.ref 173))] 11 }
noncomputable def fo_122 (P : Params) : Obj := { cls := .type "tuple", data := .seq #[] }
noncomputable def fo_123 (P : Params) : Obj := { cls := .none, data := .fields #[.int 45 0, .int 4 0, .ref 131, .int 51 0, .int 4 0, .ref 138, .int 61 0, .int 4 0, .ref 145, .int 68 0, .int 4 0, .ref 152, .int 79 0, .int 4 0, .ref 159, .int 91 0, .int 4 0, .ref 166, .int 94 0, .int 4 0, .ref 171] }
noncomputable def fo_124 (P : Params) : Obj := { cls := .type "code", data := .fields #[.str (S "Matching") 344, .str (S "Matching") 345, .str (S "/claim/cut.py") 346, .int 43 0, .int 0 0, .int 0 0, .int 0 0, .int 0 0, .ref 122, .bool false, .int 181 0, .ref 123, .none, .none, .none, .none, .int 347 0, .int 43 0, .str (S "/claim/cut.py") 348] }
noncomputable def fo_125 (P : Params) : Obj := { cls := .type "frame", slots := #[some (.ref 124), some (.ref 3), some (.ref 121), none, some (.str (S "vectorcove.callargs") 340), none, some (.ref 0)] }
noncomputable def fo_126 (P : Params) : Obj := { cls := .type "tuple", data := .seq #[] }
noncomputable def fo_127 (P : Params) : Obj := { cls := .none, data := .fields #[] }
noncomputable def fo_128 (P : Params) : Obj := { cls := .type "tuple", data := .seq #[.str (S "self") 357, .str (S "formals") 358, .str (S "tags") 359] }
noncomputable def fo_129 (P : Params) : Obj := { cls := .type "tuple", data := .seq #[] }
noncomputable def fo_130 (P : Params) : Obj := { cls := .none, data := .func { name := S "__init__", qualname := S "Matching.__init__", params := (fnA 7), body := .stmts (fnB 7), scope := (fnC 7), globals := 0, closure := [], defaults := .none, kwdefaults := .none } }
noncomputable def fo_131 (P : Params) : Obj := { cls := .type "code", data := .fields #[.str (S "__init__") 354, .str (S "Matching.__init__") 355, .str (S "/claim/cut.py") 356, .int 45 0, .int 3 0, .int 0 0, .int 0 0, .int 3 0, .ref 126, .bool true, .int 181 0, .ref 127, .none, .ref 128, .ref 129, .ref 130, .int 360 0, .int 45 0, .str (S "/claim/cut.py") 361] }
noncomputable def fo_132 (P : Params) : Obj := { cls := .type "function", data := .func { name := S "__init__", qualname := S "Matching.__init__", params := (fnA 7), body := .stmts (fnB 7), scope := (fnC 7), globals := 3, closure := [], defaults := .none, kwdefaults := .none, pyModule := .str (S "vectorcove.callargs") 340, code := .ref 131 } }
noncomputable def fo_133 (P : Params) : Obj := { cls := .type "tuple", data := .seq #[] }
noncomputable def fo_134 (P : Params) : Obj := { cls := .none, data := .fields #[] }
noncomputable def fo_135 (P : Params) : Obj := { cls := .type "tuple", data := .seq #[.str (S "self") 366, .str (S "name") 367, .str (S "place") 368] }
noncomputable def fo_136 (P : Params) : Obj := { cls := .type "tuple", data := .seq #[] }
noncomputable def fo_137 (P : Params) : Obj := { cls := .none, data := .func { name := S "exact", qualname := S "Matching.exact", params := (fnA 8), body := .stmts (fnB 8), scope := (fnC 8), globals := 0, closure := [], defaults := .none, kwdefaults := .none } }
noncomputable def fo_138 (P : Params) : Obj := { cls := .type "code", data := .fields #[.str (S "exact") 363, .str (S "Matching.exact") 364, .str (S "/claim/cut.py") 365, .int 51 0, .int 1 0, .int 0 0, .int 0 0, .int 3 0, .ref 133, .bool true, .int 181 0, .ref 134, .none, .ref 135, .ref 136, .ref 137, .int 369 0, .int 51 0, .str (S "/claim/cut.py") 370] }
noncomputable def fo_139 (P : Params) : Obj := { cls := .type "function", data := .func { name := S "exact", qualname := S "Matching.exact", params := (fnA 8), body := .stmts (fnB 8), scope := (fnC 8), globals := 3, closure := [], defaults := .none, kwdefaults := .none, pyModule := .str (S "vectorcove.callargs") 340, code := .ref 138 } }
noncomputable def fo_140 (P : Params) : Obj := { cls := .type "tuple", data := .seq #[] }
noncomputable def fo_141 (P : Params) : Obj := { cls := .none, data := .fields #[] }
noncomputable def fo_142 (P : Params) : Obj := { cls := .type "tuple", data := .seq #[.str (S "self") 375, .str (S "name") 376] }
noncomputable def fo_143 (P : Params) : Obj := { cls := .type "tuple", data := .seq #[] }
noncomputable def fo_144 (P : Params) : Obj := { cls := .none, data := .func { name := S "partial", qualname := S "Matching.partial", params := (fnA 9), body := .stmts (fnB 9), scope := (fnC 9), globals := 0, closure := [], defaults := .none, kwdefaults := .none } }
noncomputable def fo_145 (P : Params) : Obj := { cls := .type "code", data := .fields #[.str (S "partial") 372, .str (S "Matching.partial") 373, .str (S "/claim/cut.py") 374, .int 61 0, .int 1 0, .int 0 0, .int 0 0, .int 3 0, .ref 140, .bool true, .int 181 0, .ref 141, .none, .ref 142, .ref 143, .ref 144, .int 377 0, .int 61 0, .str (S "/claim/cut.py") 378] }
noncomputable def fo_146 (P : Params) : Obj := { cls := .type "function", data := .func { name := S "partial", qualname := S "Matching.partial", params := (fnA 9), body := .stmts (fnB 9), scope := (fnC 9), globals := 3, closure := [], defaults := .none, kwdefaults := .none, pyModule := .str (S "vectorcove.callargs") 340, code := .ref 145 } }
noncomputable def fo_147 (P : Params) : Obj := { cls := .type "tuple", data := .seq #[] }
noncomputable def fo_148 (P : Params) : Obj := { cls := .none, data := .fields #[] }
noncomputable def fo_149 (P : Params) : Obj := { cls := .type "tuple", data := .seq #[.str (S "self") 383, .str (S "name") 384, .str (S "place") 385, .str (S "tag") 386] }
noncomputable def fo_150 (P : Params) : Obj := { cls := .type "tuple", data := .seq #[] }
noncomputable def fo_151 (P : Params) : Obj := { cls := .none, data := .func { name := S "partial_of", qualname := S "Matching.partial_of", params := (fnA 10), body := .stmts (fnB 10), scope := (fnC 10), globals := 0, closure := [], defaults := .none, kwdefaults := .none } }
noncomputable def fo_152 (P : Params) : Obj := { cls := .type "code", data := .fields #[.str (S "partial_of") 380, .str (S "Matching.partial_of") 381, .str (S "/claim/cut.py") 382, .int 68 0, .int 2 0, .int 0 0, .int 0 0, .int 3 0, .ref 147, .bool true, .int 181 0, .ref 148, .none, .ref 149, .ref 150, .ref 151, .int 387 0, .int 68 0, .str (S "/claim/cut.py") 388] }
noncomputable def fo_153 (P : Params) : Obj := { cls := .type "function", data := .func { name := S "partial_of", qualname := S "Matching.partial_of", params := (fnA 10), body := .stmts (fnB 10), scope := (fnC 10), globals := 3, closure := [], defaults := .none, kwdefaults := .none, pyModule := .str (S "vectorcove.callargs") 340, code := .ref 152 } }
noncomputable def fo_154 (P : Params) : Obj := { cls := .type "tuple", data := .seq #[] }
noncomputable def fo_155 (P : Params) : Obj := { cls := .none, data := .fields #[] }
noncomputable def fo_156 (P : Params) : Obj := { cls := .type "tuple", data := .seq #[.str (S "self") 393, .str (S "place") 394, .str (S "name") 395] }
noncomputable def fo_157 (P : Params) : Obj := { cls := .type "tuple", data := .seq #[] }
noncomputable def fo_158 (P : Params) : Obj := { cls := .none, data := .func { name := S "positional", qualname := S "Matching.positional", params := (fnA 11), body := .stmts (fnB 11), scope := (fnC 11), globals := 0, closure := [], defaults := .none, kwdefaults := .none } }
noncomputable def fo_159 (P : Params) : Obj := { cls := .type "code", data := .fields #[.str (S "positional") 390, .str (S "Matching.positional") 391, .str (S "/claim/cut.py") 392, .int 79 0, .int 1 0, .int 0 0, .int 0 0, .int 3 0, .ref 154, .bool true, .int 181 0, .ref 155, .none, .ref 156, .ref 157, .ref 158, .int 396 0, .int 79 0, .str (S "/claim/cut.py") 397] }
noncomputable def fo_160 (P : Params) : Obj := { cls := .type "function", data := .func { name := S "positional", qualname := S "Matching.positional", params := (fnA 11), body := .stmts (fnB 11), scope := (fnC 11), globals := 3, closure := [], defaults := .none, kwdefaults := .none, pyModule := .str (S "vectorcove.callargs") 340, code := .ref 159 } }
noncomputable def fo_161 (P : Params) : Obj := { cls := .type "tuple", data := .seq #[] }
noncomputable def fo_162 (P : Params) : Obj := { cls := .none, data := .fields #[] }
noncomputable def fo_163 (P : Params) : Obj := { cls := .type "tuple", data := .seq #[.str (S "self") 402, .str (S "place") 403] }
noncomputable def fo_164 (P : Params) : Obj := { cls := .type "tuple", data := .seq #[] }
noncomputable def fo_165 (P : Params) : Obj := { cls := .none, data := .func { name := S "is_free", qualname := S "Matching.is_free", params := (fnA 12), body := .stmts (fnB 12), scope := (fnC 12), globals := 0, closure := [], defaults := .none, kwdefaults := .none } }
noncomputable def fo_166 (P : Params) : Obj := { cls := .type "code", data := .fields #[.str (S "is_free") 399, .str (S "Matching.is_free") 400, .str (S "/claim/cut.py") 401, .int 91 0, .int 2 0, .int 0 0, .int 0 0, .int 3 0, .ref 161, .bool true, .int 181 0, .ref 162, .none, .ref 163, .ref 164, .ref 165, .int 404 0, .int 91 0, .str (S "/claim/cut.py") 405] }
noncomputable def fo_167 (P : Params) : Obj := { cls := .type "function", data := .func { name := S "is_free", qualname := S "Matching.is_free", params := (fnA 12), body := .stmts (fnB 12), scope := (fnC 12), globals := 3, closure := [], defaults := .none, kwdefaults := .none, pyModule := .str (S "vectorcove.callargs") 340, code := .ref 166 } }
noncomputable def fo_168 (P : Params) : Obj := { cls := .type "tuple", data := .seq #[] }
noncomputable def fo_169 (P : Params) : Obj := { cls := .none, data := .fields #[] }
noncomputable def fo_170 (P : Params) : Obj := { cls := .none, data := .func { name := S "rest", qualname := S "Matching.rest", params := (fnA 13), body := .stmts (fnB 13), scope := (fnC 13), globals := 0, closure := [], defaults := .none, kwdefaults := .none } }
noncomputable def fo_171 (P : Params) : Obj := { cls := .type "code", data := .fields #[.str (S "rest") 407, .str (S "Matching.rest") 408, .str (S "/claim/cut.py") 409, .int 94 0, .int 1 0, .int 0 0, .int 0 0, .int 3 0, .ref 168, .bool true, .int 181 0, .ref 169, .none, .none, .none, .ref 170, .int 410 0, .int 94 0, .str (S "/claim/cut.py") 411] }
noncomputable def fo_172 (P : Params) : Obj := { cls := .type "function", data := .func { name := S "rest", qualname := S "Matching.rest", params := (fnA 13), body := .stmts (fnB 13), scope := (fnC 13), globals := 3, closure := [], defaults := .none, kwdefaults := .none, pyModule := .str (S "vectorcove.callargs") 340, code := .ref 171 } }
noncomputable def fo_173 (P : Params) : Obj := { cls := .type "tuple", data := .seq #[.str (S "formals") 413, .str (S "places") 414, .str (S "tags") 415, .str (S "used") 416] }
noncomputable def fo_174 (P : Params) : Obj := { cls := .type "dict", data := .dict #[(en P "__module__" 349 (.str (S "vectorcove.callargs") 340)), (en P "__firstlineno__" 353 (.int 43 352)), (en P "__init__" 362 (.ref 132)), (en P "exact" 371 (.ref 139)), (en P "partial" 379 (.ref 146)), (en P "partial_of" 389 (.ref 153)), (en P "positional" 398 (.ref 160)), (en P "is_free" 406 (.ref 167)), (en P "rest" 412 (.ref 172)), (en P "__static_attributes__" 417 (.ref 173)), (en P "__dict__" 419 (.ref 176)), (en P "__weakref__" 421 (.ref 177)), (en P "__doc__" 422 (.none))] 4 }
noncomputable def fo_175 (P : Params) : Obj := { cls := .type "type", data := .cls { name := S "Matching", bases := [.type "object"], mro := [.ref 175, .type "object"], ns := 174, qualname := S "Matching" }, slots := #[none, none, some (.str (S "Matching") 342), some (.str (S "Matching") 350), some (.builtin "object.__new__"), some (.bool true)] }
noncomputable def fo_176 (P : Params) : Obj := { cls := .type "getset_descriptor", data := .fields #[.str (S "__dict__") 418, .ref 175, .builtin "function.__dict__", .builtin "function.__dict__#set"] }
noncomputable def fo_177 (P : Params) : Obj := { cls := .type "getset_descriptor", data := .fields #[.str (S "__weakref__") 420, .ref 175, .builtin "ExceptionGroup.__weakref__", .none] }
noncomputable def fo_178 (P : Params) : Obj := { cls := .type "super", data := .fields #[.ref 175, .ref 175, .ref 175] }
noncomputable def fo_179 (P : Params) : Obj := { cls := .type "builtin_function_or_method", data := .fields #[.builtin "object.__init_subclass__", .ref 175] }
noncomputable def fo_180 (P : Params) : Obj := { cls := .type "tuple", data := .seq #[] }
noncomputable def fo_181 (P : Params) : Obj := { cls := .none, data := .fields #[] }
noncomputable def fo_182 (P : Params) : Obj := { cls := .type "tuple", data := .seq #[.str (S "name") 428] }
noncomputable def fo_183 (P : Params) : Obj := { cls := .type "tuple", data := .seq #[] }
noncomputable def fo_184 (P : Params) : Obj := { cls := .none, data := .func { name := S "doubled_text", qualname := S "doubled_text", params := (fnA 14), body := .stmts (fnB 14), scope := (fnC 14), globals := 0, closure := [], defaults := .none, kwdefaults := .none } }
noncomputable def fo_185 (P : Params) : Obj := { cls := .type "code", data := .fields #[.str (S "doubled_text") 425, .str (S "doubled_text") 426, .str (S "/claim/cut.py") 427, .int 96 0, .int 1 0, .int 0 0, .int 0 0, .int 3 0, .ref 180, .bool true, .int 181 0, .ref 181, .none, .ref 182, .ref 183, .ref 184, .int 429 0, .int 96 0, .str (S "/claim/cut.py") 430] }
noncomputable def fo_186 (P : Params) : Obj := { cls := .type "function", data := .func { name := S "doubled_text", qualname := S "doubled_text", params := (fnA 14), body := .stmts (fnB 14), scope := (fnC 14), globals := 3, closure := [], defaults := .none, kwdefaults := .none, pyModule := .str (S "vectorcove.callargs") 340, code := .ref 185 } }
noncomputable def fo_187 (P : Params) : Obj := { cls := .type "tuple", data := .seq #[] }
noncomputable def fo_188 (P : Params) : Obj := { cls := .none, data := .fields #[] }
noncomputable def fo_189 (P : Params) : Obj := { cls := .type "tuple", data := .seq #[.str (S "args") 435, .str (S "place") 436, .str (S "show") 437, .str (S "tag") 438, .str (S "value") 439, .str (S "told") 440] }
noncomputable def fo_190 (P : Params) : Obj := { cls := .type "tuple", data := .seq #[] }
noncomputable def fo_191 (P : Params) : Obj := { cls := .none, data := .func { name := S "argument_text", qualname := S "argument_text", params := (fnA 15), body := .stmts (fnB 15), scope := (fnC 15), globals := 0, closure := [], defaults := .none, kwdefaults := .none } }
noncomputable def fo_192 (P : Params) : Obj := { cls := .type "code", data := .fields #[.str (S "argument_text") 432, .str (S "argument_text") 433, .str (S "/claim/cut.py") 434, .int 98 0, .int 3 0, .int 0 0, .int 0 0, .int 3 0, .ref 187, .bool true, .int 181 0, .ref 188, .none, .ref 189, .ref 190, .ref 191, .int 441 0, .int 98 0, .str (S "/claim/cut.py") 442] }
noncomputable def fo_193 (P : Params) : Obj := { cls := .type "function", data := .func { name := S "argument_text", qualname := S "argument_text", params := (fnA 15), body := .stmts (fnB 15), scope := (fnC 15), globals := 3, closure := [], defaults := .none, kwdefaults := .none, pyModule := .str (S "vectorcove.callargs") 340, code := .ref 192 } }
noncomputable def fo_194 (P : Params) : Obj := { cls := .type "tuple", data := .seq #[] }
noncomputable def fo_195 (P : Params) : Obj := { cls := .none, data := .fields #[] }
noncomputable def fo_196 (P : Params) : Obj := { cls := .type "tuple", data := .seq #[.str (S "value") 447, .str (S "item") 448] }
noncomputable def fo_197 (P : Params) : Obj := { cls := .type "tuple", data := .seq #[] }
noncomputable def fo_198 (P : Params) : Obj := { cls := .none, data := .func { name := S "plain_text", qualname := S "plain_text", params := (fnA 16), body := .stmts (fnB 16), scope := (fnC 16), globals := 0, closure := [], defaults := .none, kwdefaults := .none } }
noncomputable def fo_199 (P : Params) : Obj := { cls := .type "code", data := .fields #[.str (S "plain_text") 444, .str (S "plain_text") 445, .str (S "/claim/cut.py") 446, .int 104 0, .int 1 0, .int 0 0, .int 0 0, .int 3 0, .ref 194, .bool true, .int 181 0, .ref 195, .none, .ref 196, .ref 197, .ref 198, .int 449 0, .int 104 0, .str (S "/claim/cut.py") 450] }
noncomputable def fo_200 (P : Params) : Obj := { cls := .type "function", data := .func { name := S "plain_text", qualname := S "plain_text", params := (fnA 16), body := .stmts (fnB 16), scope := (fnC 16), globals := 3, closure := [], defaults := .none, kwdefaults := .none, pyModule := .str (S "vectorcove.callargs") 340, code := .ref 199 } }
noncomputable def fo_201 (P : Params) : Obj := { cls := .type "tuple", data := .seq #[] }
noncomputable def fo_202 (P : Params) : Obj := { cls := .none, data := .fields #[] }
noncomputable def fo_203 (P : Params) : Obj := { cls := .none, data := .func { name := S "unused_text", qualname := S "unused_text", params := (fnA 17), body := .stmts (fnB 17), scope := (fnC 17), globals := 0, closure := [], defaults := .none, kwdefaults := .none } }
noncomputable def fo_204 (P : Params) : Obj := { cls := .type "code", data := .fields #[.str (S "unused_text") 452, .str (S "unused_text") 453, .str (S "/claim/cut.py") 454, .int 119 0, .int 3 0, .int 0 0, .int 0 0, .int 3 0, .ref 201, .bool true, .int 181 0, .ref 202, .none, .none, .none, .ref 203, .int 455 0, .int 119 0, .str (S "/claim/cut.py") 456] }
noncomputable def fo_205 (P : Params) : Obj := { cls := .type "function", data := .func { name := S "unused_text", qualname := S "unused_text", params := (fnA 17), body := .stmts (fnB 17), scope := (fnC 17), globals := 3, closure := [], defaults := .none, kwdefaults := .none, pyModule := .str (S "vectorcove.callargs") 340, code := .ref 204 } }
noncomputable def fo_206 (P : Params) : Obj := { cls := .type "tuple", data := .seq #[.none] }
noncomputable def fo_207 (P : Params) : Obj := { cls := .type "tuple", data := .seq #[] }
noncomputable def fo_208 (P : Params) : Obj := { cls := .none, data := .fields #[] }
noncomputable def fo_209 (P : Params) : Obj := { cls := .none, data := .func { name := S "match_names", qualname := S "match_names", params := (fnA 18), body := .stmts (fnB 18), scope := (fnC 18), globals := 0, closure := [], defaults := .none, kwdefaults := .none } }
noncomputable def fo_210 (P : Params) : Obj := { cls := .type "code", data := .fields #[.str (S "match_names") 458, .str (S "match_names") 459, .str (S "/claim/cut.py") 460, .int 125 0, .int 3 0, .int 0 0, .int 0 0, .int 3 0, .ref 207, .bool true, .int 181 0, .ref 208, .none, .none, .none, .ref 209, .int 461 0, .int 125 0, .str (S "/claim/cut.py") 462] }
noncomputable def fo_211 (P : Params) : Obj := { cls := .type "function", data := .func { name := S "match_names", qualname := S "match_names", params := (fnA 18), body := .stmts (fnB 18), scope := (fnC 18), globals := 3, closure := [], defaults := .ref 206, kwdefaults := .none, pyModule := .str (S "vectorcove.callargs") 340, code := .ref 210 } }
noncomputable def fo_212 (P : Params) : Obj := { cls := .type "tuple", data := .seq #[] }
noncomputable def fo_213 (P : Params) : Obj := { cls := .none, data := .fields #[] }
noncomputable def fo_214 (P : Params) : Obj := { cls := .type "tuple", data := .seq #[.str (S "value") 467, .str (S "name") 468] }
noncomputable def fo_215 (P : Params) : Obj := { cls := .type "tuple", data := .seq #[] }
noncomputable def fo_216 (P : Params) : Obj := { cls := .none, data := .func { name := S "needed", qualname := S "needed", params := (fnA 19), body := .stmts (fnB 19), scope := (fnC 19), globals := 0, closure := [], defaults := .none, kwdefaults := .none } }
noncomputable def fo_217 (P : Params) : Obj := { cls := .type "code", data := .fields #[.str (S "needed") 464, .str (S "needed") 465, .str (S "/claim/cut.py") 466, .int 134 0, .int 2 0, .int 0 0, .int 0 0, .int 3 0, .ref 212, .bool true, .int 181 0, .ref 213, .none, .ref 214, .ref 215, .ref 216, .int 469 0, .int 134 0, .str (S "/claim/cut.py") 470] }
noncomputable def fo_218 (P : Params) : Obj := { cls := .type "function", data := .func { name := S "needed", qualname := S "needed", params := (fnA 19), body := .stmts (fnB 19), scope := (fnC 19), globals := 3, closure := [], defaults := .none, kwdefaults := .none, pyModule := .str (S "vectorcove.callargs") 340, code := .ref 217 } }
noncomputable def fo_219 (P : Params) : Obj := { cls := .type "tuple", data := .seq #[.none] }
noncomputable def fo_220 (P : Params) : Obj := { cls := .type "tuple", data := .seq #[] }
noncomputable def fo_221 (P : Params) : Obj := { cls := .none, data := .fields #[] }
noncomputable def fo_222 (P : Params) : Obj := { cls := .none, data := .func { name := S "take", qualname := S "take", params := (fnA 20), body := .stmts (fnB 20), scope := (fnC 20), globals := 0, closure := [], defaults := .none, kwdefaults := .none } }
noncomputable def fo_223 (P : Params) : Obj := { cls := .type "code", data := .fields #[.str (S "take") 472, .str (S "take") 473, .str (S "/claim/cut.py") 474, .int 138 0, .int 3 0, .int 0 0, .int 0 0, .int 3 0, .ref 220, .bool true, .int 181 0, .ref 221, .none, .none, .none, .ref 222, .int 475 0, .int 138 0, .str (S "/claim/cut.py") 476] }
noncomputable def fo_224 (P : Params) : Obj := { cls := .type "function", data := .func { name := S "take", qualname := S "take", params := (fnA 20), body := .stmts (fnB 20), scope := (fnC 20), globals := 3, closure := [], defaults := .ref 219, kwdefaults := .none, pyModule := .str (S "vectorcove.callargs") 340, code := .ref 223 } }
noncomputable def fo_225 (P : Params) : Obj := { cls := .type "tuple", data := .seq #[.int 0 480, .int 0 481] }
noncomputable def fo_226 (P : Params) : Obj := { cls := .type "tuple", data := .seq #[.int 1 483, .int 0 484] }
noncomputable def fo_227 (P : Params) : Obj := { cls := .type "tuple", data := .seq #[.int 0 486, .int 1 487] }
noncomputable def fo_228 (P : Params) : Obj := { cls := .type "tuple", data := .seq #[.int 1 489, .int 1 490] }
noncomputable def fo_229 (P : Params) : Obj := { cls := .type "tuple", data := .seq #[] }
noncomputable def fo_230 (P : Params) : Obj := { cls := .none, data := .fields #[] }
noncomputable def fo_231 (P : Params) : Obj := { cls := .type "tuple", data := .seq #[.str (S "a") 500, .str (S "b") 501] }
noncomputable def fo_232 (P : Params) : Obj := { cls := .type "tuple", data := .seq #[] }
noncomputable def fo_233 (P : Params) : Obj := { cls := .none, data := .func { name := S "gcd", qualname := S "gcd", params := (fnA 21), body := .stmts (fnB 21), scope := (fnC 21), globals := 0, closure := [], defaults := .none, kwdefaults := .none } }
noncomputable def fo_234 (P : Params) : Obj := { cls := .type "code", data := .fields #[.str (S "gcd") 497, .str (S "gcd") 498, .str (S "/claim/cut.py") 499, .int 156 0, .int 2 0, .int 0 0, .int 0 0, .int 3 0, .ref 229, .bool true, .int 181 0, .ref 230, .none, .ref 231, .ref 232, .ref 233, .int 502 0, .int 156 0, .str (S "/claim/cut.py") 503] }
noncomputable def fo_235 (P : Params) : Obj := { cls := .type "function", data := .func { name := S "gcd", qualname := S "gcd", params := (fnA 21), body := .stmts (fnB 21), scope := (fnC 21), globals := 3, closure := [], defaults := .none, kwdefaults := .none, pyModule := .str (S "vectorcove.rational") 478, code := .ref 234 } }
noncomputable def fo_236 (P : Params) : Obj := { cls := .type "tuple", data := .seq #[] }
noncomputable def fo_237 (P : Params) : Obj := { cls := .none, data := .fields #[] }
noncomputable def fo_238 (P : Params) : Obj := { cls := .type "tuple", data := .seq #[.str (S "n") 508, .str (S "d") 509] }
noncomputable def fo_239 (P : Params) : Obj := { cls := .type "tuple", data := .seq #[] }
noncomputable def fo_240 (P : Params) : Obj := { cls := .none, data := .func { name := S "bounded", qualname := S "bounded", params := (fnA 22), body := .stmts (fnB 22), scope := (fnC 22), globals := 0, closure := [], defaults := .none, kwdefaults := .none } }
noncomputable def fo_241 (P : Params) : Obj := { cls := .type "code", data := .fields #[.str (S "bounded") 505, .str (S "bounded") 506, .str (S "/claim/cut.py") 507, .int 160 0, .int 2 0, .int 0 0, .int 0 0, .int 3 0, .ref 236, .bool true, .int 181 0, .ref 237, .none, .ref 238, .ref 239, .ref 240, .int 510 0, .int 160 0, .str (S "/claim/cut.py") 511] }
noncomputable def fo_242 (P : Params) : Obj := { cls := .type "function", data := .func { name := S "bounded", qualname := S "bounded", params := (fnA 22), body := .stmts (fnB 22), scope := (fnC 22), globals := 3, closure := [], defaults := .none, kwdefaults := .none, pyModule := .str (S "vectorcove.rational") 478, code := .ref 241 } }
noncomputable def fo_243 (P : Params) : Obj := { cls := .type "tuple", data := .seq #[] }
noncomputable def fo_244 (P : Params) : Obj := { cls := .none, data := .fields #[] }
noncomputable def fo_245 (P : Params) : Obj := { cls := .type "tuple", data := .seq #[.str (S "n") 516, .str (S "d") 517, .str (S "common") 518] }
noncomputable def fo_246 (P : Params) : Obj := { cls := .type "tuple", data := .seq #[] }
noncomputable def fo_247 (P : Params) : Obj := { cls := .none, data := .func { name := S "make", qualname := S "make", params := (fnA 23), body := .stmts (fnB 23), scope := (fnC 23), globals := 0, closure := [], defaults := .none, kwdefaults := .none } }
noncomputable def fo_248 (P : Params) : Obj := { cls := .type "code", data := .fields #[.str (S "make") 513, .str (S "make") 514, .str (S "/claim/cut.py") 515, .int 164 0, .int 2 0, .int 0 0, .int 0 0, .int 3 0, .ref 243, .bool true, .int 181 0, .ref 244, .none, .ref 245, .ref 246, .ref 247, .int 519 0, .int 164 0, .str (S "/claim/cut.py") 520] }
noncomputable def fo_249 (P : Params) : Obj := { cls := .type "function", data := .func { name := S "make", qualname := S "make", params := (fnA 23), body := .stmts (fnB 23), scope := (fnC 23), globals := 3, closure := [], defaults := .none, kwdefaults := .none, pyModule := .str (S "vectorcove.rational") 478, code := .ref 248 } }
noncomputable def fo_250 (P : Params) : Obj := { cls := .type "tuple", data := .seq #[] }
noncomputable def fo_251 (P : Params) : Obj := { cls := .none, data := .fields #[] }
noncomputable def fo_252 (P : Params) : Obj := { cls := .type "tuple", data := .seq #[.str (S "n") 525] }
noncomputable def fo_253 (P : Params) : Obj := { cls := .type "tuple", data := .seq #[] }
noncomputable def fo_254 (P : Params) : Obj := { cls := .none, data := .func { name := S "from_int", qualname := S "from_int", params := (fnA 24), body := .stmts (fnB 24), scope := (fnC 24), globals := 0, closure := [], defaults := .none, kwdefaults := .none } }
noncomputable def fo_255 (P : Params) : Obj := { cls := .type "code", data := .fields #[.str (S "from_int") 522, .str (S "from_int") 523, .str (S "/claim/cut.py") 524, .int 174 0, .int 1 0, .int 0 0, .int 0 0, .int 3 0, .ref 250, .bool true, .int 181 0, .ref 251, .none, .ref 252, .ref 253, .ref 254, .int 526 0, .int 174 0, .str (S "/claim/cut.py") 527] }
noncomputable def fo_256 (P : Params) : Obj := { cls := .type "function", data := .func { name := S "from_int", qualname := S "from_int", params := (fnA 24), body := .stmts (fnB 24), scope := (fnC 24), globals := 3, closure := [], defaults := .none, kwdefaults := .none, pyModule := .str (S "vectorcove.rational") 478, code := .ref 255 } }
noncomputable def fo_257 (P : Params) : Obj := { cls := .type "tuple", data := .seq #[] }
noncomputable def fo_258 (P : Params) : Obj := { cls := .none, data := .fields #[] }
noncomputable def fo_259 (P : Params) : Obj := { cls := .type "tuple", data := .seq #[.str (S "x") 532] }
noncomputable def fo_260 (P : Params) : Obj := { cls := .type "tuple", data := .seq #[] }
noncomputable def fo_261 (P : Params) : Obj := { cls := .none, data := .func { name := S "is_na", qualname := S "is_na", params := (fnA 25), body := .stmts (fnB 25), scope := (fnC 25), globals := 0, closure := [], defaults := .none, kwdefaults := .none } }
noncomputable def fo_262 (P : Params) : Obj := { cls := .type "code", data := .fields #[.str (S "is_na") 529, .str (S "is_na") 530, .str (S "/claim/cut.py") 531, .int 178 0, .int 1 0, .int 0 0, .int 0 0, .int 3 0, .ref 257, .bool true, .int 181 0, .ref 258, .none, .ref 259, .ref 260, .ref 261, .int 533 0, .int 178 0, .str (S "/claim/cut.py") 534] }
noncomputable def fo_263 (P : Params) : Obj := { cls := .type "function", data := .func { name := S "is_na", qualname := S "is_na", params := (fnA 25), body := .stmts (fnB 25), scope := (fnC 25), globals := 3, closure := [], defaults := .none, kwdefaults := .none, pyModule := .str (S "vectorcove.rational") 478, code := .ref 262 } }
noncomputable def fo_264 (P : Params) : Obj := { cls := .type "tuple", data := .seq #[] }
noncomputable def fo_265 (P : Params) : Obj := { cls := .none, data := .fields #[] }
noncomputable def fo_266 (P : Params) : Obj := { cls := .type "tuple", data := .seq #[.str (S "x") 539] }
noncomputable def fo_267 (P : Params) : Obj := { cls := .type "tuple", data := .seq #[] }
noncomputable def fo_268 (P : Params) : Obj := { cls := .none, data := .func { name := S "is_nan", qualname := S "is_nan", params := (fnA 26), body := .stmts (fnB 26), scope := (fnC 26), globals := 0, closure := [], defaults := .none, kwdefaults := .none } }
noncomputable def fo_269 (P : Params) : Obj := { cls := .type "code", data := .fields #[.str (S "is_nan") 536, .str (S "is_nan") 537, .str (S "/claim/cut.py") 538, .int 180 0, .int 1 0, .int 0 0, .int 0 0, .int 3 0, .ref 264, .bool true, .int 181 0, .ref 265, .none, .ref 266, .ref 267, .ref 268, .int 540 0, .int 180 0, .str (S "/claim/cut.py") 541] }
noncomputable def fo_270 (P : Params) : Obj := { cls := .type "function", data := .func { name := S "is_nan", qualname := S "is_nan", params := (fnA 26), body := .stmts (fnB 26), scope := (fnC 26), globals := 3, closure := [], defaults := .none, kwdefaults := .none, pyModule := .str (S "vectorcove.rational") 478, code := .ref 269 } }
noncomputable def fo_271 (P : Params) : Obj := { cls := .type "tuple", data := .seq #[] }
noncomputable def fo_272 (P : Params) : Obj := { cls := .none, data := .fields #[] }
noncomputable def fo_273 (P : Params) : Obj := { cls := .type "tuple", data := .seq #[.str (S "x") 546] }
noncomputable def fo_274 (P : Params) : Obj := { cls := .type "tuple", data := .seq #[] }
noncomputable def fo_275 (P : Params) : Obj := { cls := .none, data := .func { name := S "is_finite", qualname := S "is_finite", params := (fnA 27), body := .stmts (fnB 27), scope := (fnC 27), globals := 0, closure := [], defaults := .none, kwdefaults := .none } }
noncomputable def fo_276 (P : Params) : Obj := { cls := .type "code", data := .fields #[.str (S "is_finite") 543, .str (S "is_finite") 544, .str (S "/claim/cut.py") 545, .int 182 0, .int 1 0, .int 0 0, .int 0 0, .int 3 0, .ref 271, .bool true, .int 181 0, .ref 272, .none, .ref 273, .ref 274, .ref 275, .int 547 0, .int 182 0, .str (S "/claim/cut.py") 548] }
noncomputable def fo_277 (P : Params) : Obj := { cls := .type "function", data := .func { name := S "is_finite", qualname := S "is_finite", params := (fnA 27), body := .stmts (fnB 27), scope := (fnC 27), globals := 3, closure := [], defaults := .none, kwdefaults := .none, pyModule := .str (S "vectorcove.rational") 478, code := .ref 276 } }
noncomputable def fo_278 (P : Params) : Obj := { cls := .type "tuple", data := .seq #[] }
noncomputable def fo_279 (P : Params) : Obj := { cls := .none, data := .fields #[] }
noncomputable def fo_280 (P : Params) : Obj := { cls := .type "tuple", data := .seq #[.str (S "x") 553] }
noncomputable def fo_281 (P : Params) : Obj := { cls := .type "tuple", data := .seq #[] }
noncomputable def fo_282 (P : Params) : Obj := { cls := .none, data := .func { name := S "sign", qualname := S "sign", params := (fnA 28), body := .stmts (fnB 28), scope := (fnC 28), globals := 0, closure := [], defaults := .none, kwdefaults := .none } }
noncomputable def fo_283 (P : Params) : Obj := { cls := .type "code", data := .fields #[.str (S "sign") 550, .str (S "sign") 551, .str (S "/claim/cut.py") 552, .int 184 0, .int 1 0, .int 0 0, .int 0 0, .int 3 0, .ref 278, .bool true, .int 181 0, .ref 279, .none, .ref 280, .ref 281, .ref 282, .int 554 0, .int 184 0, .str (S "/claim/cut.py") 555] }
noncomputable def fo_284 (P : Params) : Obj := { cls := .type "function", data := .func { name := S "sign", qualname := S "sign", params := (fnA 28), body := .stmts (fnB 28), scope := (fnC 28), globals := 3, closure := [], defaults := .none, kwdefaults := .none, pyModule := .str (S "vectorcove.rational") 478, code := .ref 283 } }
noncomputable def fo_285 (P : Params) : Obj := { cls := .type "tuple", data := .seq #[] }
noncomputable def fo_286 (P : Params) : Obj := { cls := .none, data := .fields #[] }
noncomputable def fo_287 (P : Params) : Obj := { cls := .type "tuple", data := .seq #[.str (S "x") 560, .str (S "y") 561] }
noncomputable def fo_288 (P : Params) : Obj := { cls := .type "tuple", data := .seq #[] }
noncomputable def fo_289 (P : Params) : Obj := { cls := .none, data := .func { name := S "marked", qualname := S "marked", params := (fnA 29), body := .stmts (fnB 29), scope := (fnC 29), globals := 0, closure := [], defaults := .none, kwdefaults := .none } }
noncomputable def fo_290 (P : Params) : Obj := { cls := .type "code", data := .fields #[.str (S "marked") 557, .str (S "marked") 558, .str (S "/claim/cut.py") 559, .int 190 0, .int 2 0, .int 0 0, .int 0 0, .int 3 0, .ref 285, .bool true, .int 181 0, .ref 286, .none, .ref 287, .ref 288, .ref 289, .int 562 0, .int 190 0, .str (S "/claim/cut.py") 563] }
noncomputable def fo_291 (P : Params) : Obj := { cls := .type "function", data := .func { name := S "marked", qualname := S "marked", params := (fnA 29), body := .stmts (fnB 29), scope := (fnC 29), globals := 3, closure := [], defaults := .none, kwdefaults := .none, pyModule := .str (S "vectorcove.rational") 478, code := .ref 290 } }
noncomputable def fo_292 (P : Params) : Obj := { cls := .type "tuple", data := .seq #[] }
noncomputable def fo_293 (P : Params) : Obj := { cls := .none, data := .fields #[] }
noncomputable def fo_294 (P : Params) : Obj := { cls := .type "tuple", data := .seq #[.str (S "x") 568] }
noncomputable def fo_295 (P : Params) : Obj := { cls := .type "tuple", data := .seq #[] }
noncomputable def fo_296 (P : Params) : Obj := { cls := .none, data := .func { name := S "neg", qualname := S "neg", params := (fnA 30), body := .stmts (fnB 30), scope := (fnC 30), globals := 0, closure := [], defaults := .none, kwdefaults := .none } }
noncomputable def fo_297 (P : Params) : Obj := { cls := .type "code", data := .fields #[.str (S "neg") 565, .str (S "neg") 566, .str (S "/claim/cut.py") 567, .int 194 0, .int 1 0, .int 0 0, .int 0 0, .int 3 0, .ref 292, .bool true, .int 181 0, .ref 293, .none, .ref 294, .ref 295, .ref 296, .int 569 0, .int 194 0, .str (S "/claim/cut.py") 570] }
noncomputable def fo_298 (P : Params) : Obj := { cls := .type "function", data := .func { name := S "neg", qualname := S "neg", params := (fnA 30), body := .stmts (fnB 30), scope := (fnC 30), globals := 3, closure := [], defaults := .none, kwdefaults := .none, pyModule := .str (S "vectorcove.rational") 478, code := .ref 297 } }
noncomputable def fo_299 (P : Params) : Obj := { cls := .type "tuple", data := .seq #[] }
noncomputable def fo_300 (P : Params) : Obj := { cls := .none, data := .fields #[] }
noncomputable def fo_301 (P : Params) : Obj := { cls := .type "tuple", data := .seq #[.str (S "x") 575, .str (S "y") 576] }
noncomputable def fo_302 (P : Params) : Obj := { cls := .type "tuple", data := .seq #[] }
noncomputable def fo_303 (P : Params) : Obj := { cls := .none, data := .func { name := S "div", qualname := S "div", params := (fnA 31), body := .stmts (fnB 31), scope := (fnC 31), globals := 0, closure := [], defaults := .none, kwdefaults := .none } }
noncomputable def fo_304 (P : Params) : Obj := { cls := .type "code", data := .fields #[.str (S "div") 572, .str (S "div") 573, .str (S "/claim/cut.py") 574, .int 198 0, .int 2 0, .int 0 0, .int 0 0, .int 3 0, .ref 299, .bool true, .int 181 0, .ref 300, .none, .ref 301, .ref 302, .ref 303, .int 577 0, .int 198 0, .str (S "/claim/cut.py") 578] }
noncomputable def fo_305 (P : Params) : Obj := { cls := .type "function", data := .func { name := S "div", qualname := S "div", params := (fnA 31), body := .stmts (fnB 31), scope := (fnC 31), globals := 3, closure := [], defaults := .none, kwdefaults := .none, pyModule := .str (S "vectorcove.rational") 478, code := .ref 304 } }
noncomputable def fo_306 (P : Params) : Obj := { cls := .type "tuple", data := .seq #[] }
noncomputable def fo_307 (P : Params) : Obj := { cls := .none, data := .fields #[] }
noncomputable def fo_308 (P : Params) : Obj := { cls := .type "tuple", data := .seq #[.str (S "n") 583, .str (S "guess") 584, .str (S "better") 585] }
noncomputable def fo_309 (P : Params) : Obj := { cls := .type "tuple", data := .seq #[] }
noncomputable def fo_310 (P : Params) : Obj := { cls := .none, data := .func { name := S "isqrt", qualname := S "isqrt", params := (fnA 32), body := .stmts (fnB 32), scope := (fnC 32), globals := 0, closure := [], defaults := .none, kwdefaults := .none } }
noncomputable def fo_311 (P : Params) : Obj := { cls := .type "code", data := .fields #[.str (S "isqrt") 580, .str (S "isqrt") 581, .str (S "/claim/cut.py") 582, .int 206 0, .int 1 0, .int 0 0, .int 0 0, .int 3 0, .ref 306, .bool true, .int 181 0, .ref 307, .none, .ref 308, .ref 309, .ref 310, .int 586 0, .int 206 0, .str (S "/claim/cut.py") 587] }
noncomputable def fo_312 (P : Params) : Obj := { cls := .type "function", data := .func { name := S "isqrt", qualname := S "isqrt", params := (fnA 32), body := .stmts (fnB 32), scope := (fnC 32), globals := 3, closure := [], defaults := .none, kwdefaults := .none, pyModule := .str (S "vectorcove.rational") 478, code := .ref 311 } }
noncomputable def fo_313 (P : Params) : Obj := { cls := .type "tuple", data := .seq #[] }
noncomputable def fo_314 (P : Params) : Obj := { cls := .none, data := .fields #[] }
noncomputable def fo_315 (P : Params) : Obj := { cls := .type "tuple", data := .seq #[.str (S "x") 592, .str (S "n") 593, .str (S "d") 594] }
noncomputable def fo_316 (P : Params) : Obj := { cls := .type "tuple", data := .seq #[] }
noncomputable def fo_317 (P : Params) : Obj := { cls := .none, data := .func { name := S "root", qualname := S "root", params := (fnA 33), body := .stmts (fnB 33), scope := (fnC 33), globals := 0, closure := [], defaults := .none, kwdefaults := .none } }
noncomputable def fo_318 (P : Params) : Obj := { cls := .type "code", data := .fields #[.str (S "root") 589, .str (S "root") 590, .str (S "/claim/cut.py") 591, .int 217 0, .int 1 0, .int 0 0, .int 0 0, .int 3 0, .ref 313, .bool true, .int 181 0, .ref 314, .none, .ref 315, .ref 316, .ref 317, .int 595 0, .int 217 0, .str (S "/claim/cut.py") 596] }
noncomputable def fo_319 (P : Params) : Obj := { cls := .type "function", data := .func { name := S "root", qualname := S "root", params := (fnA 33), body := .stmts (fnB 33), scope := (fnC 33), globals := 3, closure := [], defaults := .none, kwdefaults := .none, pyModule := .str (S "vectorcove.rational") 478, code := .ref 318 } }
noncomputable def fo_320 (P : Params) : Obj := { cls := .type "tuple", data := .seq #[] }
noncomputable def fo_321 (P : Params) : Obj := { cls := .none, data := .fields #[] }
noncomputable def fo_322 (P : Params) : Obj := { cls := .type "tuple", data := .seq #[.str (S "x") 601] }
noncomputable def fo_323 (P : Params) : Obj := { cls := .type "tuple", data := .seq #[] }
noncomputable def fo_324 (P : Params) : Obj := { cls := .none, data := .func { name := S "floor", qualname := S "floor", params := (fnA 34), body := .stmts (fnB 34), scope := (fnC 34), globals := 0, closure := [], defaults := .none, kwdefaults := .none } }
noncomputable def fo_325 (P : Params) : Obj := { cls := .type "code", data := .fields #[.str (S "floor") 598, .str (S "floor") 599, .str (S "/claim/cut.py") 600, .int 227 0, .int 1 0, .int 0 0, .int 0 0, .int 3 0, .ref 320, .bool true, .int 181 0, .ref 321, .none, .ref 322, .ref 323, .ref 324, .int 602 0, .int 227 0, .str (S "/claim/cut.py") 603] }
noncomputable def fo_326 (P : Params) : Obj := { cls := .type "function", data := .func { name := S "floor", qualname := S "floor", params := (fnA 34), body := .stmts (fnB 34), scope := (fnC 34), globals := 3, closure := [], defaults := .none, kwdefaults := .none, pyModule := .str (S "vectorcove.rational") 478, code := .ref 325 } }
noncomputable def fo_327 (P : Params) : Obj := { cls := .type "tuple", data := .seq #[] }
noncomputable def fo_328 (P : Params) : Obj := { cls := .none, data := .fields #[] }
noncomputable def fo_329 (P : Params) : Obj := { cls := .type "tuple", data := .seq #[.str (S "x") 608] }
noncomputable def fo_330 (P : Params) : Obj := { cls := .type "tuple", data := .seq #[] }
noncomputable def fo_331 (P : Params) : Obj := { cls := .none, data := .func { name := S "ceiling", qualname := S "ceiling", params := (fnA 35), body := .stmts (fnB 35), scope := (fnC 35), globals := 0, closure := [], defaults := .none, kwdefaults := .none } }
noncomputable def fo_332 (P : Params) : Obj := { cls := .type "code", data := .fields #[.str (S "ceiling") 605, .str (S "ceiling") 606, .str (S "/claim/cut.py") 607, .int 231 0, .int 1 0, .int 0 0, .int 0 0, .int 3 0, .ref 327, .bool true, .int 181 0, .ref 328, .none, .ref 329, .ref 330, .ref 331, .int 609 0, .int 231 0, .str (S "/claim/cut.py") 610] }
noncomputable def fo_333 (P : Params) : Obj := { cls := .type "function", data := .func { name := S "ceiling", qualname := S "ceiling", params := (fnA 35), body := .stmts (fnB 35), scope := (fnC 35), globals := 3, closure := [], defaults := .none, kwdefaults := .none, pyModule := .str (S "vectorcove.rational") 478, code := .ref 332 } }
noncomputable def fo_334 (P : Params) : Obj := { cls := .type "tuple", data := .seq #[] }
noncomputable def fo_335 (P : Params) : Obj := { cls := .none, data := .fields #[] }
noncomputable def fo_336 (P : Params) : Obj := { cls := .type "tuple", data := .seq #[.str (S "x") 615] }
noncomputable def fo_337 (P : Params) : Obj := { cls := .type "tuple", data := .seq #[] }
noncomputable def fo_338 (P : Params) : Obj := { cls := .none, data := .func { name := S "trunc", qualname := S "trunc", params := (fnA 36), body := .stmts (fnB 36), scope := (fnC 36), globals := 0, closure := [], defaults := .none, kwdefaults := .none } }
noncomputable def fo_339 (P : Params) : Obj := { cls := .type "code", data := .fields #[.str (S "trunc") 612, .str (S "trunc") 613, .str (S "/claim/cut.py") 614, .int 233 0, .int 1 0, .int 0 0, .int 0 0, .int 3 0, .ref 334, .bool true, .int 181 0, .ref 335, .none, .ref 336, .ref 337, .ref 338, .int 616 0, .int 233 0, .str (S "/claim/cut.py") 617] }
noncomputable def fo_340 (P : Params) : Obj := { cls := .type "function", data := .func { name := S "trunc", qualname := S "trunc", params := (fnA 36), body := .stmts (fnB 36), scope := (fnC 36), globals := 3, closure := [], defaults := .none, kwdefaults := .none, pyModule := .str (S "vectorcove.rational") 478, code := .ref 339 } }
noncomputable def fo_341 (P : Params) : Obj := { cls := .type "tuple", data := .seq #[] }
noncomputable def fo_342 (P : Params) : Obj := { cls := .none, data := .fields #[] }
noncomputable def fo_343 (P : Params) : Obj := { cls := .type "tuple", data := .seq #[.str (S "x") 622, .str (S "found") 623] }
noncomputable def fo_344 (P : Params) : Obj := { cls := .type "tuple", data := .seq #[] }
noncomputable def fo_345 (P : Params) : Obj := { cls := .none, data := .func { name := S "to_whole", qualname := S "to_whole", params := (fnA 37), body := .stmts (fnB 37), scope := (fnC 37), globals := 0, closure := [], defaults := .none, kwdefaults := .none } }
noncomputable def fo_346 (P : Params) : Obj := { cls := .type "code", data := .fields #[.str (S "to_whole") 619, .str (S "to_whole") 620, .str (S "/claim/cut.py") 621, .int 237 0, .int 1 0, .int 0 0, .int 0 0, .int 3 0, .ref 341, .bool true, .int 181 0, .ref 342, .none, .ref 343, .ref 344, .ref 345, .int 624 0, .int 237 0, .str (S "/claim/cut.py") 625] }
noncomputable def fo_347 (P : Params) : Obj := { cls := .type "function", data := .func { name := S "to_whole", qualname := S "to_whole", params := (fnA 37), body := .stmts (fnB 37), scope := (fnC 37), globals := 3, closure := [], defaults := .none, kwdefaults := .none, pyModule := .str (S "vectorcove.rational") 478, code := .ref 346 } }
noncomputable def fo_348 (P : Params) : Obj := { cls := .type "tuple", data := .seq #[] }
noncomputable def fo_349 (P : Params) : Obj := { cls := .none, data := .fields #[] }
noncomputable def fo_350 (P : Params) : Obj := { cls := .type "tuple", data := .seq #[.str (S "x") 630, .str (S "y") 631, .str (S "left") 632, .str (S "right") 633] }
noncomputable def fo_351 (P : Params) : Obj := { cls := .type "tuple", data := .seq #[] }
noncomputable def fo_352 (P : Params) : Obj := { cls := .none, data := .func { name := S "compare", qualname := S "compare", params := (fnA 38), body := .stmts (fnB 38), scope := (fnC 38), globals := 0, closure := [], defaults := .none, kwdefaults := .none } }
noncomputable def fo_353 (P : Params) : Obj := { cls := .type "code", data := .fields #[.str (S "compare") 627, .str (S "compare") 628, .str (S "/claim/cut.py") 629, .int 242 0, .int 2 0, .int 0 0, .int 0 0, .int 3 0, .ref 348, .bool true, .int 181 0, .ref 349, .none, .ref 350, .ref 351, .ref 352, .int 634 0, .int 242 0, .str (S "/claim/cut.py") 635] }
noncomputable def fo_354 (P : Params) : Obj := { cls := .type "function", data := .func { name := S "compare", qualname := S "compare", params := (fnA 38), body := .stmts (fnB 38), scope := (fnC 38), globals := 3, closure := [], defaults := .none, kwdefaults := .none, pyModule := .str (S "vectorcove.rational") 478, code := .ref 353 } }
noncomputable def fo_355 (P : Params) : Obj := { cls := .type "tuple", data := .seq #[] }
noncomputable def fo_356 (P : Params) : Obj := { cls := .none, data := .fields #[] }
noncomputable def fo_357 (P : Params) : Obj := { cls := .type "tuple", data := .seq #[.str (S "v") 644] }
noncomputable def fo_358 (P : Params) : Obj := { cls := .type "tuple", data := .seq #[] }
noncomputable def fo_359 (P : Params) : Obj := { cls := .none, data := .func { name := S "check_math", qualname := S "check_math", params := (fnA 39), body := .stmts (fnB 39), scope := (fnC 39), globals := 0, closure := [], defaults := .none, kwdefaults := .none } }
noncomputable def fo_360 (P : Params) : Obj := { cls := .type "code", data := .fields #[.str (S "check_math") 641, .str (S "check_math") 642, .str (S "/claim/cut.py") 643, .int 262 0, .int 1 0, .int 0 0, .int 0 0, .int 3 0, .ref 355, .bool true, .int 181 0, .ref 356, .none, .ref 357, .ref 358, .ref 359, .int 645 0, .int 262 0, .str (S "/claim/cut.py") 646] }
noncomputable def fo_361 (P : Params) : Obj := { cls := .type "function", data := .func { name := S "check_math", qualname := S "check_math", params := (fnA 39), body := .stmts (fnB 39), scope := (fnC 39), globals := 3, closure := [], defaults := .none, kwdefaults := .none, pyModule := .str (S "vectorcove.mathfun") 637, code := .ref 360 } }
noncomputable def fo_362 (P : Params) : Obj := { cls := .type "tuple", data := .seq #[] }
noncomputable def fo_363 (P : Params) : Obj := { cls := .none, data := .fields #[] }
noncomputable def fo_364 (P : Params) : Obj := { cls := .none, data := .func { name := S "doubles", qualname := S "doubles", params := (fnA 40), body := .stmts (fnB 40), scope := (fnC 40), globals := 0, closure := [], defaults := .none, kwdefaults := .none } }
noncomputable def fo_365 (P : Params) : Obj := { cls := .type "code", data := .fields #[.str (S "doubles") 648, .str (S "doubles") 649, .str (S "/claim/cut.py") 650, .int 265 0, .int 1 0, .int 0 0, .int 0 0, .int 3 0, .ref 362, .bool true, .int 181 0, .ref 363, .none, .none, .none, .ref 364, .int 651 0, .int 265 0, .str (S "/claim/cut.py") 652] }
noncomputable def fo_366 (P : Params) : Obj := { cls := .type "function", data := .func { name := S "doubles", qualname := S "doubles", params := (fnA 40), body := .stmts (fnB 40), scope := (fnC 40), globals := 3, closure := [], defaults := .none, kwdefaults := .none, pyModule := .str (S "vectorcove.mathfun") 637, code := .ref 365 } }
noncomputable def fo_367 (P : Params) : Obj := { cls := .type "tuple", data := .seq #[] }
noncomputable def fo_368 (P : Params) : Obj := { cls := .none, data := .fields #[] }
noncomputable def fo_369 (P : Params) : Obj := { cls := .type "tuple", data := .seq #[.str (S "x") 657] }
noncomputable def fo_370 (P : Params) : Obj := { cls := .type "tuple", data := .seq #[] }
noncomputable def fo_371 (P : Params) : Obj := { cls := .none, data := .func { name := S "abs_item", qualname := S "abs_item", params := (fnA 41), body := .stmts (fnB 41), scope := (fnC 41), globals := 0, closure := [], defaults := .none, kwdefaults := .none } }
noncomputable def fo_372 (P : Params) : Obj := { cls := .type "code", data := .fields #[.str (S "abs_item") 654, .str (S "abs_item") 655, .str (S "/claim/cut.py") 656, .int 269 0, .int 1 0, .int 0 0, .int 0 0, .int 3 0, .ref 367, .bool true, .int 181 0, .ref 368, .none, .ref 369, .ref 370, .ref 371, .int 658 0, .int 269 0, .str (S "/claim/cut.py") 659] }
noncomputable def fo_373 (P : Params) : Obj := { cls := .type "function", data := .func { name := S "abs_item", qualname := S "abs_item", params := (fnA 41), body := .stmts (fnB 41), scope := (fnC 41), globals := 3, closure := [], defaults := .none, kwdefaults := .none, pyModule := .str (S "vectorcove.mathfun") 637, code := .ref 372 } }
noncomputable def fo_374 (P : Params) : Obj := { cls := .type "tuple", data := .seq #[] }
noncomputable def fo_375 (P : Params) : Obj := { cls := .none, data := .fields #[] }
noncomputable def fo_376 (P : Params) : Obj := { cls := .type "tuple", data := .seq #[.str (S "x") 664] }
noncomputable def fo_377 (P : Params) : Obj := { cls := .type "tuple", data := .seq #[] }
noncomputable def fo_378 (P : Params) : Obj := { cls := .none, data := .func { name := S "sign_item", qualname := S "sign_item", params := (fnA 42), body := .stmts (fnB 42), scope := (fnC 42), globals := 0, closure := [], defaults := .none, kwdefaults := .none } }
noncomputable def fo_379 (P : Params) : Obj := { cls := .type "code", data := .fields #[.str (S "sign_item") 661, .str (S "sign_item") 662, .str (S "/claim/cut.py") 663, .int 273 0, .int 1 0, .int 0 0, .int 0 0, .int 3 0, .ref 374, .bool true, .int 181 0, .ref 375, .none, .ref 376, .ref 377, .ref 378, .int 665 0, .int 273 0, .str (S "/claim/cut.py") 666] }
noncomputable def fo_380 (P : Params) : Obj := { cls := .type "function", data := .func { name := S "sign_item", qualname := S "sign_item", params := (fnA 42), body := .stmts (fnB 42), scope := (fnC 42), globals := 3, closure := [], defaults := .none, kwdefaults := .none, pyModule := .str (S "vectorcove.mathfun") 637, code := .ref 379 } }
noncomputable def fo_381 (P : Params) : Obj := { cls := .type "tuple", data := .seq #[] }
noncomputable def fo_382 (P : Params) : Obj := { cls := .none, data := .fields #[] }
noncomputable def fo_383 (P : Params) : Obj := { cls := .type "tuple", data := .seq #[.str (S "x") 671] }
noncomputable def fo_384 (P : Params) : Obj := { cls := .type "tuple", data := .seq #[] }
noncomputable def fo_385 (P : Params) : Obj := { cls := .none, data := .func { name := S "exp_item", qualname := S "exp_item", params := (fnA 43), body := .stmts (fnB 43), scope := (fnC 43), globals := 0, closure := [], defaults := .none, kwdefaults := .none } }
noncomputable def fo_386 (P : Params) : Obj := { cls := .type "code", data := .fields #[.str (S "exp_item") 668, .str (S "exp_item") 669, .str (S "/claim/cut.py") 670, .int 277 0, .int 1 0, .int 0 0, .int 0 0, .int 3 0, .ref 381, .bool true, .int 181 0, .ref 382, .none, .ref 383, .ref 384, .ref 385, .int 672 0, .int 277 0, .str (S "/claim/cut.py") 673] }
noncomputable def fo_387 (P : Params) : Obj := { cls := .type "function", data := .func { name := S "exp_item", qualname := S "exp_item", params := (fnA 43), body := .stmts (fnB 43), scope := (fnC 43), globals := 3, closure := [], defaults := .none, kwdefaults := .none, pyModule := .str (S "vectorcove.mathfun") 637, code := .ref 386 } }
noncomputable def fo_388 (P : Params) : Obj := { cls := .type "tuple", data := .seq #[] }
noncomputable def fo_389 (P : Params) : Obj := { cls := .none, data := .fields #[] }
noncomputable def fo_390 (P : Params) : Obj := { cls := .type "tuple", data := .seq #[.str (S "x") 678] }
noncomputable def fo_391 (P : Params) : Obj := { cls := .type "tuple", data := .seq #[] }
noncomputable def fo_392 (P : Params) : Obj := { cls := .none, data := .func { name := S "log_item", qualname := S "log_item", params := (fnA 44), body := .stmts (fnB 44), scope := (fnC 44), globals := 0, closure := [], defaults := .none, kwdefaults := .none } }
noncomputable def fo_393 (P : Params) : Obj := { cls := .type "code", data := .fields #[.str (S "log_item") 675, .str (S "log_item") 676, .str (S "/claim/cut.py") 677, .int 285 0, .int 1 0, .int 0 0, .int 0 0, .int 3 0, .ref 388, .bool true, .int 181 0, .ref 389, .none, .ref 390, .ref 391, .ref 392, .int 679 0, .int 285 0, .str (S "/claim/cut.py") 680] }
noncomputable def fo_394 (P : Params) : Obj := { cls := .type "function", data := .func { name := S "log_item", qualname := S "log_item", params := (fnA 44), body := .stmts (fnB 44), scope := (fnC 44), globals := 3, closure := [], defaults := .none, kwdefaults := .none, pyModule := .str (S "vectorcove.mathfun") 637, code := .ref 393 } }
noncomputable def fo_395 (P : Params) : Obj := { cls := .type "tuple", data := .seq #[] }
noncomputable def fo_396 (P : Params) : Obj := { cls := .none, data := .fields #[] }
noncomputable def fo_397 (P : Params) : Obj := { cls := .type "tuple", data := .seq #[.str (S "x") 685, .str (S "base") 686, .str (S "upper") 687, .str (S "count") 688] }
noncomputable def fo_398 (P : Params) : Obj := { cls := .type "tuple", data := .seq #[] }
noncomputable def fo_399 (P : Params) : Obj := { cls := .none, data := .func { name := S "log_above", qualname := S "log_above", params := (fnA 45), body := .stmts (fnB 45), scope := (fnC 45), globals := 0, closure := [], defaults := .none, kwdefaults := .none } }
noncomputable def fo_400 (P : Params) : Obj := { cls := .type "code", data := .fields #[.str (S "log_above") 682, .str (S "log_above") 683, .str (S "/claim/cut.py") 684, .int 295 0, .int 2 0, .int 0 0, .int 0 0, .int 3 0, .ref 395, .bool true, .int 181 0, .ref 396, .none, .ref 397, .ref 398, .ref 399, .int 689 0, .int 295 0, .str (S "/claim/cut.py") 690] }
noncomputable def fo_401 (P : Params) : Obj := { cls := .type "function", data := .func { name := S "log_above", qualname := S "log_above", params := (fnA 45), body := .stmts (fnB 45), scope := (fnC 45), globals := 3, closure := [], defaults := .none, kwdefaults := .none, pyModule := .str (S "vectorcove.mathfun") 637, code := .ref 400 } }
noncomputable def fo_402 (P : Params) : Obj := { cls := .type "tuple", data := .seq #[] }
noncomputable def fo_403 (P : Params) : Obj := { cls := .none, data := .fields #[] }
noncomputable def fo_404 (P : Params) : Obj := { cls := .type "tuple", data := .seq #[.str (S "x") 695, .str (S "base") 696] }
noncomputable def fo_405 (P : Params) : Obj := { cls := .type "tuple", data := .seq #[] }
noncomputable def fo_406 (P : Params) : Obj := { cls := .none, data := .func { name := S "log_to", qualname := S "log_to", params := (fnA 46), body := .stmts (fnB 46), scope := (fnC 46), globals := 0, closure := [], defaults := .none, kwdefaults := .none } }
noncomputable def fo_407 (P : Params) : Obj := { cls := .type "code", data := .fields #[.str (S "log_to") 692, .str (S "log_to") 693, .str (S "/claim/cut.py") 694, .int 304 0, .int 2 0, .int 0 0, .int 0 0, .int 3 0, .ref 402, .bool true, .int 181 0, .ref 403, .none, .ref 404, .ref 405, .ref 406, .int 697 0, .int 304 0, .str (S "/claim/cut.py") 698] }
noncomputable def fo_408 (P : Params) : Obj := { cls := .type "function", data := .func { name := S "log_to", qualname := S "log_to", params := (fnA 46), body := .stmts (fnB 46), scope := (fnC 46), globals := 3, closure := [], defaults := .none, kwdefaults := .none, pyModule := .str (S "vectorcove.mathfun") 637, code := .ref 407 } }
noncomputable def fo_409 (P : Params) : Obj := { cls := .type "tuple", data := .seq #[] }
noncomputable def fo_410 (P : Params) : Obj := { cls := .none, data := .fields #[] }
noncomputable def fo_411 (P : Params) : Obj := { cls := .type "tuple", data := .seq #[.str (S "name") 703, .str (S "x") 704] }
noncomputable def fo_412 (P : Params) : Obj := { cls := .type "tuple", data := .seq #[] }
noncomputable def fo_413 (P : Params) : Obj := { cls := .none, data := .func { name := S "math_item", qualname := S "math_item", params := (fnA 47), body := .stmts (fnB 47), scope := (fnC 47), globals := 0, closure := [], defaults := .none, kwdefaults := .none } }
noncomputable def fo_414 (P : Params) : Obj := { cls := .type "code", data := .fields #[.str (S "math_item") 700, .str (S "math_item") 701, .str (S "/claim/cut.py") 702, .int 316 0, .int 2 0, .int 0 0, .int 0 0, .int 3 0, .ref 409, .bool true, .int 181 0, .ref 410, .none, .ref 411, .ref 412, .ref 413, .int 705 0, .int 316 0, .str (S "/claim/cut.py") 706] }
noncomputable def fo_415 (P : Params) : Obj := { cls := .type "function", data := .func { name := S "math_item", qualname := S "math_item", params := (fnA 47), body := .stmts (fnB 47), scope := (fnC 47), globals := 3, closure := [], defaults := .none, kwdefaults := .none, pyModule := .str (S "vectorcove.mathfun") 637, code := .ref 414 } }
noncomputable def fo_416 (P : Params) : Obj := { cls := .type "tuple", data := .seq #[] }
noncomputable def fo_417 (P : Params) : Obj := { cls := .none, data := .fields #[] }
noncomputable def fo_418 (P : Params) : Obj := { cls := .none, data := .func { name := S "math1", qualname := S "math1", params := (fnA 48), body := .stmts (fnB 48), scope := (fnC 48), globals := 0, closure := [], defaults := .none, kwdefaults := .none } }
noncomputable def fo_419 (P : Params) : Obj := { cls := .type "code", data := .fields #[.str (S "math1") 708, .str (S "math1") 709, .str (S "/claim/cut.py") 710, .int 336 0, .int 3 0, .int 0 0, .int 0 0, .int 3 0, .ref 416, .bool true, .int 181 0, .ref 417, .none, .none, .none, .ref 418, .int 711 0, .int 336 0, .str (S "/claim/cut.py") 712] }
noncomputable def fo_420 (P : Params) : Obj := { cls := .type "function", data := .func { name := S "math1", qualname := S "math1", params := (fnA 48), body := .stmts (fnB 48), scope := (fnC 48), globals := 3, closure := [], defaults := .none, kwdefaults := .none, pyModule := .str (S "vectorcove.mathfun") 637, code := .ref 419 } }
noncomputable def fo_421 (P : Params) : Obj := { cls := .type "tuple", data := .seq #[] }
noncomputable def fo_422 (P : Params) : Obj := { cls := .none, data := .fields #[] }
noncomputable def fo_423 (P : Params) : Obj := { cls := .type "tuple", data := .seq #[.str (S "interp") 719, .str (S "notes") 720, .str (S "value") 721] }
noncomputable def fo_424 (P : Params) : Obj := { cls := .type "tuple", data := .seq #[] }
noncomputable def fo_425 (P : Params) : Obj := { cls := .none, data := .func { name := S "finish", qualname := S "finish", params := (fnA 49), body := .stmts (fnB 49), scope := (fnC 49), globals := 0, closure := [], defaults := .none, kwdefaults := .none } }
noncomputable def fo_426 (P : Params) : Obj := { cls := .type "code", data := .fields #[.str (S "finish") 716, .str (S "finish") 717, .str (S "/claim/cut.py") 718, .int 351 0, .int 3 0, .int 0 0, .int 0 0, .int 3 0, .ref 421, .bool true, .int 181 0, .ref 422, .none, .ref 423, .ref 424, .ref 425, .int 722 0, .int 351 0, .str (S "/claim/cut.py") 723] }
noncomputable def fo_427 (P : Params) : Obj := { cls := .type "function", data := .func { name := S "finish", qualname := S "finish", params := (fnA 49), body := .stmts (fnB 49), scope := (fnC 49), globals := 3, closure := [], defaults := .none, kwdefaults := .none, pyModule := .str (S "vectorcove.sumcalls") 714, code := .ref 426 } }
noncomputable def fo_428 (P : Params) : Obj := { cls := .type "tuple", data := .seq #[] }
noncomputable def fo_429 (P : Params) : Obj := { cls := .none, data := .fields #[] }
noncomputable def fo_430 (P : Params) : Obj := { cls := .type "tuple", data := .seq #[.str (S "x") 730, .str (S "base") 731, .str (S "order") 732] }
noncomputable def fo_431 (P : Params) : Obj := { cls := .type "tuple", data := .seq #[] }
noncomputable def fo_432 (P : Params) : Obj := { cls := .none, data := .func { name := S "log_beside", qualname := S "log_beside", params := (fnA 50), body := .stmts (fnB 50), scope := (fnC 50), globals := 0, closure := [], defaults := .none, kwdefaults := .none } }
noncomputable def fo_433 (P : Params) : Obj := { cls := .type "code", data := .fields #[.str (S "log_beside") 727, .str (S "log_beside") 728, .str (S "/claim/cut.py") 729, .int 356 0, .int 2 0, .int 0 0, .int 0 0, .int 3 0, .ref 428, .bool true, .int 181 0, .ref 429, .none, .ref 430, .ref 431, .ref 432, .int 733 0, .int 356 0, .str (S "/claim/cut.py") 734] }
noncomputable def fo_434 (P : Params) : Obj := { cls := .type "function", data := .func { name := S "log_beside", qualname := S "log_beside", params := (fnA 50), body := .stmts (fnB 50), scope := (fnC 50), globals := 3, closure := [], defaults := .none, kwdefaults := .none, pyModule := .str (S "vectorcove.arithcalls") 725, code := .ref 433 } }
noncomputable def fo_435 (P : Params) : Obj := { cls := .type "tuple", data := .seq #[] }
noncomputable def fo_436 (P : Params) : Obj := { cls := .none, data := .fields #[] }
noncomputable def fo_437 (P : Params) : Obj := { cls := .type "tuple", data := .seq #[.str (S "interp") 739, .str (S "args") 740, .str (S "env") 741, .str (S "x") 742, .str (S "base") 743, .str (S "notes") 744, .str (S "given") 745, .str (S "bases") 746, .str (S "found") 747, .str (S "i") 748, .str (S "one") 749, .str (S "other") 750] }
noncomputable def fo_438 (P : Params) : Obj := { cls := .type "tuple", data := .seq #[] }
noncomputable def fo_439 (P : Params) : Obj := { cls := .none, data := .func { name := S "b_log", qualname := S "b_log", params := (fnA 51), body := .stmts (fnB 51), scope := (fnC 51), globals := 0, closure := [], defaults := .none, kwdefaults := .none } }
noncomputable def fo_440 (P : Params) : Obj := { cls := .type "code", data := .fields #[.str (S "b_log") 736, .str (S "b_log") 737, .str (S "/claim/cut.py") 738, .int 367 0, .int 3 0, .int 0 0, .int 0 0, .int 3 0, .ref 435, .bool true, .int 181 0, .ref 436, .none, .ref 437, .ref 438, .ref 439, .int 751 0, .int 367 0, .str (S "/claim/cut.py") 752] }
noncomputable def fo_441 (P : Params) : Obj := { cls := .type "function", data := .func { name := S "b_log", qualname := S "b_log", params := (fnA 51), body := .stmts (fnB 51), scope := (fnC 51), globals := 3, closure := [], defaults := .none, kwdefaults := .none, pyModule := .str (S "vectorcove.arithcalls") 725, code := .ref 440 } }
noncomputable def fo_442 (P : Params) : Obj := { cls := .type "tuple", data := .seq #[] }
noncomputable def fo_443 (P : Params) : Obj := { cls := .none, data := .fields #[] }
noncomputable def fo_444 (P : Params) : Obj := { cls := .type "tuple", data := .seq #[.str (S "x") 757, .str (S "result") 758] }
noncomputable def fo_445 (P : Params) : Obj := { cls := .type "tuple", data := .seq #[] }
noncomputable def fo_446 (P : Params) : Obj := { cls := .none, data := .func { name := S "kept_beside", qualname := S "kept_beside", params := (fnA 52), body := .stmts (fnB 52), scope := (fnC 52), globals := 0, closure := [], defaults := .none, kwdefaults := .none } }
noncomputable def fo_447 (P : Params) : Obj := { cls := .type "code", data := .fields #[.str (S "kept_beside") 754, .str (S "kept_beside") 755, .str (S "/claim/cut.py") 756, .int 385 0, .int 2 0, .int 0 0, .int 0 0, .int 3 0, .ref 442, .bool true, .int 181 0, .ref 443, .none, .ref 444, .ref 445, .ref 446, .int 759 0, .int 385 0, .str (S "/claim/cut.py") 760] }
noncomputable def fo_448 (P : Params) : Obj := { cls := .type "function", data := .func { name := S "kept_beside", qualname := S "kept_beside", params := (fnA 52), body := .stmts (fnB 52), scope := (fnC 52), globals := 3, closure := [], defaults := .none, kwdefaults := .none, pyModule := .str (S "vectorcove.arithcalls") 725, code := .ref 447 } }
noncomputable def fo_449 (P : Params) : Obj := { cls := .type "tuple", data := .seq #[] }
noncomputable def fo_450 (P : Params) : Obj := { cls := .type "builtin_function_or_method", data := .fields #[.builtin "type.__prepare__", .type "type"] }
noncomputable def fo_451 (P : Params) : Obj := { cls := .type "dict", data := .dict #[(en P "__module__" 771 (.str (S "vectorcove.evaluator") 762)), (en P "__qualname__" 773 (.str (S "Evaluator") 772)), (en P "__firstlineno__" 775 (.int 390 774)), (en P "__init__" 786 (.ref 463)), (en P "new_env" 795 (.ref 470)), (en P "define" 807 (.ref 478)), (en P "tick" 814 (.ref 485)), (en P "signal_error" 823 (.ref 492)), (en P "warn_all" 834 (.ref 500)), (en P "running_call" 841 (.ref 507)), (en P "eval" 850 (.ref 514)), (en P "variable" 859 (.ref 521)), (en P "dots_value" 868 (.ref 528)), (en P "force" 876 (.ref 535)), (en P "find_function" 886 (.ref 543)), (en P "function_of" 895 (.ref 550)), (en P "eval_call" 904 (.ref 557)), (en P "plain_call" 913 (.ref 564)), (en P "spread_dots" 921 (.ref 571)), (en P "promise_args" 931 (.ref 578)), (en P "eager_args" 943 (.ref 586)), (en P "empty_arg" 954 (.ref 593)), (en P "call_special" 964 (.ref 600)), (en P "call_builtin" 975 (.ref 607)), (en P "apply_closure" 987 (.ref 615)), (en P "leave" 996 (.ref 622)), (en P "run_exits" 1004 (.ref 629)), (en P "shower" 1011 (.ref 636)), (en P "call_value" 1022 (.ref 644)), (en P "run" 1030 (.ref 651)), (en P "__static_attributes__" 1050 (.ref 652))] 31 }
noncomputable def fo_452 (P : Params) : Obj := { cls := .type "tuple", data := .seq #[] }
noncomputable def fo_453 (P : Params) : Obj := { cls := .none, data := .fields #[.int 392 0, .int 4 0, .ref 462, .int 413 0, .int 4 0, .ref 469, .int 418 0, .int 4 0, .ref 477, .int 421 0, .int 4 0, .ref 484, .int 424 0, .int 4 0, .ref 491, .int 427 0, .int 4 0, .ref 499, .int 438 0, .int 4 0, .ref 506, .int 441 0, .int 4 0, .ref 513, .int 444 0, .int 4 0, .ref 520, .int 447 0, .int 4 0, .ref 527, .int 450 0, .int 4 0, .ref 534, .int 453 0, .int 4 0, .ref 542, .int 456 0, .int 4 0, .ref 549, .int 459 0, .int 4 0, .ref 556, .int 462 0, .int 4 0, .ref 563, .int 465 0, .int 4 0, .ref 570, .int 468 0, .int 4 0, .ref 577, .int 471 0, .int 4 0, .ref 585, .int 474 0, .int 4 0, .ref 592, .int 477 0, .int 4 0, .ref 599, .int 480 0, .int 4 0, .ref 606, .int 483 0, .int 4 0, .ref 614, .int 486 0, .int 4 0, .ref 621, .int 489 0, .int 4 0, .ref 628, .int 492 0, .int 4 0, .ref 635, .int 495 0, .int 4 0, .ref 643, .int 498 0, .int 4 0, .ref 650] }
noncomputable def fo_454 (P : Params) : Obj := { cls := .type "code", data := .fields #[.str (S "Evaluator") 766, .str (S "Evaluator") 767, .str (S "/claim/cut.py") 768, .int 390 0, .int 0 0, .int 0 0, .int 0 0, .int 0 0, .ref 452, .bool false, .int 181 0, .ref 453, .none, .none, .none, .none, .int 769 0, .int 390 0, .str (S "/claim/cut.py") 770] }
noncomputable def fo_455 (P : Params) : Obj := { cls := .type "frame", slots := #[some (.ref 454), some (.ref 3), some (.ref 451), none, some (.str (S "vectorcove.evaluator") 762), none, some (.ref 0)] }
noncomputable def fo_456 (P : Params) : Obj := { cls := .type "tuple", data := .seq #[.int 20000 776, .int 40 777] }
noncomputable def fo_457 (P : Params) : Obj := { cls := .type "tuple", data := .seq #[] }
noncomputable def fo_458 (P : Params) : Obj := { cls := .none, data := .fields #[] }
noncomputable def fo_459 (P : Params) : Obj := { cls := .type "tuple", data := .seq #[.str (S "self") 781, .str (S "limit") 782, .str (S "most_frames") 783] }
noncomputable def fo_460 (P : Params) : Obj := { cls := .type "tuple", data := .seq #[] }
noncomputable def fo_461 (P : Params) : Obj := { cls := .none, data := .func { name := S "__init__", qualname := S "Evaluator.__init__", params := (fnA 53), body := .stmts (fnB 53), scope := (fnC 53), globals := 0, closure := [], defaults := .none, kwdefaults := .none } }
noncomputable def fo_462 (P : Params) : Obj := { cls := .type "code", data := .fields #[.str (S "__init__") 778, .str (S "Evaluator.__init__") 779, .str (S "/claim/cut.py") 780, .int 392 0, .int 3 0, .int 0 0, .int 0 0, .int 3 0, .ref 457, .bool true, .int 181 0, .ref 458, .none, .ref 459, .ref 460, .ref 461, .int 784 0, .int 392 0, .str (S "/claim/cut.py") 785] }
noncomputable def fo_463 (P : Params) : Obj := { cls := .type "function", data := .func { name := S "__init__", qualname := S "Evaluator.__init__", params := (fnA 53), body := .stmts (fnB 53), scope := (fnC 53), globals := 3, closure := [], defaults := .ref 456, kwdefaults := .none, pyModule := .str (S "vectorcove.evaluator") 762, code := .ref 462 } }
noncomputable def fo_464 (P : Params) : Obj := { cls := .type "tuple", data := .seq #[] }
noncomputable def fo_465 (P : Params) : Obj := { cls := .none, data := .fields #[] }
noncomputable def fo_466 (P : Params) : Obj := { cls := .type "tuple", data := .seq #[.str (S "self") 790, .str (S "parent") 791, .str (S "env") 792] }
noncomputable def fo_467 (P : Params) : Obj := { cls := .type "tuple", data := .seq #[] }
noncomputable def fo_468 (P : Params) : Obj := { cls := .none, data := .func { name := S "new_env", qualname := S "Evaluator.new_env", params := (fnA 54), body := .stmts (fnB 54), scope := (fnC 54), globals := 0, closure := [], defaults := .none, kwdefaults := .none } }
noncomputable def fo_469 (P : Params) : Obj := { cls := .type "code", data := .fields #[.str (S "new_env") 787, .str (S "Evaluator.new_env") 788, .str (S "/claim/cut.py") 789, .int 413 0, .int 2 0, .int 0 0, .int 0 0, .int 3 0, .ref 464, .bool true, .int 181 0, .ref 465, .none, .ref 466, .ref 467, .ref 468, .int 793 0, .int 413 0, .str (S "/claim/cut.py") 794] }
noncomputable def fo_470 (P : Params) : Obj := { cls := .type "function", data := .func { name := S "new_env", qualname := S "Evaluator.new_env", params := (fnA 54), body := .stmts (fnB 54), scope := (fnC 54), globals := 3, closure := [], defaults := .none, kwdefaults := .none, pyModule := .str (S "vectorcove.evaluator") 762, code := .ref 469 } }
noncomputable def fo_471 (P : Params) : Obj := { cls := .type "tuple", data := .seq #[.str (S "") 796] }
noncomputable def fo_472 (P : Params) : Obj := { cls := .type "tuple", data := .seq #[] }
noncomputable def fo_473 (P : Params) : Obj := { cls := .none, data := .fields #[] }
noncomputable def fo_474 (P : Params) : Obj := { cls := .type "tuple", data := .seq #[.str (S "self") 800, .str (S "name") 801, .str (S "special") 802, .str (S "fn") 803, .str (S "group") 804] }
noncomputable def fo_475 (P : Params) : Obj := { cls := .type "tuple", data := .seq #[] }
noncomputable def fo_476 (P : Params) : Obj := { cls := .none, data := .func { name := S "define", qualname := S "Evaluator.define", params := (fnA 55), body := .stmts (fnB 55), scope := (fnC 55), globals := 0, closure := [], defaults := .none, kwdefaults := .none } }
noncomputable def fo_477 (P : Params) : Obj := { cls := .type "code", data := .fields #[.str (S "define") 797, .str (S "Evaluator.define") 798, .str (S "/claim/cut.py") 799, .int 418 0, .int 5 0, .int 0 0, .int 0 0, .int 3 0, .ref 472, .bool true, .int 181 0, .ref 473, .none, .ref 474, .ref 475, .ref 476, .int 805 0, .int 418 0, .str (S "/claim/cut.py") 806] }
noncomputable def fo_478 (P : Params) : Obj := { cls := .type "function", data := .func { name := S "define", qualname := S "Evaluator.define", params := (fnA 55), body := .stmts (fnB 55), scope := (fnC 55), globals := 3, closure := [], defaults := .ref 471, kwdefaults := .none, pyModule := .str (S "vectorcove.evaluator") 762, code := .ref 477 } }
noncomputable def fo_479 (P : Params) : Obj := { cls := .type "tuple", data := .seq #[] }
noncomputable def fo_480 (P : Params) : Obj := { cls := .none, data := .fields #[] }
noncomputable def fo_481 (P : Params) : Obj := { cls := .type "tuple", data := .seq #[.str (S "self") 811] }
noncomputable def fo_482 (P : Params) : Obj := { cls := .type "tuple", data := .seq #[] }
noncomputable def fo_483 (P : Params) : Obj := { cls := .none, data := .func { name := S "tick", qualname := S "Evaluator.tick", params := (fnA 56), body := .stmts (fnB 56), scope := (fnC 56), globals := 0, closure := [], defaults := .none, kwdefaults := .none } }
noncomputable def fo_484 (P : Params) : Obj := { cls := .type "code", data := .fields #[.str (S "tick") 808, .str (S "Evaluator.tick") 809, .str (S "/claim/cut.py") 810, .int 421 0, .int 1 0, .int 0 0, .int 0 0, .int 3 0, .ref 479, .bool true, .int 181 0, .ref 480, .none, .ref 481, .ref 482, .ref 483, .int 812 0, .int 421 0, .str (S "/claim/cut.py") 813] }
noncomputable def fo_485 (P : Params) : Obj := { cls := .type "function", data := .func { name := S "tick", qualname := S "Evaluator.tick", params := (fnA 56), body := .stmts (fnB 56), scope := (fnC 56), globals := 3, closure := [], defaults := .none, kwdefaults := .none, pyModule := .str (S "vectorcove.evaluator") 762, code := .ref 484 } }
noncomputable def fo_486 (P : Params) : Obj := { cls := .type "tuple", data := .seq #[] }
noncomputable def fo_487 (P : Params) : Obj := { cls := .none, data := .fields #[] }
noncomputable def fo_488 (P : Params) : Obj := { cls := .type "tuple", data := .seq #[.str (S "self") 818, .str (S "message") 819, .str (S "call") 820] }
noncomputable def fo_489 (P : Params) : Obj := { cls := .type "tuple", data := .seq #[] }
noncomputable def fo_490 (P : Params) : Obj := { cls := .none, data := .func { name := S "signal_error", qualname := S "Evaluator.signal_error", params := (fnA 57), body := .stmts (fnB 57), scope := (fnC 57), globals := 0, closure := [], defaults := .none, kwdefaults := .none } }
noncomputable def fo_491 (P : Params) : Obj := { cls := .type "code", data := .fields #[.str (S "signal_error") 815, .str (S "Evaluator.signal_error") 816, .str (S "/claim/cut.py") 817, .int 424 0, .int 3 0, .int 0 0, .int 0 0, .int 3 0, .ref 486, .bool true, .int 181 0, .ref 487, .none, .ref 488, .ref 489, .ref 490, .int 821 0, .int 424 0, .str (S "/claim/cut.py") 822] }
noncomputable def fo_492 (P : Params) : Obj := { cls := .type "function", data := .func { name := S "signal_error", qualname := S "Evaluator.signal_error", params := (fnA 57), body := .stmts (fnB 57), scope := (fnC 57), globals := 3, closure := [], defaults := .none, kwdefaults := .none, pyModule := .str (S "vectorcove.evaluator") 762, code := .ref 491 } }
noncomputable def fo_493 (P : Params) : Obj := { cls := .type "tuple", data := .seq #[.none] }
noncomputable def fo_494 (P : Params) : Obj := { cls := .type "tuple", data := .seq #[] }
noncomputable def fo_495 (P : Params) : Obj := { cls := .none, data := .fields #[] }
noncomputable def fo_496 (P : Params) : Obj := { cls := .type "tuple", data := .seq #[.str (S "self") 827, .str (S "notes") 828, .str (S "call") 829, .str (S "visible") 830, .str (S "note") 831] }
noncomputable def fo_497 (P : Params) : Obj := { cls := .type "tuple", data := .seq #[] }
noncomputable def fo_498 (P : Params) : Obj := { cls := .none, data := .func { name := S "warn_all", qualname := S "Evaluator.warn_all", params := (fnA 58), body := .stmts (fnB 58), scope := (fnC 58), globals := 0, closure := [], defaults := .none, kwdefaults := .none } }
noncomputable def fo_499 (P : Params) : Obj := { cls := .type "code", data := .fields #[.str (S "warn_all") 824, .str (S "Evaluator.warn_all") 825, .str (S "/claim/cut.py") 826, .int 427 0, .int 3 0, .int 0 0, .int 0 0, .int 3 0, .ref 494, .bool true, .int 181 0, .ref 495, .none, .ref 496, .ref 497, .ref 498, .int 832 0, .int 427 0, .str (S "/claim/cut.py") 833] }
noncomputable def fo_500 (P : Params) : Obj := { cls := .type "function", data := .func { name := S "warn_all", qualname := S "Evaluator.warn_all", params := (fnA 58), body := .stmts (fnB 58), scope := (fnC 58), globals := 3, closure := [], defaults := .ref 493, kwdefaults := .none, pyModule := .str (S "vectorcove.evaluator") 762, code := .ref 499 } }
noncomputable def fo_501 (P : Params) : Obj := { cls := .type "tuple", data := .seq #[] }
noncomputable def fo_502 (P : Params) : Obj := { cls := .none, data := .fields #[] }
noncomputable def fo_503 (P : Params) : Obj := { cls := .type "tuple", data := .seq #[.str (S "self") 838] }
noncomputable def fo_504 (P : Params) : Obj := { cls := .type "tuple", data := .seq #[] }
noncomputable def fo_505 (P : Params) : Obj := { cls := .none, data := .func { name := S "running_call", qualname := S "Evaluator.running_call", params := (fnA 59), body := .stmts (fnB 59), scope := (fnC 59), globals := 0, closure := [], defaults := .none, kwdefaults := .none } }
noncomputable def fo_506 (P : Params) : Obj := { cls := .type "code", data := .fields #[.str (S "running_call") 835, .str (S "Evaluator.running_call") 836, .str (S "/claim/cut.py") 837, .int 438 0, .int 1 0, .int 0 0, .int 0 0, .int 3 0, .ref 501, .bool true, .int 181 0, .ref 502, .none, .ref 503, .ref 504, .ref 505, .int 839 0, .int 438 0, .str (S "/claim/cut.py") 840] }
noncomputable def fo_507 (P : Params) : Obj := { cls := .type "function", data := .func { name := S "running_call", qualname := S "Evaluator.running_call", params := (fnA 59), body := .stmts (fnB 59), scope := (fnC 59), globals := 3, closure := [], defaults := .none, kwdefaults := .none, pyModule := .str (S "vectorcove.evaluator") 762, code := .ref 506 } }
noncomputable def fo_508 (P : Params) : Obj := { cls := .type "tuple", data := .seq #[] }
noncomputable def fo_509 (P : Params) : Obj := { cls := .none, data := .fields #[] }
noncomputable def fo_510 (P : Params) : Obj := { cls := .type "tuple", data := .seq #[.str (S "self") 845, .str (S "e") 846, .str (S "env") 847] }
noncomputable def fo_511 (P : Params) : Obj := { cls := .type "tuple", data := .seq #[] }
noncomputable def fo_512 (P : Params) : Obj := { cls := .none, data := .func { name := S "eval", qualname := S "Evaluator.eval", params := (fnA 60), body := .stmts (fnB 60), scope := (fnC 60), globals := 0, closure := [], defaults := .none, kwdefaults := .none } }
noncomputable def fo_513 (P : Params) : Obj := { cls := .type "code", data := .fields #[.str (S "eval") 842, .str (S "Evaluator.eval") 843, .str (S "/claim/cut.py") 844, .int 441 0, .int 3 0, .int 0 0, .int 0 0, .int 3 0, .ref 508, .bool true, .int 181 0, .ref 509, .none, .ref 510, .ref 511, .ref 512, .int 848 0, .int 441 0, .str (S "/claim/cut.py") 849] }
noncomputable def fo_514 (P : Params) : Obj := { cls := .type "function", data := .func { name := S "eval", qualname := S "Evaluator.eval", params := (fnA 60), body := .stmts (fnB 60), scope := (fnC 60), globals := 3, closure := [], defaults := .none, kwdefaults := .none, pyModule := .str (S "vectorcove.evaluator") 762, code := .ref 513 } }
noncomputable def fo_515 (P : Params) : Obj := { cls := .type "tuple", data := .seq #[] }
noncomputable def fo_516 (P : Params) : Obj := { cls := .none, data := .fields #[] }
noncomputable def fo_517 (P : Params) : Obj := { cls := .type "tuple", data := .seq #[.str (S "self") 854, .str (S "name") 855, .str (S "env") 856] }
noncomputable def fo_518 (P : Params) : Obj := { cls := .type "tuple", data := .seq #[] }
noncomputable def fo_519 (P : Params) : Obj := { cls := .none, data := .func { name := S "variable", qualname := S "Evaluator.variable", params := (fnA 61), body := .stmts (fnB 61), scope := (fnC 61), globals := 0, closure := [], defaults := .none, kwdefaults := .none } }
noncomputable def fo_520 (P : Params) : Obj := { cls := .type "code", data := .fields #[.str (S "variable") 851, .str (S "Evaluator.variable") 852, .str (S "/claim/cut.py") 853, .int 444 0, .int 3 0, .int 0 0, .int 0 0, .int 3 0, .ref 515, .bool true, .int 181 0, .ref 516, .none, .ref 517, .ref 518, .ref 519, .int 857 0, .int 444 0, .str (S "/claim/cut.py") 858] }
noncomputable def fo_521 (P : Params) : Obj := { cls := .type "function", data := .func { name := S "variable", qualname := S "Evaluator.variable", params := (fnA 61), body := .stmts (fnB 61), scope := (fnC 61), globals := 3, closure := [], defaults := .none, kwdefaults := .none, pyModule := .str (S "vectorcove.evaluator") 762, code := .ref 520 } }
noncomputable def fo_522 (P : Params) : Obj := { cls := .type "tuple", data := .seq #[] }
noncomputable def fo_523 (P : Params) : Obj := { cls := .none, data := .fields #[] }
noncomputable def fo_524 (P : Params) : Obj := { cls := .type "tuple", data := .seq #[.str (S "self") 863, .str (S "name") 864, .str (S "env") 865] }
noncomputable def fo_525 (P : Params) : Obj := { cls := .type "tuple", data := .seq #[] }
noncomputable def fo_526 (P : Params) : Obj := { cls := .none, data := .func { name := S "dots_value", qualname := S "Evaluator.dots_value", params := (fnA 62), body := .stmts (fnB 62), scope := (fnC 62), globals := 0, closure := [], defaults := .none, kwdefaults := .none } }
noncomputable def fo_527 (P : Params) : Obj := { cls := .type "code", data := .fields #[.str (S "dots_value") 860, .str (S "Evaluator.dots_value") 861, .str (S "/claim/cut.py") 862, .int 447 0, .int 3 0, .int 0 0, .int 0 0, .int 3 0, .ref 522, .bool true, .int 181 0, .ref 523, .none, .ref 524, .ref 525, .ref 526, .int 866 0, .int 447 0, .str (S "/claim/cut.py") 867] }
noncomputable def fo_528 (P : Params) : Obj := { cls := .type "function", data := .func { name := S "dots_value", qualname := S "Evaluator.dots_value", params := (fnA 62), body := .stmts (fnB 62), scope := (fnC 62), globals := 3, closure := [], defaults := .none, kwdefaults := .none, pyModule := .str (S "vectorcove.evaluator") 762, code := .ref 527 } }
noncomputable def fo_529 (P : Params) : Obj := { cls := .type "tuple", data := .seq #[] }
noncomputable def fo_530 (P : Params) : Obj := { cls := .none, data := .fields #[] }
noncomputable def fo_531 (P : Params) : Obj := { cls := .type "tuple", data := .seq #[.str (S "self") 872, .str (S "promise") 873] }
noncomputable def fo_532 (P : Params) : Obj := { cls := .type "tuple", data := .seq #[] }
noncomputable def fo_533 (P : Params) : Obj := { cls := .none, data := .func { name := S "force", qualname := S "Evaluator.force", params := (fnA 63), body := .stmts (fnB 63), scope := (fnC 63), globals := 0, closure := [], defaults := .none, kwdefaults := .none } }
noncomputable def fo_534 (P : Params) : Obj := { cls := .type "code", data := .fields #[.str (S "force") 869, .str (S "Evaluator.force") 870, .str (S "/claim/cut.py") 871, .int 450 0, .int 2 0, .int 0 0, .int 0 0, .int 3 0, .ref 529, .bool true, .int 181 0, .ref 530, .none, .ref 531, .ref 532, .ref 533, .int 874 0, .int 450 0, .str (S "/claim/cut.py") 875] }
noncomputable def fo_535 (P : Params) : Obj := { cls := .type "function", data := .func { name := S "force", qualname := S "Evaluator.force", params := (fnA 63), body := .stmts (fnB 63), scope := (fnC 63), globals := 3, closure := [], defaults := .none, kwdefaults := .none, pyModule := .str (S "vectorcove.evaluator") 762, code := .ref 534 } }
noncomputable def fo_536 (P : Params) : Obj := { cls := .type "tuple", data := .seq #[.none] }
noncomputable def fo_537 (P : Params) : Obj := { cls := .type "tuple", data := .seq #[] }
noncomputable def fo_538 (P : Params) : Obj := { cls := .none, data := .fields #[] }
noncomputable def fo_539 (P : Params) : Obj := { cls := .type "tuple", data := .seq #[.str (S "self") 880, .str (S "name") 881, .str (S "env") 882, .str (S "call") 883] }
noncomputable def fo_540 (P : Params) : Obj := { cls := .type "tuple", data := .seq #[] }
noncomputable def fo_541 (P : Params) : Obj := { cls := .none, data := .func { name := S "find_function", qualname := S "Evaluator.find_function", params := (fnA 64), body := .stmts (fnB 64), scope := (fnC 64), globals := 0, closure := [], defaults := .none, kwdefaults := .none } }
noncomputable def fo_542 (P : Params) : Obj := { cls := .type "code", data := .fields #[.str (S "find_function") 877, .str (S "Evaluator.find_function") 878, .str (S "/claim/cut.py") 879, .int 453 0, .int 4 0, .int 0 0, .int 0 0, .int 3 0, .ref 537, .bool true, .int 181 0, .ref 538, .none, .ref 539, .ref 540, .ref 541, .int 884 0, .int 453 0, .str (S "/claim/cut.py") 885] }
noncomputable def fo_543 (P : Params) : Obj := { cls := .type "function", data := .func { name := S "find_function", qualname := S "Evaluator.find_function", params := (fnA 64), body := .stmts (fnB 64), scope := (fnC 64), globals := 3, closure := [], defaults := .ref 536, kwdefaults := .none, pyModule := .str (S "vectorcove.evaluator") 762, code := .ref 542 } }
noncomputable def fo_544 (P : Params) : Obj := { cls := .type "tuple", data := .seq #[] }
noncomputable def fo_545 (P : Params) : Obj := { cls := .none, data := .fields #[] }
noncomputable def fo_546 (P : Params) : Obj := { cls := .type "tuple", data := .seq #[.str (S "self") 890, .str (S "call") 891, .str (S "env") 892] }
noncomputable def fo_547 (P : Params) : Obj := { cls := .type "tuple", data := .seq #[] }
noncomputable def fo_548 (P : Params) : Obj := { cls := .none, data := .func { name := S "function_of", qualname := S "Evaluator.function_of", params := (fnA 65), body := .stmts (fnB 65), scope := (fnC 65), globals := 0, closure := [], defaults := .none, kwdefaults := .none } }
noncomputable def fo_549 (P : Params) : Obj := { cls := .type "code", data := .fields #[.str (S "function_of") 887, .str (S "Evaluator.function_of") 888, .str (S "/claim/cut.py") 889, .int 456 0, .int 3 0, .int 0 0, .int 0 0, .int 3 0, .ref 544, .bool true, .int 181 0, .ref 545, .none, .ref 546, .ref 547, .ref 548, .int 893 0, .int 456 0, .str (S "/claim/cut.py") 894] }
noncomputable def fo_550 (P : Params) : Obj := { cls := .type "function", data := .func { name := S "function_of", qualname := S "Evaluator.function_of", params := (fnA 65), body := .stmts (fnB 65), scope := (fnC 65), globals := 3, closure := [], defaults := .none, kwdefaults := .none, pyModule := .str (S "vectorcove.evaluator") 762, code := .ref 549 } }
noncomputable def fo_551 (P : Params) : Obj := { cls := .type "tuple", data := .seq #[] }
noncomputable def fo_552 (P : Params) : Obj := { cls := .none, data := .fields #[] }
noncomputable def fo_553 (P : Params) : Obj := { cls := .type "tuple", data := .seq #[.str (S "self") 899, .str (S "call") 900, .str (S "env") 901] }
noncomputable def fo_554 (P : Params) : Obj := { cls := .type "tuple", data := .seq #[] }
noncomputable def fo_555 (P : Params) : Obj := { cls := .none, data := .func { name := S "eval_call", qualname := S "Evaluator.eval_call", params := (fnA 66), body := .stmts (fnB 66), scope := (fnC 66), globals := 0, closure := [], defaults := .none, kwdefaults := .none } }
noncomputable def fo_556 (P : Params) : Obj := { cls := .type "code", data := .fields #[.str (S "eval_call") 896, .str (S "Evaluator.eval_call") 897, .str (S "/claim/cut.py") 898, .int 459 0, .int 3 0, .int 0 0, .int 0 0, .int 3 0, .ref 551, .bool true, .int 181 0, .ref 552, .none, .ref 553, .ref 554, .ref 555, .int 902 0, .int 459 0, .str (S "/claim/cut.py") 903] }
noncomputable def fo_557 (P : Params) : Obj := { cls := .type "function", data := .func { name := S "eval_call", qualname := S "Evaluator.eval_call", params := (fnA 66), body := .stmts (fnB 66), scope := (fnC 66), globals := 3, closure := [], defaults := .none, kwdefaults := .none, pyModule := .str (S "vectorcove.evaluator") 762, code := .ref 556 } }
noncomputable def fo_558 (P : Params) : Obj := { cls := .type "tuple", data := .seq #[] }
noncomputable def fo_559 (P : Params) : Obj := { cls := .none, data := .fields #[] }
noncomputable def fo_560 (P : Params) : Obj := { cls := .type "tuple", data := .seq #[.str (S "self") 908, .str (S "call") 909, .str (S "env") 910] }
noncomputable def fo_561 (P : Params) : Obj := { cls := .type "tuple", data := .seq #[] }
noncomputable def fo_562 (P : Params) : Obj := { cls := .none, data := .func { name := S "plain_call", qualname := S "Evaluator.plain_call", params := (fnA 67), body := .stmts (fnB 67), scope := (fnC 67), globals := 0, closure := [], defaults := .none, kwdefaults := .none } }
noncomputable def fo_563 (P : Params) : Obj := { cls := .type "code", data := .fields #[.str (S "plain_call") 905, .str (S "Evaluator.plain_call") 906, .str (S "/claim/cut.py") 907, .int 462 0, .int 3 0, .int 0 0, .int 0 0, .int 3 0, .ref 558, .bool true, .int 181 0, .ref 559, .none, .ref 560, .ref 561, .ref 562, .int 911 0, .int 462 0, .str (S "/claim/cut.py") 912] }
noncomputable def fo_564 (P : Params) : Obj := { cls := .type "function", data := .func { name := S "plain_call", qualname := S "Evaluator.plain_call", params := (fnA 67), body := .stmts (fnB 67), scope := (fnC 67), globals := 3, closure := [], defaults := .none, kwdefaults := .none, pyModule := .str (S "vectorcove.evaluator") 762, code := .ref 563 } }
noncomputable def fo_565 (P : Params) : Obj := { cls := .type "tuple", data := .seq #[] }
noncomputable def fo_566 (P : Params) : Obj := { cls := .none, data := .fields #[] }
noncomputable def fo_567 (P : Params) : Obj := { cls := .type "tuple", data := .seq #[.str (S "self") 917, .str (S "env") 918] }
noncomputable def fo_568 (P : Params) : Obj := { cls := .type "tuple", data := .seq #[] }
noncomputable def fo_569 (P : Params) : Obj := { cls := .none, data := .func { name := S "spread_dots", qualname := S "Evaluator.spread_dots", params := (fnA 68), body := .stmts (fnB 68), scope := (fnC 68), globals := 0, closure := [], defaults := .none, kwdefaults := .none } }
noncomputable def fo_570 (P : Params) : Obj := { cls := .type "code", data := .fields #[.str (S "spread_dots") 914, .str (S "Evaluator.spread_dots") 915, .str (S "/claim/cut.py") 916, .int 465 0, .int 2 0, .int 0 0, .int 0 0, .int 3 0, .ref 565, .bool true, .int 181 0, .ref 566, .none, .ref 567, .ref 568, .ref 569, .int 919 0, .int 465 0, .str (S "/claim/cut.py") 920] }
noncomputable def fo_571 (P : Params) : Obj := { cls := .type "function", data := .func { name := S "spread_dots", qualname := S "Evaluator.spread_dots", params := (fnA 68), body := .stmts (fnB 68), scope := (fnC 68), globals := 3, closure := [], defaults := .none, kwdefaults := .none, pyModule := .str (S "vectorcove.evaluator") 762, code := .ref 570 } }
noncomputable def fo_572 (P : Params) : Obj := { cls := .type "tuple", data := .seq #[] }
noncomputable def fo_573 (P : Params) : Obj := { cls := .none, data := .fields #[] }
noncomputable def fo_574 (P : Params) : Obj := { cls := .type "tuple", data := .seq #[.str (S "self") 925, .str (S "items") 926, .str (S "tags") 927, .str (S "env") 928] }
noncomputable def fo_575 (P : Params) : Obj := { cls := .type "tuple", data := .seq #[] }
noncomputable def fo_576 (P : Params) : Obj := { cls := .none, data := .func { name := S "promise_args", qualname := S "Evaluator.promise_args", params := (fnA 69), body := .stmts (fnB 69), scope := (fnC 69), globals := 0, closure := [], defaults := .none, kwdefaults := .none } }
noncomputable def fo_577 (P : Params) : Obj := { cls := .type "code", data := .fields #[.str (S "promise_args") 922, .str (S "Evaluator.promise_args") 923, .str (S "/claim/cut.py") 924, .int 468 0, .int 4 0, .int 0 0, .int 0 0, .int 3 0, .ref 572, .bool true, .int 181 0, .ref 573, .none, .ref 574, .ref 575, .ref 576, .int 929 0, .int 468 0, .str (S "/claim/cut.py") 930] }
noncomputable def fo_578 (P : Params) : Obj := { cls := .type "function", data := .func { name := S "promise_args", qualname := S "Evaluator.promise_args", params := (fnA 69), body := .stmts (fnB 69), scope := (fnC 69), globals := 3, closure := [], defaults := .none, kwdefaults := .none, pyModule := .str (S "vectorcove.evaluator") 762, code := .ref 577 } }
noncomputable def fo_579 (P : Params) : Obj := { cls := .type "tuple", data := .seq #[.bool false, .none] }
noncomputable def fo_580 (P : Params) : Obj := { cls := .type "tuple", data := .seq #[] }
noncomputable def fo_581 (P : Params) : Obj := { cls := .none, data := .fields #[] }
noncomputable def fo_582 (P : Params) : Obj := { cls := .type "tuple", data := .seq #[.str (S "self") 935, .str (S "items") 936, .str (S "tags") 937, .str (S "env") 938, .str (S "keep") 939, .str (S "call") 940] }
noncomputable def fo_583 (P : Params) : Obj := { cls := .type "tuple", data := .seq #[] }
noncomputable def fo_584 (P : Params) : Obj := { cls := .none, data := .func { name := S "eager_args", qualname := S "Evaluator.eager_args", params := (fnA 70), body := .stmts (fnB 70), scope := (fnC 70), globals := 0, closure := [], defaults := .none, kwdefaults := .none } }
noncomputable def fo_585 (P : Params) : Obj := { cls := .type "code", data := .fields #[.str (S "eager_args") 932, .str (S "Evaluator.eager_args") 933, .str (S "/claim/cut.py") 934, .int 471 0, .int 6 0, .int 0 0, .int 0 0, .int 3 0, .ref 580, .bool true, .int 181 0, .ref 581, .none, .ref 582, .ref 583, .ref 584, .int 941 0, .int 471 0, .str (S "/claim/cut.py") 942] }
noncomputable def fo_586 (P : Params) : Obj := { cls := .type "function", data := .func { name := S "eager_args", qualname := S "Evaluator.eager_args", params := (fnA 70), body := .stmts (fnB 70), scope := (fnC 70), globals := 3, closure := [], defaults := .ref 579, kwdefaults := .none, pyModule := .str (S "vectorcove.evaluator") 762, code := .ref 585 } }
noncomputable def fo_587 (P : Params) : Obj := { cls := .type "tuple", data := .seq #[] }
noncomputable def fo_588 (P : Params) : Obj := { cls := .none, data := .fields #[] }
noncomputable def fo_589 (P : Params) : Obj := { cls := .type "tuple", data := .seq #[.str (S "self") 947, .str (S "item") 948, .str (S "keep") 949, .str (S "place") 950, .str (S "call") 951] }
noncomputable def fo_590 (P : Params) : Obj := { cls := .type "tuple", data := .seq #[] }
noncomputable def fo_591 (P : Params) : Obj := { cls := .none, data := .func { name := S "empty_arg", qualname := S "Evaluator.empty_arg", params := (fnA 71), body := .stmts (fnB 71), scope := (fnC 71), globals := 0, closure := [], defaults := .none, kwdefaults := .none } }
noncomputable def fo_592 (P : Params) : Obj := { cls := .type "code", data := .fields #[.str (S "empty_arg") 944, .str (S "Evaluator.empty_arg") 945, .str (S "/claim/cut.py") 946, .int 474 0, .int 5 0, .int 0 0, .int 0 0, .int 3 0, .ref 587, .bool true, .int 181 0, .ref 588, .none, .ref 589, .ref 590, .ref 591, .int 952 0, .int 474 0, .str (S "/claim/cut.py") 953] }
noncomputable def fo_593 (P : Params) : Obj := { cls := .type "function", data := .func { name := S "empty_arg", qualname := S "Evaluator.empty_arg", params := (fnA 71), body := .stmts (fnB 71), scope := (fnC 71), globals := 3, closure := [], defaults := .none, kwdefaults := .none, pyModule := .str (S "vectorcove.evaluator") 762, code := .ref 592 } }
noncomputable def fo_594 (P : Params) : Obj := { cls := .type "tuple", data := .seq #[] }
noncomputable def fo_595 (P : Params) : Obj := { cls := .none, data := .fields #[] }
noncomputable def fo_596 (P : Params) : Obj := { cls := .type "tuple", data := .seq #[.str (S "self") 958, .str (S "f") 959, .str (S "call") 960, .str (S "env") 961] }
noncomputable def fo_597 (P : Params) : Obj := { cls := .type "tuple", data := .seq #[] }
noncomputable def fo_598 (P : Params) : Obj := { cls := .none, data := .func { name := S "call_special", qualname := S "Evaluator.call_special", params := (fnA 72), body := .stmts (fnB 72), scope := (fnC 72), globals := 0, closure := [], defaults := .none, kwdefaults := .none } }
noncomputable def fo_599 (P : Params) : Obj := { cls := .type "code", data := .fields #[.str (S "call_special") 955, .str (S "Evaluator.call_special") 956, .str (S "/claim/cut.py") 957, .int 477 0, .int 4 0, .int 0 0, .int 0 0, .int 3 0, .ref 594, .bool true, .int 181 0, .ref 595, .none, .ref 596, .ref 597, .ref 598, .int 962 0, .int 477 0, .str (S "/claim/cut.py") 963] }
noncomputable def fo_600 (P : Params) : Obj := { cls := .type "function", data := .func { name := S "call_special", qualname := S "Evaluator.call_special", params := (fnA 72), body := .stmts (fnB 72), scope := (fnC 72), globals := 3, closure := [], defaults := .none, kwdefaults := .none, pyModule := .str (S "vectorcove.evaluator") 762, code := .ref 599 } }
noncomputable def fo_601 (P : Params) : Obj := { cls := .type "tuple", data := .seq #[] }
noncomputable def fo_602 (P : Params) : Obj := { cls := .none, data := .fields #[] }
noncomputable def fo_603 (P : Params) : Obj := { cls := .type "tuple", data := .seq #[.str (S "self") 968, .str (S "builtin") 969, .str (S "call") 970, .str (S "args") 971, .str (S "env") 972] }
noncomputable def fo_604 (P : Params) : Obj := { cls := .type "tuple", data := .seq #[] }
noncomputable def fo_605 (P : Params) : Obj := { cls := .none, data := .func { name := S "call_builtin", qualname := S "Evaluator.call_builtin", params := (fnA 73), body := .stmts (fnB 73), scope := (fnC 73), globals := 0, closure := [], defaults := .none, kwdefaults := .none } }
noncomputable def fo_606 (P : Params) : Obj := { cls := .type "code", data := .fields #[.str (S "call_builtin") 965, .str (S "Evaluator.call_builtin") 966, .str (S "/claim/cut.py") 967, .int 480 0, .int 5 0, .int 0 0, .int 0 0, .int 3 0, .ref 601, .bool true, .int 181 0, .ref 602, .none, .ref 603, .ref 604, .ref 605, .int 973 0, .int 480 0, .str (S "/claim/cut.py") 974] }
noncomputable def fo_607 (P : Params) : Obj := { cls := .type "function", data := .func { name := S "call_builtin", qualname := S "Evaluator.call_builtin", params := (fnA 73), body := .stmts (fnB 73), scope := (fnC 73), globals := 3, closure := [], defaults := .none, kwdefaults := .none, pyModule := .str (S "vectorcove.evaluator") 762, code := .ref 606 } }
noncomputable def fo_608 (P : Params) : Obj := { cls := .type "tuple", data := .seq #[.none] }
noncomputable def fo_609 (P : Params) : Obj := { cls := .type "tuple", data := .seq #[] }
noncomputable def fo_610 (P : Params) : Obj := { cls := .none, data := .fields #[] }
noncomputable def fo_611 (P : Params) : Obj := { cls := .type "tuple", data := .seq #[.str (S "self") 979, .str (S "closure") 980, .str (S "args") 981, .str (S "call") 982, .str (S "caller") 983, .str (S "dispatch") 984] }
noncomputable def fo_612 (P : Params) : Obj := { cls := .type "tuple", data := .seq #[] }
noncomputable def fo_613 (P : Params) : Obj := { cls := .none, data := .func { name := S "apply_closure", qualname := S "Evaluator.apply_closure", params := (fnA 74), body := .stmts (fnB 74), scope := (fnC 74), globals := 0, closure := [], defaults := .none, kwdefaults := .none } }
noncomputable def fo_614 (P : Params) : Obj := { cls := .type "code", data := .fields #[.str (S "apply_closure") 976, .str (S "Evaluator.apply_closure") 977, .str (S "/claim/cut.py") 978, .int 483 0, .int 6 0, .int 0 0, .int 0 0, .int 3 0, .ref 609, .bool true, .int 181 0, .ref 610, .none, .ref 611, .ref 612, .ref 613, .int 985 0, .int 483 0, .str (S "/claim/cut.py") 986] }
noncomputable def fo_615 (P : Params) : Obj := { cls := .type "function", data := .func { name := S "apply_closure", qualname := S "Evaluator.apply_closure", params := (fnA 74), body := .stmts (fnB 74), scope := (fnC 74), globals := 3, closure := [], defaults := .ref 608, kwdefaults := .none, pyModule := .str (S "vectorcove.evaluator") 762, code := .ref 614 } }
noncomputable def fo_616 (P : Params) : Obj := { cls := .type "tuple", data := .seq #[] }
noncomputable def fo_617 (P : Params) : Obj := { cls := .none, data := .fields #[] }
noncomputable def fo_618 (P : Params) : Obj := { cls := .type "tuple", data := .seq #[.str (S "self") 991, .str (S "frame") 992, .str (S "value") 993] }
noncomputable def fo_619 (P : Params) : Obj := { cls := .type "tuple", data := .seq #[] }
noncomputable def fo_620 (P : Params) : Obj := { cls := .none, data := .func { name := S "leave", qualname := S "Evaluator.leave", params := (fnA 75), body := .stmts (fnB 75), scope := (fnC 75), globals := 0, closure := [], defaults := .none, kwdefaults := .none } }
noncomputable def fo_621 (P : Params) : Obj := { cls := .type "code", data := .fields #[.str (S "leave") 988, .str (S "Evaluator.leave") 989, .str (S "/claim/cut.py") 990, .int 486 0, .int 3 0, .int 0 0, .int 0 0, .int 3 0, .ref 616, .bool true, .int 181 0, .ref 617, .none, .ref 618, .ref 619, .ref 620, .int 994 0, .int 486 0, .str (S "/claim/cut.py") 995] }
noncomputable def fo_622 (P : Params) : Obj := { cls := .type "function", data := .func { name := S "leave", qualname := S "Evaluator.leave", params := (fnA 75), body := .stmts (fnB 75), scope := (fnC 75), globals := 3, closure := [], defaults := .none, kwdefaults := .none, pyModule := .str (S "vectorcove.evaluator") 762, code := .ref 621 } }
noncomputable def fo_623 (P : Params) : Obj := { cls := .type "tuple", data := .seq #[] }
noncomputable def fo_624 (P : Params) : Obj := { cls := .none, data := .fields #[] }
noncomputable def fo_625 (P : Params) : Obj := { cls := .type "tuple", data := .seq #[.str (S "self") 1000, .str (S "frame") 1001] }
noncomputable def fo_626 (P : Params) : Obj := { cls := .type "tuple", data := .seq #[] }
noncomputable def fo_627 (P : Params) : Obj := { cls := .none, data := .func { name := S "run_exits", qualname := S "Evaluator.run_exits", params := (fnA 76), body := .stmts (fnB 76), scope := (fnC 76), globals := 0, closure := [], defaults := .none, kwdefaults := .none } }
noncomputable def fo_628 (P : Params) : Obj := { cls := .type "code", data := .fields #[.str (S "run_exits") 997, .str (S "Evaluator.run_exits") 998, .str (S "/claim/cut.py") 999, .int 489 0, .int 2 0, .int 0 0, .int 0 0, .int 3 0, .ref 623, .bool true, .int 181 0, .ref 624, .none, .ref 625, .ref 626, .ref 627, .int 1002 0, .int 489 0, .str (S "/claim/cut.py") 1003] }
noncomputable def fo_629 (P : Params) : Obj := { cls := .type "function", data := .func { name := S "run_exits", qualname := S "Evaluator.run_exits", params := (fnA 76), body := .stmts (fnB 76), scope := (fnC 76), globals := 3, closure := [], defaults := .none, kwdefaults := .none, pyModule := .str (S "vectorcove.evaluator") 762, code := .ref 628 } }
noncomputable def fo_630 (P : Params) : Obj := { cls := .type "tuple", data := .seq #[] }
noncomputable def fo_631 (P : Params) : Obj := { cls := .none, data := .fields #[] }
noncomputable def fo_632 (P : Params) : Obj := { cls := .type "tuple", data := .seq #[.str (S "self") 1008] }
noncomputable def fo_633 (P : Params) : Obj := { cls := .type "tuple", data := .seq #[] }
noncomputable def fo_634 (P : Params) : Obj := { cls := .none, data := .func { name := S "shower", qualname := S "Evaluator.shower", params := (fnA 77), body := .stmts (fnB 77), scope := (fnC 77), globals := 0, closure := [], defaults := .none, kwdefaults := .none } }
noncomputable def fo_635 (P : Params) : Obj := { cls := .type "code", data := .fields #[.str (S "shower") 1005, .str (S "Evaluator.shower") 1006, .str (S "/claim/cut.py") 1007, .int 492 0, .int 1 0, .int 0 0, .int 0 0, .int 3 0, .ref 630, .bool true, .int 181 0, .ref 631, .none, .ref 632, .ref 633, .ref 634, .int 1009 0, .int 492 0, .str (S "/claim/cut.py") 1010] }
noncomputable def fo_636 (P : Params) : Obj := { cls := .type "function", data := .func { name := S "shower", qualname := S "Evaluator.shower", params := (fnA 77), body := .stmts (fnB 77), scope := (fnC 77), globals := 3, closure := [], defaults := .none, kwdefaults := .none, pyModule := .str (S "vectorcove.evaluator") 762, code := .ref 635 } }
noncomputable def fo_637 (P : Params) : Obj := { cls := .type "tuple", data := .seq #[.none] }
noncomputable def fo_638 (P : Params) : Obj := { cls := .type "tuple", data := .seq #[] }
noncomputable def fo_639 (P : Params) : Obj := { cls := .none, data := .fields #[] }
noncomputable def fo_640 (P : Params) : Obj := { cls := .type "tuple", data := .seq #[.str (S "self") 1015, .str (S "f") 1016, .str (S "args") 1017, .str (S "env") 1018, .str (S "call") 1019] }
noncomputable def fo_641 (P : Params) : Obj := { cls := .type "tuple", data := .seq #[] }
noncomputable def fo_642 (P : Params) : Obj := { cls := .none, data := .func { name := S "call_value", qualname := S "Evaluator.call_value", params := (fnA 78), body := .stmts (fnB 78), scope := (fnC 78), globals := 0, closure := [], defaults := .none, kwdefaults := .none } }
noncomputable def fo_643 (P : Params) : Obj := { cls := .type "code", data := .fields #[.str (S "call_value") 1012, .str (S "Evaluator.call_value") 1013, .str (S "/claim/cut.py") 1014, .int 495 0, .int 5 0, .int 0 0, .int 0 0, .int 3 0, .ref 638, .bool true, .int 181 0, .ref 639, .none, .ref 640, .ref 641, .ref 642, .int 1020 0, .int 495 0, .str (S "/claim/cut.py") 1021] }
noncomputable def fo_644 (P : Params) : Obj := { cls := .type "function", data := .func { name := S "call_value", qualname := S "Evaluator.call_value", params := (fnA 78), body := .stmts (fnB 78), scope := (fnC 78), globals := 3, closure := [], defaults := .ref 637, kwdefaults := .none, pyModule := .str (S "vectorcove.evaluator") 762, code := .ref 643 } }
noncomputable def fo_645 (P : Params) : Obj := { cls := .type "tuple", data := .seq #[] }
noncomputable def fo_646 (P : Params) : Obj := { cls := .none, data := .fields #[] }
noncomputable def fo_647 (P : Params) : Obj := { cls := .type "tuple", data := .seq #[.str (S "self") 1026, .str (S "program") 1027] }
noncomputable def fo_648 (P : Params) : Obj := { cls := .type "tuple", data := .seq #[] }
noncomputable def fo_649 (P : Params) : Obj := { cls := .none, data := .func { name := S "run", qualname := S "Evaluator.run", params := (fnA 79), body := .stmts (fnB 79), scope := (fnC 79), globals := 0, closure := [], defaults := .none, kwdefaults := .none } }
noncomputable def fo_650 (P : Params) : Obj := { cls := .type "code", data := .fields #[.str (S "run") 1023, .str (S "Evaluator.run") 1024, .str (S "/claim/cut.py") 1025, .int 498 0, .int 2 0, .int 0 0, .int 0 0, .int 3 0, .ref 645, .bool true, .int 181 0, .ref 646, .none, .ref 647, .ref 648, .ref 649, .int 1028 0, .int 498 0, .str (S "/claim/cut.py") 1029] }
noncomputable def fo_651 (P : Params) : Obj := { cls := .type "function", data := .func { name := S "run", qualname := S "Evaluator.run", params := (fnA 79), body := .stmts (fnB 79), scope := (fnC 79), globals := 3, closure := [], defaults := .none, kwdefaults := .none, pyModule := .str (S "vectorcove.evaluator") 762, code := .ref 650 } }
noncomputable def fo_652 (P : Params) : Obj := { cls := .type "tuple", data := .seq #[.str (S "base") 1031, .str (S "current") 1032, .str (S "deparser") 1033, .str (S "dispatcher") 1034, .str (S "frames") 1035, .str (S "globals") 1036, .str (S "handlers") 1037, .str (S "limit") 1038, .str (S "most_frames") 1039, .str (S "next_number") 1040, .str (S "out") 1041, .str (S "restarts") 1042, .str (S "s4") 1043, .str (S "signaller") 1044, .str (S "steps") 1045, .str (S "targets") 1046, .str (S "visible") 1047, .str (S "warner") 1048, .str (S "warnings") 1049] }
noncomputable def fo_653 (P : Params) : Obj := { cls := .type "dict", data := .dict #[(en P "__module__" 771 (.str (S "vectorcove.evaluator") 762)), (en P "__firstlineno__" 775 (.int 390 774)), (en P "__init__" 786 (.ref 463)), (en P "new_env" 795 (.ref 470)), (en P "define" 807 (.ref 478)), (en P "tick" 814 (.ref 485)), (en P "signal_error" 823 (.ref 492)), (en P "warn_all" 834 (.ref 500)), (en P "running_call" 841 (.ref 507)), (en P "eval" 850 (.ref 514)), (en P "variable" 859 (.ref 521)), (en P "dots_value" 868 (.ref 528)), (en P "force" 876 (.ref 535)), (en P "find_function" 886 (.ref 543)), (en P "function_of" 895 (.ref 550)), (en P "eval_call" 904 (.ref 557)), (en P "plain_call" 913 (.ref 564)), (en P "spread_dots" 921 (.ref 571)), (en P "promise_args" 931 (.ref 578)), (en P "eager_args" 943 (.ref 586)), (en P "empty_arg" 954 (.ref 593)), (en P "call_special" 964 (.ref 600)), (en P "call_builtin" 975 (.ref 607)), (en P "apply_closure" 987 (.ref 615)), (en P "leave" 996 (.ref 622)), (en P "run_exits" 1004 (.ref 629)), (en P "shower" 1011 (.ref 636)), (en P "call_value" 1022 (.ref 644)), (en P "run" 1030 (.ref 651)), (en P "__static_attributes__" 1050 (.ref 652)), (en P "__dict__" 1052 (.ref 655)), (en P "__weakref__" 1054 (.ref 656)), (en P "__doc__" 1055 (.none))] 4 }
noncomputable def fo_654 (P : Params) : Obj := { cls := .type "type", data := .cls { name := S "Evaluator", bases := [.type "object"], mro := [.ref 654, .type "object"], ns := 653, qualname := S "Evaluator" }, slots := #[none, none, some (.str (S "Evaluator") 764), some (.str (S "Evaluator") 772), some (.builtin "object.__new__"), some (.bool true)] }
noncomputable def fo_655 (P : Params) : Obj := { cls := .type "getset_descriptor", data := .fields #[.str (S "__dict__") 1051, .ref 654, .builtin "function.__dict__", .builtin "function.__dict__#set"] }
noncomputable def fo_656 (P : Params) : Obj := { cls := .type "getset_descriptor", data := .fields #[.str (S "__weakref__") 1053, .ref 654, .builtin "ExceptionGroup.__weakref__", .none] }
noncomputable def fo_657 (P : Params) : Obj := { cls := .type "super", data := .fields #[.ref 654, .ref 654, .ref 654] }
noncomputable def fo_658 (P : Params) : Obj := { cls := .type "builtin_function_or_method", data := .fields #[.builtin "object.__init_subclass__", .ref 654] }
noncomputable def fo_659 (P : Params) : Obj := { cls := .type "tuple", data := .seq #[] }
noncomputable def fo_660 (P : Params) : Obj := { cls := .none, data := .fields #[] }
noncomputable def fo_661 (P : Params) : Obj := { cls := .type "tuple", data := .seq #[.str (S "script") 1063, .str (S "coins") 1064, .str (S "cell") 1065, .str (S "worth") 1066, .str (S "lap") 1067] }
noncomputable def fo_662 (P : Params) : Obj := { cls := .type "tuple", data := .seq #[] }
noncomputable def fo_663 (P : Params) : Obj := { cls := .none, data := .func { name := S "_law_coins", qualname := S "_law_coins", params := (fnA 80), body := .stmts (fnB 80), scope := (fnC 80), globals := 0, closure := [], defaults := .none, kwdefaults := .none } }
noncomputable def fo_664 (P : Params) : Obj := { cls := .type "code", data := .fields #[.str (S "_law_coins") 1060, .str (S "_law_coins") 1061, .str (S "/claim/cut.py") 1062, .int 501 0, .int 1 0, .int 0 0, .int 0 0, .int 3 0, .ref 659, .bool true, .int 181 0, .ref 660, .none, .ref 661, .ref 662, .ref 663, .int 1068 0, .int 501 0, .str (S "/claim/cut.py") 1069] }
noncomputable def fo_665 (P : Params) : Obj := { cls := .type "function", data := .func { name := S "_law_coins", qualname := S "_law_coins", params := (fnA 80), body := .stmts (fnB 80), scope := (fnC 80), globals := 3, closure := [], defaults := .none, kwdefaults := .none, pyModule := .str (S "law_pq1419_01") 1058, code := .ref 664 } }
noncomputable def fo_666 (P : Params) : Obj := { cls := .type "tuple", data := .seq #[] }
noncomputable def fo_667 (P : Params) : Obj := { cls := .none, data := .fields #[] }
noncomputable def fo_668 (P : Params) : Obj := { cls := .type "tuple", data := .seq #[.str (S "coins") 1074, .str (S "many") 1075] }
noncomputable def fo_669 (P : Params) : Obj := { cls := .type "tuple", data := .seq #[] }
noncomputable def fo_670 (P : Params) : Obj := { cls := .none, data := .func { name := S "_law_coin", qualname := S "_law_coin", params := (fnA 81), body := .stmts (fnB 81), scope := (fnC 81), globals := 0, closure := [], defaults := .none, kwdefaults := .none } }
noncomputable def fo_671 (P : Params) : Obj := { cls := .type "code", data := .fields #[.str (S "_law_coin") 1071, .str (S "_law_coin") 1072, .str (S "/claim/cut.py") 1073, .int 513 0, .int 2 0, .int 0 0, .int 0 0, .int 3 0, .ref 666, .bool true, .int 181 0, .ref 667, .none, .ref 668, .ref 669, .ref 670, .int 1076 0, .int 513 0, .str (S "/claim/cut.py") 1077] }
noncomputable def fo_672 (P : Params) : Obj := { cls := .type "function", data := .func { name := S "_law_coin", qualname := S "_law_coin", params := (fnA 81), body := .stmts (fnB 81), scope := (fnC 81), globals := 3, closure := [], defaults := .none, kwdefaults := .none, pyModule := .str (S "law_pq1419_01") 1058, code := .ref 671 } }
noncomputable def fo_673 (P : Params) : Obj := { cls := .type "tuple", data := .seq #[] }
noncomputable def fo_674 (P : Params) : Obj := { cls := .none, data := .fields #[] }
noncomputable def fo_675 (P : Params) : Obj := { cls := .type "tuple", data := .seq #[.str (S "root_of") 1082, .str (S "so_often") 1083, .str (S "top") 1084, .str (S "below") 1085, .str (S "lap") 1086] }
noncomputable def fo_676 (P : Params) : Obj := { cls := .type "tuple", data := .seq #[] }
noncomputable def fo_677 (P : Params) : Obj := { cls := .none, data := .func { name := S "_law_power", qualname := S "_law_power", params := (fnA 82), body := .stmts (fnB 82), scope := (fnC 82), globals := 0, closure := [], defaults := .none, kwdefaults := .none } }
noncomputable def fo_678 (P : Params) : Obj := { cls := .type "code", data := .fields #[.str (S "_law_power") 1079, .str (S "_law_power") 1080, .str (S "/claim/cut.py") 1081, .int 517 0, .int 2 0, .int 0 0, .int 0 0, .int 3 0, .ref 673, .bool true, .int 181 0, .ref 674, .none, .ref 675, .ref 676, .ref 677, .int 1087 0, .int 517 0, .str (S "/claim/cut.py") 1088] }
noncomputable def fo_679 (P : Params) : Obj := { cls := .type "function", data := .func { name := S "_law_power", qualname := S "_law_power", params := (fnA 82), body := .stmts (fnB 82), scope := (fnC 82), globals := 3, closure := [], defaults := .none, kwdefaults := .none, pyModule := .str (S "law_pq1419_01") 1058, code := .ref 678 } }
noncomputable def fo_680 (P : Params) : Obj := { cls := .type "tuple", data := .seq #[] }
noncomputable def fo_681 (P : Params) : Obj := { cls := .none, data := .fields #[] }
noncomputable def fo_682 (P : Params) : Obj := { cls := .type "tuple", data := .seq #[.str (S "coins") 1093, .str (S "root_of") 1094, .str (S "draw") 1095] }
noncomputable def fo_683 (P : Params) : Obj := { cls := .type "tuple", data := .seq #[] }
noncomputable def fo_684 (P : Params) : Obj := { cls := .none, data := .func { name := S "_law_entry", qualname := S "_law_entry", params := (fnA 83), body := .stmts (fnB 83), scope := (fnC 83), globals := 0, closure := [], defaults := .none, kwdefaults := .none } }
noncomputable def fo_685 (P : Params) : Obj := { cls := .type "code", data := .fields #[.str (S "_law_entry") 1090, .str (S "_law_entry") 1091, .str (S "/claim/cut.py") 1092, .int 524 0, .int 2 0, .int 0 0, .int 0 0, .int 3 0, .ref 680, .bool true, .int 181 0, .ref 681, .none, .ref 682, .ref 683, .ref 684, .int 1096 0, .int 524 0, .str (S "/claim/cut.py") 1097] }
noncomputable def fo_686 (P : Params) : Obj := { cls := .type "function", data := .func { name := S "_law_entry", qualname := S "_law_entry", params := (fnA 83), body := .stmts (fnB 83), scope := (fnC 83), globals := 3, closure := [], defaults := .none, kwdefaults := .none, pyModule := .str (S "law_pq1419_01") 1058, code := .ref 685 } }
noncomputable def fo_687 (P : Params) : Obj := { cls := .type "tuple", data := .seq #[] }
noncomputable def fo_688 (P : Params) : Obj := { cls := .none, data := .fields #[] }
noncomputable def fo_689 (P : Params) : Obj := { cls := .type "tuple", data := .seq #[.str (S "x") 1102] }
noncomputable def fo_690 (P : Params) : Obj := { cls := .type "tuple", data := .seq #[] }
noncomputable def fo_691 (P : Params) : Obj := { cls := .none, data := .func { name := S "_law_weight", qualname := S "_law_weight", params := (fnA 84), body := .stmts (fnB 84), scope := (fnC 84), globals := 0, closure := [], defaults := .none, kwdefaults := .none } }
noncomputable def fo_692 (P : Params) : Obj := { cls := .type "code", data := .fields #[.str (S "_law_weight") 1099, .str (S "_law_weight") 1100, .str (S "/claim/cut.py") 1101, .int 531 0, .int 1 0, .int 0 0, .int 0 0, .int 3 0, .ref 687, .bool true, .int 181 0, .ref 688, .none, .ref 689, .ref 690, .ref 691, .int 1103 0, .int 531 0, .str (S "/claim/cut.py") 1104] }
noncomputable def fo_693 (P : Params) : Obj := { cls := .type "function", data := .func { name := S "_law_weight", qualname := S "_law_weight", params := (fnA 84), body := .stmts (fnB 84), scope := (fnC 84), globals := 3, closure := [], defaults := .none, kwdefaults := .none, pyModule := .str (S "law_pq1419_01") 1058, code := .ref 692 } }
noncomputable def fo_694 (P : Params) : Obj := { cls := .type "tuple", data := .seq #[] }
noncomputable def fo_695 (P : Params) : Obj := { cls := .none, data := .fields #[] }
noncomputable def fo_696 (P : Params) : Obj := { cls := .type "tuple", data := .seq #[.str (S "x") 1109, .str (S "other") 1110, .str (S "one") 1111, .str (S "two") 1112, .str (S "upward") 1113, .str (S "so_often") 1114] }
noncomputable def fo_697 (P : Params) : Obj := { cls := .type "tuple", data := .seq #[] }
noncomputable def fo_698 (P : Params) : Obj := { cls := .none, data := .func { name := S "_law_quotient", qualname := S "_law_quotient", params := (fnA 85), body := .stmts (fnB 85), scope := (fnC 85), globals := 0, closure := [], defaults := .none, kwdefaults := .none } }
noncomputable def fo_699 (P : Params) : Obj := { cls := .type "code", data := .fields #[.str (S "_law_quotient") 1106, .str (S "_law_quotient") 1107, .str (S "/claim/cut.py") 1108, .int 541 0, .int 2 0, .int 0 0, .int 0 0, .int 3 0, .ref 694, .bool true, .int 181 0, .ref 695, .none, .ref 696, .ref 697, .ref 698, .int 1115 0, .int 541 0, .str (S "/claim/cut.py") 1116] }
noncomputable def fo_700 (P : Params) : Obj := { cls := .type "function", data := .func { name := S "_law_quotient", qualname := S "_law_quotient", params := (fnA 85), body := .stmts (fnB 85), scope := (fnC 85), globals := 3, closure := [], defaults := .none, kwdefaults := .none, pyModule := .str (S "law_pq1419_01") 1058, code := .ref 699 } }
noncomputable def fo_701 (P : Params) : Obj := { cls := .type "tuple", data := .seq #[] }
noncomputable def fo_702 (P : Params) : Obj := { cls := .none, data := .fields #[] }
noncomputable def fo_703 (P : Params) : Obj := { cls := .none, data := .func { name := S "_law_seen", qualname := S "_law_seen", params := (fnA 86), body := .stmts (fnB 86), scope := (fnC 86), globals := 0, closure := [], defaults := .none, kwdefaults := .none } }
noncomputable def fo_704 (P : Params) : Obj := { cls := .type "code", data := .fields #[.str (S "_law_seen") 1118, .str (S "_law_seen") 1119, .str (S "/claim/cut.py") 1120, .int 559 0, .int 1 0, .int 0 0, .int 0 0, .int 3 0, .ref 701, .bool true, .int 181 0, .ref 702, .none, .none, .none, .ref 703, .int 1121 0, .int 559 0, .str (S "/claim/cut.py") 1122] }
noncomputable def fo_705 (P : Params) : Obj := { cls := .type "function", data := .func { name := S "_law_seen", qualname := S "_law_seen", params := (fnA 86), body := .stmts (fnB 86), scope := (fnC 86), globals := 3, closure := [], defaults := .none, kwdefaults := .none, pyModule := .str (S "law_pq1419_01") 1058, code := .ref 704 } }
noncomputable def fo_706 (P : Params) : Obj := { cls := .type "tuple", data := .seq #[] }
noncomputable def fo_707 (P : Params) : Obj := { cls := .none, data := .fields #[] }
noncomputable def fo_708 (P : Params) : Obj := { cls := .none, data := .func { name := S "law", qualname := S "law", params := (fnA 87), body := .stmts (fnB 87), scope := (fnC 87), globals := 0, closure := [], defaults := .none, kwdefaults := .none } }
noncomputable def fo_709 (P : Params) : Obj := { cls := .type "code", data := .fields #[.str (S "law") 1124, .str (S "law") 1125, .str (S "/claim/cut.py") 1126, .int 561 0, .int 1 0, .int 0 0, .int 0 0, .int 3 0, .ref 706, .bool true, .int 181 0, .ref 707, .none, .none, .none, .ref 708, .int 1127 0, .int 561 0, .str (S "/claim/cut.py") 1128] }
noncomputable def fo_710 (P : Params) : Obj := { cls := .type "function", data := .func { name := S "law", qualname := S "law", params := (fnA 87), body := .stmts (fnB 87), scope := (fnC 87), globals := 3, closure := [], defaults := .none, kwdefaults := .none, pyModule := .str (S "law_pq1419_01") 1058, code := .ref 709 } }
noncomputable def finL (P : Params) : List Obj := [fo_0 P, fo_1 P, fo_2 P, fo_3 P, fo_4 P, fo_5 P, fo_6 P, fo_7 P, fo_8 P, fo_9 P, fo_10 P, fo_11 P, fo_12 P, fo_13 P, fo_14 P, fo_15 P, fo_16 P, fo_17 P, fo_18 P, fo_19 P, fo_20 P, fo_21 P, fo_22 P, fo_23 P, fo_24 P, fo_25 P, fo_26 P, fo_27 P, fo_28 P, fo_29 P, fo_30 P, fo_31 P, fo_32 P, fo_33 P, fo_34 P, fo_35 P, fo_36 P, fo_37 P, fo_38 P, fo_39 P, fo_40 P, fo_41 P, fo_42 P, fo_43 P, fo_44 P, fo_45 P, fo_46 P, fo_47 P, fo_48 P, fo_49 P, fo_50 P, fo_51 P, fo_52 P, fo_53 P, fo_54 P, fo_55 P, fo_56 P, fo_57 P, fo_58 P, fo_59 P, fo_60 P, fo_61 P, fo_62 P, fo_63 P, fo_64 P, fo_65 P, fo_66 P, fo_67 P, fo_68 P, fo_69 P, fo_70 P, fo_71 P, fo_72 P, fo_73 P, fo_74 P, fo_75 P, fo_76 P, fo_77 P, fo_78 P, fo_79 P, fo_80 P, fo_81 P, fo_82 P, fo_83 P, fo_84 P, fo_85 P, fo_86 P, fo_87 P, fo_88 P, fo_89 P, fo_90 P, fo_91 P, fo_92 P, fo_93 P, fo_94 P, fo_95 P, fo_96 P, fo_97 P, fo_98 P, fo_99 P, fo_100 P, fo_101 P, fo_102 P, fo_103 P, fo_104 P, fo_105 P, fo_106 P, fo_107 P, fo_108 P, fo_109 P, fo_110 P, fo_111 P, fo_112 P, fo_113 P, fo_114 P, fo_115 P, fo_116 P, fo_117 P, fo_118 P, fo_119 P, fo_120 P, fo_121 P, fo_122 P, fo_123 P, fo_124 P, fo_125 P, fo_126 P, fo_127 P, fo_128 P, fo_129 P, fo_130 P, fo_131 P, fo_132 P, fo_133 P, fo_134 P, fo_135 P, fo_136 P, fo_137 P, fo_138 P, fo_139 P, fo_140 P, fo_141 P, fo_142 P, fo_143 P, fo_144 P, fo_145 P, fo_146 P, fo_147 P, fo_148 P, fo_149 P, fo_150 P, fo_151 P, fo_152 P, fo_153 P, fo_154 P, fo_155 P, fo_156 P, fo_157 P, fo_158 P, fo_159 P, fo_160 P, fo_161 P, fo_162 P, fo_163 P, fo_164 P, fo_165 P, fo_166 P, fo_167 P, fo_168 P, fo_169 P, fo_170 P, fo_171 P, fo_172 P, fo_173 P, fo_174 P, fo_175 P, fo_176 P, fo_177 P, fo_178 P, fo_179 P, fo_180 P, fo_181 P, fo_182 P, fo_183 P, fo_184 P, fo_185 P, fo_186 P, fo_187 P, fo_188 P, fo_189 P, fo_190 P, fo_191 P, fo_192 P, fo_193 P, fo_194 P, fo_195 P, fo_196 P, fo_197 P, fo_198 P, fo_199 P, fo_200 P, fo_201 P, fo_202 P, fo_203 P, fo_204 P, fo_205 P, fo_206 P, fo_207 P, fo_208 P, fo_209 P, fo_210 P, fo_211 P, fo_212 P, fo_213 P, fo_214 P, fo_215 P, fo_216 P, fo_217 P, fo_218 P, fo_219 P, fo_220 P, fo_221 P, fo_222 P, fo_223 P, fo_224 P, fo_225 P, fo_226 P, fo_227 P, fo_228 P, fo_229 P, fo_230 P, fo_231 P, fo_232 P, fo_233 P, fo_234 P, fo_235 P, fo_236 P, fo_237 P, fo_238 P, fo_239 P, fo_240 P, fo_241 P, fo_242 P, fo_243 P, fo_244 P, fo_245 P, fo_246 P, fo_247 P, fo_248 P, fo_249 P, fo_250 P, fo_251 P, fo_252 P, fo_253 P, fo_254 P, fo_255 P, fo_256 P, fo_257 P, fo_258 P, fo_259 P, fo_260 P, fo_261 P, fo_262 P, fo_263 P, fo_264 P, fo_265 P, fo_266 P, fo_267 P, fo_268 P, fo_269 P, fo_270 P, fo_271 P, fo_272 P, fo_273 P, fo_274 P, fo_275 P, fo_276 P, fo_277 P, fo_278 P, fo_279 P, fo_280 P, fo_281 P, fo_282 P, fo_283 P, fo_284 P, fo_285 P, fo_286 P, fo_287 P, fo_288 P, fo_289 P, fo_290 P, fo_291 P, fo_292 P, fo_293 P, fo_294 P, fo_295 P, fo_296 P, fo_297 P, fo_298 P, fo_299 P, fo_300 P, fo_301 P, fo_302 P, fo_303 P, fo_304 P, fo_305 P, fo_306 P, fo_307 P, fo_308 P, fo_309 P, fo_310 P, fo_311 P, fo_312 P, fo_313 P, fo_314 P, fo_315 P, fo_316 P, fo_317 P, fo_318 P, fo_319 P, fo_320 P, fo_321 P, fo_322 P, fo_323 P, fo_324 P, fo_325 P, fo_326 P, fo_327 P, fo_328 P, fo_329 P, fo_330 P, fo_331 P, fo_332 P, fo_333 P, fo_334 P, fo_335 P, fo_336 P, fo_337 P, fo_338 P, fo_339 P, fo_340 P, fo_341 P, fo_342 P, fo_343 P, fo_344 P, fo_345 P, fo_346 P, fo_347 P, fo_348 P, fo_349 P, fo_350 P, fo_351 P, fo_352 P, fo_353 P, fo_354 P, fo_355 P, fo_356 P, fo_357 P, fo_358 P, fo_359 P, fo_360 P, fo_361 P, fo_362 P, fo_363 P, fo_364 P, fo_365 P, fo_366 P, fo_367 P, fo_368 P, fo_369 P, fo_370 P, fo_371 P, fo_372 P, fo_373 P, fo_374 P, fo_375 P, fo_376 P, fo_377 P, fo_378 P, fo_379 P, fo_380 P, fo_381 P, fo_382 P, fo_383 P, fo_384 P, fo_385 P, fo_386 P, fo_387 P, fo_388 P, fo_389 P, fo_390 P, fo_391 P, fo_392 P, fo_393 P, fo_394 P, fo_395 P, fo_396 P, fo_397 P, fo_398 P, fo_399 P, fo_400 P, fo_401 P, fo_402 P, fo_403 P, fo_404 P, fo_405 P, fo_406 P, fo_407 P, fo_408 P, fo_409 P, fo_410 P, fo_411 P, fo_412 P, fo_413 P, fo_414 P, fo_415 P, fo_416 P, fo_417 P, fo_418 P, fo_419 P, fo_420 P, fo_421 P, fo_422 P, fo_423 P, fo_424 P, fo_425 P, fo_426 P, fo_427 P, fo_428 P, fo_429 P, fo_430 P, fo_431 P, fo_432 P, fo_433 P, fo_434 P, fo_435 P, fo_436 P, fo_437 P, fo_438 P, fo_439 P, fo_440 P, fo_441 P, fo_442 P, fo_443 P, fo_444 P, fo_445 P, fo_446 P, fo_447 P, fo_448 P, fo_449 P, fo_450 P, fo_451 P, fo_452 P, fo_453 P, fo_454 P, fo_455 P, fo_456 P, fo_457 P, fo_458 P, fo_459 P, fo_460 P, fo_461 P, fo_462 P, fo_463 P, fo_464 P, fo_465 P, fo_466 P, fo_467 P, fo_468 P, fo_469 P, fo_470 P, fo_471 P, fo_472 P, fo_473 P, fo_474 P, fo_475 P, fo_476 P, fo_477 P, fo_478 P, fo_479 P, fo_480 P, fo_481 P, fo_482 P, fo_483 P, fo_484 P, fo_485 P, fo_486 P, fo_487 P, fo_488 P, fo_489 P, fo_490 P, fo_491 P, fo_492 P, fo_493 P, fo_494 P, fo_495 P, fo_496 P, fo_497 P, fo_498 P, fo_499 P, fo_500 P, fo_501 P, fo_502 P, fo_503 P, fo_504 P, fo_505 P, fo_506 P, fo_507 P, fo_508 P, fo_509 P, fo_510 P, fo_511 P, fo_512 P, fo_513 P, fo_514 P, fo_515 P, fo_516 P, fo_517 P, fo_518 P, fo_519 P, fo_520 P, fo_521 P, fo_522 P, fo_523 P, fo_524 P, fo_525 P, fo_526 P, fo_527 P, fo_528 P, fo_529 P, fo_530 P, fo_531 P, fo_532 P, fo_533 P, fo_534 P, fo_535 P, fo_536 P, fo_537 P, fo_538 P, fo_539 P, fo_540 P, fo_541 P, fo_542 P, fo_543 P, fo_544 P, fo_545 P, fo_546 P, fo_547 P, fo_548 P, fo_549 P, fo_550 P, fo_551 P, fo_552 P, fo_553 P, fo_554 P, fo_555 P, fo_556 P, fo_557 P, fo_558 P, fo_559 P, fo_560 P, fo_561 P, fo_562 P, fo_563 P, fo_564 P, fo_565 P, fo_566 P, fo_567 P, fo_568 P, fo_569 P, fo_570 P, fo_571 P, fo_572 P, fo_573 P, fo_574 P, fo_575 P, fo_576 P, fo_577 P, fo_578 P, fo_579 P, fo_580 P, fo_581 P, fo_582 P, fo_583 P, fo_584 P, fo_585 P, fo_586 P, fo_587 P, fo_588 P, fo_589 P, fo_590 P, fo_591 P, fo_592 P, fo_593 P, fo_594 P, fo_595 P, fo_596 P, fo_597 P, fo_598 P, fo_599 P, fo_600 P, fo_601 P, fo_602 P, fo_603 P, fo_604 P, fo_605 P, fo_606 P, fo_607 P, fo_608 P, fo_609 P, fo_610 P, fo_611 P, fo_612 P, fo_613 P, fo_614 P, fo_615 P, fo_616 P, fo_617 P, fo_618 P, fo_619 P, fo_620 P, fo_621 P, fo_622 P, fo_623 P, fo_624 P, fo_625 P, fo_626 P, fo_627 P, fo_628 P, fo_629 P, fo_630 P, fo_631 P, fo_632 P, fo_633 P, fo_634 P, fo_635 P, fo_636 P, fo_637 P, fo_638 P, fo_639 P, fo_640 P, fo_641 P, fo_642 P, fo_643 P, fo_644 P, fo_645 P, fo_646 P, fo_647 P, fo_648 P, fo_649 P, fo_650 P, fo_651 P, fo_652 P, fo_653 P, fo_654 P, fo_655 P, fo_656 P, fo_657 P, fo_658 P, fo_659 P, fo_660 P, fo_661 P, fo_662 P, fo_663 P, fo_664 P, fo_665 P, fo_666 P, fo_667 P, fo_668 P, fo_669 P, fo_670 P, fo_671 P, fo_672 P, fo_673 P, fo_674 P, fo_675 P, fo_676 P, fo_677 P, fo_678 P, fo_679 P, fo_680 P, fo_681 P, fo_682 P, fo_683 P, fo_684 P, fo_685 P, fo_686 P, fo_687 P, fo_688 P, fo_689 P, fo_690 P, fo_691 P, fo_692 P, fo_693 P, fo_694 P, fo_695 P, fo_696 P, fo_697 P, fo_698 P, fo_699 P, fo_700 P, fo_701 P, fo_702 P, fo_703 P, fo_704 P, fo_705 P, fo_706 P, fo_707 P, fo_708 P, fo_709 P, fo_710 P]
noncomputable def finT (w : World) (os : OsState) : SharedT := ⟨bootTree (finL w.params), 711, {}, #[], {}, 1130, os⟩
noncomputable def finH (P : Params) : Heap := ⟨(finL P).toArray, {}⟩
theorem top_runs : ∀ (w : World) (os : OsState), topRunT treeTable PySem.Challenge.pw_pq1419_01 w 11 (some (Value.ref 6)) 8388 (bootT w os) (topStub PySem.Challenge.pw_pq1419_01) = some (finT w os) := by
  intro w os
  kernel_rfl
theorem boot_same : ∀ w os, (bootT w os).abs = ⟨boot_heap w.params, Array.mk [], boot_drawn, boot_toks, os⟩ := by
  intro w os
  kernel_rfl
theorem fin_same : ∀ w os, (finT w os).abs = ⟨finH w.params, #[], {}, 1130, os⟩ := by
  intro w os
  kernel_rfl
theorem top_run (w : World) (os : OsState) : topRun treeTable PySem.Challenge.pw_pq1419_01 w 11 (some (Value.ref 6)) 8388 ⟨boot_heap w.params, Array.mk [], boot_drawn, boot_toks, os⟩ (topStub PySem.Challenge.pw_pq1419_01) = some ⟨finH w.params, #[], {}, 1130, os⟩ := by
  rw [← boot_same, ← fin_same]
  exact topRunT_of (top_runs w os)
def keepOf (ks : List Nat) (l : List Stmt) : List Stmt := ks.filterMap fun i => l[i]?
def viewN : Program := { PySem.Challenge.pw_pq1419_01 with main := { PySem.Challenge.pw_pq1419_01.main with body := keepOf [0, 2, 3, 5, 6, 8, 9, 11, 12, 13, 14, 15, 17, 20, 21, 22, 23, 24, 25, 26, 27, 28, 29, 30, 31, 32, 33, 34, 35, 36, 37, 38, 39, 40, 41, 42, 43, 45, 46, 47, 48, 49, 50, 51, 52, 53, 54, 55, 57, 59, 60, 61, 63, 65, 66, 67, 68, 69, 70, 71, 72] PySem.Challenge.pw_pq1419_01.main.body } }
def looseN : List Str := [Str.ofString "match_names", Str.ofString "take", Str.ofString "MOST_PART"]
/-! The looks at the text and at the finished state, each checked by itself (the kernel's memory is given back between them). -/
theorem well_said : PySem.Challenge.rw_pq1419_01.wellSaid = true := by
  unfold OpenLaw.wellSaid OpenRow.wellSaid OpenRow.partSaid looksOpen
  repeat' (with_reducible refine look_both ?_ ?_)
  all_goals decide +kernel
theorem pair_same {α β : Type} {a c : α} {b d : β} (h : a = c) (k : b = d) : (a, b) = (c, d) := by rw [h, k]
theorem looks_same {α β : Type} {A : OsState → Bool} {B : OsState → α} {C : OsState → β} {b : α} {c : β} (h : ∀ os, A os = true) (k : ∀ os, B os = b) (l : ∀ os, C os = c) : (fun os => (A os, B os, C os)) = fun _ => (true, b, c) := by
  funext os
  rw [h, k, l]
noncomputable abbrev fin (w : World) (os : OsState) : Shared := ⟨finH w.params, #[], {}, 1130, os⟩
theorem fin_seen (w : World) (os : OsState) : PyProof.Rows.seen ((recsOf viewN).map (·.name)) (ownsOf viewN) [] { fin w os with gens := #[] } = expectedOf viewN := by kernel_rfl
theorem fin_blt (w : World) (os : OsState) : (fin w os).heap.bltView = bltViewBooted := by kernel_rfl
theorem fin_keys (w : World) (os : OsState) : (fin w os).heap.keysOk (looseW viewN looseN) ((recsOf viewN).map (·.name)) ((litsOf viewN).map (·.1)) ((clssOf viewN (looseW viewN looseN)).map (·.name)) = true := by kernel_rfl
theorem fin_ns (w : World) (os : OsState) : ((fin w os).heap.accountedOkI (importedModules PySem.Challenge.pw_pq1419_01.main.body) && (fin w os).heap.isNs mainGlobals && (fin w os).heap.isNs builtinsNs && tablesOk viewN (fin w os).heap && (fun s => xlAt viewN [] s && recOk (RowW.records (OpenRow.toRowW (OpenLaw.row PySem.Challenge.rw_pq1419_01))) s) (fin w os) && (if true then (fin w os).gens.size == 0 else !leftWithCleanup (fin w os).gens)) = true := by kernel_rfl
theorem fin_tabs (w : World) (os : OsState) : tabsOk viewN (fin w os) = true := by kernel_rfl
theorem fin_pins (w : World) (os : OsState) : pinSeenD viewN (drecsOf viewN) (fin w os) = pinGoodD (drecsOf viewN) := by kernel_rfl
theorem fin_plainE (w : World) (os : OsState) : plainSeenE viewN (looseW viewN looseN) (fin w os) = plainGoodE viewN (looseW viewN looseN) := by kernel_rfl
theorem fin_plainD (w : World) (os : OsState) : plainSeenD viewN looseN (fin w os) = plainGoodD viewN looseN := by kernel_rfl
theorem fin_wide (w : World) (os : OsState) : wideSeen viewN (fin w os) = wideGood viewN := by kernel_rfl
theorem fin_cls (w : World) (os : OsState) : clsSeenW viewN looseN (fin w os) = clsGoodW viewN looseN := by kernel_rfl
theorem fin_kept (w : World) (os : OsState) : (staticsOk (importedModules PySem.Challenge.pw_pq1419_01.main.body) (boot_heap w.params) (finH w.params) && namesBound PySem.Challenge.pw_pq1419_01 (finH w.params) && gensDone (fin w os) && laidKept (boot_heap w.params) (finH w.params)) = true := by kernel_rfl
theorem and_same {a b c d e f g : Bool} (h : a = true) (k : (b && c && d && e && f && g) = true) : (a && b && c && d && e && f && g) = true := by rw [h]; exact k
theorem top_seen (w : World) (os : OsState) : openSeen viewN looseN (importedModules PySem.Challenge.pw_pq1419_01.main.body) (fun s => xlAt viewN [] s && recOk (RowW.records (OpenRow.toRowW (OpenLaw.row PySem.Challenge.rw_pq1419_01))) s) true (fin w os) = openGood viewN looseN :=
  pair_same (fin_seen w os) (pair_same (fin_blt w os) (pair_same (and_same (fin_keys w os) (fin_ns w os)) (pair_same (fin_tabs w os) (pair_same (fin_pins w os) (pair_same (fin_plainE w os) (pair_same (fin_plainD w os) (pair_same (fin_wide w os) (fin_cls w os))))))))
local macro_rules | `(tactic| o_law) => `(tactic| refine holds_law well_said fun said => ?_)
local macro_rules | `(tactic| o_head $H) => do
  let hl := Lean.mkIdent `hl
  let hw := Lean.mkIdent `hw
  let hc := Lean.mkIdent `hc
  `(tactic| ((refine holds_open (q := viewN) (loose := looseN) (Xt := fun s => xlAt viewN [] s && recOk (RowW.records (OpenRow.toRowW (OpenLaw.row PySem.Challenge.rw_pq1419_01))) s) (XP := XL viewN []) (Yf := Hook.obs $H) (Ya := Hook.val $H) (YP := Hook.says $H) (N := 8388) ?$hl (Hook.of $H) (Hook.keeps $H) (fun s e => xl_of s (Bool.and_eq_true_iff.mp e).1) XL.keeps (by rfl) (by rfl) (by rfl) (fun s e => recFacts_of (Bool.and_eq_true_iff.mp e).2) (by rfl) (by first | assumption | decide +kernel) (by decide +kernel) ⟨rfl, rfl, rfl, rfl, rfl, by decide +kernel⟩ ?$hw ?$hc); { refine LeftO.of_pieces (H₀ := boot_heap) (H₁ := finH) (gs₀ := Array.mk []) (gs₁ := #[]) (d₀ := boot_drawn) (d₁ := {}) (k₀ := boot_toks) (k₁ := 1130) (m₀ := 11) (ann := some (Value.ref 6)) (M := 8388) (boot_open (by rfl) (by decide +kernel) (fun _ => by rfl)) ?_ top_run (by decide +kernel) ?_; { intro w; kernel_rfl }; { intro w; refine looks_same (fun os => fin_kept w os) (fun os => top_seen w os) (fun os => ?_); kernel_rfl } }; (all_goals (rename_i sd; clear sd))))
open_top hd for PySem.Challenge.rw_pq1419_01
theorem warm : PySem.Challenge.rw_pq1419_01 = PySem.Challenge.rw_pq1419_01 ∧ hd.heap_1 = hd.heap_1 := by
  k_fill
  exact ⟨rfl, rfl⟩
local macro_rules | `(tactic| walk_at $s:str) => `(tactic| k_extra $s)
local macro_rules | `(tactic| omega) => `(tactic| lia)
abbrev PG : Program := PySem.Challenge.rw_pq1419_01.row.prog
@[reducible] def ar (dp : Nat) (fr : Option (List Env)) (gd : Option (List Code)) (un : Nat) : Around := { handled := none, depth := dp, frames := fr, guards := gd, units := un }

theorem code_pure {prog : Program} {w : World} {A : Around} {s : Shared} {K : Frag} {R : Result → Shared → Prop} {name qual : Str} {params : Arguments} {body : List Stmt} {scope : Scope} {dV kV doc pm cdv ct oc : Value} {an od : Option Addr} {osl : Array (Option Value)} {f : Addr} {args : Args} {binds : List (Str × Value)}
    (X : K.In s.heap) (hlim : s.heap.NoLimit)
    (ho : K.lookup f = some ⟨oc, od, .func (fnOf name qual params body scope dV kV doc pm an cdv ct), osl⟩) (hcd : codeIn K cdv qual = true) (hroom : A.depth < recursionLimit)
    (hbind : BindsTo s (fnOf name qual params body scope dV kV doc pm an cdv ct) args binds) (hloc : ∀ y ∈ binds, scope.names.lookup y.1 = some .local)
    (h : ∀ L h₁, L = s.heap.objs.size → Fr s.heap L h₁ (fun y => binds.reverse.lookup y) → 
      wpAny (model prog w) (A.deeper (envOf qual scope L f cdv)) (execs body (envOf qual scope L f cdv))
        (fun fl s' => R (.ok (.ret (match fl with | .ret v => v | _ => .none))) s')
        (fun _ _ => False)
        { s with heap := h₁, toks := s.toks + binds.length })
    (hco : scope.isCoroutine = false) (hgen : scope.isGenerator = false) (hk : scope.kind = .function)
    (hcell : ∀ x ∈ scope.names, x.2 ≠ .cell) : codeAny (model prog w) A (.call (.ref f) args) R s := by
  refine codeAny_call_def (fd := fnOf name qual params body scope dV kV doc pm an cdv ct) (body := body) (binds := binds) hroom (X _ _ ho) rfl hlim (codeRec_of X hcd) rfl hbind hcell hloc (fun h₁ hns hk₁ => ?_) hco hgen hk
  exact wpAny_mono (h s.heap.objs.size h₁ rfl ⟨hns, hk₁, Nat.le_refl _⟩) (fun _ _ x => x) (fun _ _ x => x.elim)

/-- a drawn number: NA, or a pair -/
abbrev D := Option (Int × Int)
def DAt (h : Heap) (v : Value) (d : D) : Prop := match d with
  | none => v = .none
  | some x => ∃ a t1 t2, v = .ref a ∧ IsTup h a #[.int x.1 t1, .int x.2 t2]
theorem DAt.keeps {h h' : Heap} {v : Value} {d : D} (x : DAt h v d) (k : h.StaysIn h') : DAt h' v d := by
  cases d with
  | none => exact x
  | some y => obtain ⟨a, t1, t2, e, i⟩ := x; exact ⟨a, t1, t2, e, i.keeps k⟩
theorem DAt.some {h : Heap} {a : Addr} {p q : Int} {t1 t2 : Tok} (i : IsTup h a #[.int p t1, .int q t2]) : DAt h (.ref a) (some (p, q)) := ⟨a, t1, t2, rfl, i⟩
theorem DAt.no {h : Heap} : DAt h .none none := rfl

abbrev RetB (s : Shared) (Q : Value → Shared → Prop) (b : Bool) : Prop := ∀ (h' : Heap) (tk : Nat), s.heap.StaysIn h' → Q (.bool b) { s with heap := h', toks := tk }
abbrev RetI (s : Shared) (Q : Value → Shared → Prop) (n : Int) : Prop := ∀ (h' : Heap) (tk : Nat) (t : Tok), s.heap.StaysIn h' → Q (.int n t) { s with heap := h', toks := tk }
abbrev RetD (s : Shared) (Q : Value → Shared → Prop) (d : D) : Prop := ∀ (r : Value) (h' : Heap) (tk : Nat), s.heap.StaysIn h' → DAt h' r d → Q r { s with heap := h', toks := tk }
section
variable {s : Shared} {Q : Value → Shared → Prop} {L : Addr} {h' : Heap} {m : Str → Option Value} {tk : Nat}
theorem mnB {b c : Bool} (k : RetB s Q b) (F : Fr s.heap L h' m) (e : c = b) : Q (.bool c) { s with heap := h', toks := tk } := e ▸ k h' tk F.keep
theorem mnI {b c : Int} {t : Tok} (k : RetI s Q b) (F : Fr s.heap L h' m) (e : c = b) : Q (.int c t) { s with heap := h', toks := tk } := e ▸ k h' tk t F.keep
theorem mnD {r : Value} {d : D} (k : RetD s Q d) (F : Fr s.heap L h' m) (e : DAt h' r d) : Q r { s with heap := h', toks := tk } := k r h' tk F.keep e
theorem mnDD {r : Value} {d d' : D} (k : RetD s Q d) (F : Fr s.heap L h' m) (i : DAt h' r d') (e : d' = d) : Q r { s with heap := h', toks := tk } := k r h' tk F.keep (e ▸ i)
theorem mnDN {d : D} (k : RetD s Q d) (F : Fr s.heap L h' m) (e : d = none) : Q .none { s with heap := h', toks := tk } := k _ h' tk F.keep (by subst e; rfl)
theorem mnDT {a : Addr} {p q : Int} {t1 t2 : Tok} {d : D} (k : RetD s Q d) (F : Fr s.heap L h' m) (i : IsTup h' a #[.int p t1, .int q t2]) (e : d = some (p, q)) : Q (.ref a) { s with heap := h', toks := tk } := k _ h' tk F.keep (by subst e; exact DAt.some i)
end
theorem mnTop {p : Program} {loose : List Str} {mean : ExcName → Option Value} {mg mb : Str → Option Value} {h₀ h : Heap} {L : Addr} {m : Str → Option Value} (T : Top p loose mean mg mb h₀) (F : Fr h₀ L h m) : Top p loose mean mg mb h := T.keeps F.keep
theorem mnIn {K : Frag} {h₀ h : Heap} {L : Addr} {m : Str → Option Value} (X : K.In h₀) (F : Fr h₀ L h m) : K.In h := X.keeps F.keep
theorem mnKeep {h₀ h : Heap} {L : Addr} {m : Str → Option Value} (F : Fr h₀ L h m) : h₀.StaysIn h := F.keep
theorem mnFr {h₀ h h' : Heap} {L : Addr} {m : Str → Option Value} (F : Fr h₀ L h m) (k : h.StaysIn h') : Fr h₀ L h' m := F.keeps k
theorem mnNews {h₀ h h' : Heap} {L : Addr} {news : List (Addr × Obj)} (N : News h₀ L h news) (k : h.StaysIn h') : News h₀ L h' news := N.grown k
theorem mnTupF {h₀ h : Heap} {L a : Addr} {m : Str → Option Value} {items : Array Value} (F : Fr h₀ L h m) (x : IsTup h₀ a items) : IsTup h a items := F.tup x
theorem mnTupN {h₀ h : Heap} {L a : Addr} {news : List (Addr × Obj)} {items : Array Value} {n : Nat} {d : Option Addr} {sl : Array (Option Value)} (N : News h₀ L h news) (hm : (a, { cls := .type "tuple", dict := d, data := .seq items n, slots := sl }) ∈ news) : IsTup h a items := N.isTup hm
theorem mnNil {h₀ h : Heap} {L : Addr} {m : Str → Option Value} (_ : Fr h₀ L h m) : News h₀ L h [] := News.nil
theorem mnTup {K : Frag} {h₀ h : Heap} {L a : Addr} {m : Str → Option Value} {l : List Value} {n : Nat} {dd : Option Addr} {sl : Array (Option Value)} (X : K.In h₀) (F : Fr h₀ L h m) (hl : K.lookup a = some ⟨.type "tuple", dd, .seq l.toArray n, sl⟩) : IsTup h a l.toArray := F.tup (tupK X hl)
open PySem.Spec in
def pd (d : D) : PyData := match d with
  | none => .none
  | some x => .tuple [.int x.1, .int x.2]
theorem DAt.reads {h : Heap} {v : Value} {d : D} (x : DAt h v d) : ∃ as, Reads h v (pd d) as := by
  cases d with
  | none => cases x; exact ⟨_, Reads.none⟩
  | some y =>
    obtain ⟨a, t1, t2, rfl, o, ho, hc, n, hd⟩ := x
    exact ⟨_, reads_tuple_at ho hc hd (.cons (Reads.int _ _) (.cons (Reads.int _ _) .nil))⟩
theorem pd_eqv (d e : D) : PyData.eqv (pd d) (pd e) = decide (d = e) := by
  rcases d with _ | ⟨p, q⟩ <;> rcases e with _ | ⟨p', q'⟩ <;> simp [pd, PyData.eqv, PyData.eqvAll] <;> first | done | rfl | grind
theorem pd_shaped (d : D) : SeqAt.shaped (pd d) = true := by
  rcases d with _ | ⟨p, q⟩ <;> simp [pd, SeqAt.shaped, PyData.canLay0, PyData.canLayAll0, PyData.depth, PyData.depthAll]
section
variable {prog : Program} {w : World} {A : Around} {E : Value → Shared → Prop} {s : Shared} {v u : Value} {d e : D} {Q : Value → Shared → Prop}
theorem mnEq (hv : DAt s.heap v d) (hu : DAt s.heap u e) (hA : A.units + 64 < cLine) (h : Q (.bool (decide (d = e))) s) : wpAny (model prog w) A (compareOp .Eq v u) Q E s := by
  obtain ⟨as, ra⟩ := hv.reads
  obtain ⟨bs, rb⟩ := hu.reads
  exact eq_dataH ra rb (pd_shaped d) (pd_shaped e) hA (by rw [pd_eqv]; exact h)
theorem mnNe (hv : DAt s.heap v d) (hu : DAt s.heap u e) (hA : A.units + 64 < cLine) (h : Q (.bool (!decide (d = e))) s) : wpAny (model prog w) A (compareOp .NotEq v u) Q E s := by
  obtain ⟨as, ra⟩ := hv.reads
  obtain ⟨bs, rb⟩ := hu.reads
  exact ne_dataH ra rb (pd_shaped d) (pd_shaped e) hA (by rw [pd_eqv]; exact h)
end

/-! Facts on addresses, each by itself: no omega for them. -/
theorem lt_head {d a : Addr} {o : Obj} {l : List (Addr × Obj)} (h : ∀ p ∈ (a, o) :: l, p.1 < d) : @LT.lt Nat _ a d ∧ ∀ p ∈ l, p.1 < d := ⟨h _ (.head _), fun p hp => h p (.tail _ hp)⟩
theorem lt_done {d : Addr} (h : ∀ p ∈ ([] : List (Addr × Obj)), p.1 < d) : True := trivial
theorem lt_all {d : Addr} {l : List (Addr × Obj)} (h : ∀ p ∈ l, p.1 < d) : ∀ p ∈ l, p.1 ≠ d := fun p hp => Nat.ne_of_lt (h p hp)
local macro_rules | `(tactic| k_lt $h:ident) => `(tactic| ((replace $h := allLt_of $h); (dsimp only [AllLt] at $h:ident); (repeat ((have hq := And.left $h); (replace $h := And.right $h))); (first | ((have hN : True := $h); clear hN $h) | (replace $h := kst_ltOf $h))))
local macro_rules | `(tactic| k_ne) => `(tactic| first | exact Nat.ne_of_lt (by with_reducible assumption) | exact Nat.ne_of_gt (by with_reducible assumption) | with_reducible assumption | exact Ne.symm (by with_reducible assumption))
local macro_rules | `(tactic| k_all) => `(tactic| first | exact lt_all (by with_reducible assumption) | with_reducible assumption)
/-- an end by its name alone: what it says stands once, in an Aim -/
def Aft {α : Type} (Q : α → Shared → Prop) (v : α) (s : Shared) : Prop := Q v s
def Aim {α : Type} (Q Q' : α → Shared → Prop) : Prop := ∀ v s, Q v s → Q' v s
theorem Aft.go {α : Type} {Q Q' : α → Shared → Prop} {v : α} {s : Shared} (a : Aim Q Q') (h : Q v s) : Aft Q' v s := a v s h
theorem gen_Q {M : Model} {A : Around} {α : Type} {c : Sem α} {Q : α → Shared → Prop} {E : Value → Shared → Prop} {s : Shared} (h : ∀ Q', Aim Q Q' → wpAny M A c (Aft Q') E s) : wpAny M A c Q E s := h Q fun _ _ h => h
/-- set where the ends are to be named -/
def AimHere : Prop := True
theorem said_1 : True := by
  (k_with "Aft" => (k_here; refine Aft.go (by first | with_reducible assumption | assumption) ?_; (try dsimp only)))
  (k_with "mine aim" => first | (with_reducible show wpAny _ _ _ (Aft _) _ _) | (rename AimHere => am9; refine gen_Q fun Q9 q9 => ?_) | skip)
  trivial
/-- the count of tokens is forgotten -/
theorem gen_toks {M : Model} {A : Around} {α : Type} {c : Sem α} {Q : α → Shared → Prop} {E : Value → Shared → Prop} {s : Shared} (h : ∀ tk, wpAny M A c Q E { s with toks := tk }) : wpAny M A c Q E s := h s.toks
theorem gen_toksQ {M : Model} {A : Around} {α : Type} {c : Sem α} {Q : α → Shared → Prop} {E : Value → Shared → Prop} {s : Shared} (h : ∀ tk Q', Aim Q Q' → wpAny M A c (Aft Q') E { s with toks := tk }) : wpAny M A c Q E s := h s.toks Q fun _ _ h => h

theorem said_2 : True := by
  (k_with "execs cons" => (k_here; (rename AimHere => am9); (with_reducible show wpAny _ _ _ (Aft _) _ _); refine gen_toks fun tk9 => ?_; (try dsimp only); refine wpAny_execs_cons ?_))
  (k_with "execs cons" => (k_here; (rename AimHere => am9); (fail_if_success (with_reducible show wpAny _ _ _ (Aft _) _ _)); refine gen_toksQ fun tk9 Q9 q9 => ?_; (try dsimp only)))
  trivial
theorem room0 {a d n : Nat} (h : a + d < n) : a < n := Nat.lt_of_le_of_lt (Nat.le_add_right a d) h
theorem room1 {a b d n : Nat} (h : a + d < n) (hb : Nat.ble b d = true) : a + b < n := Nat.lt_of_le_of_lt (Nat.add_le_add_left (Nat.le_of_ble_eq_true hb) a) h
theorem room2 {a b c d n : Nat} (h : a + d < n) (hb : Nat.ble (b + c) d = true) : a + b + c < n := Nat.add_assoc a b c ▸ room1 h hb
theorem said_3 : True := by
  (k_with "mine room" => (first | assumption | exact room0 (by assumption) | exact room2 (by assumption) rfl | exact room1 (by assumption) rfl | omega | ((try dsimp only [ar, Around.deeper, Around.in1]); omega) | (simp only [depth_deeper, depth_in1, units_in1, units_deeper]; omega)))
  (k_with "mine enter" => ((case k1 => assumption); (case k2 => exact PyProof.Rows.Top.nolimit (by assumption)); (case k6 => k_is); (case k7 => k_is); (case k8 => walk_at "mine room"); (case k9 => exact BindsTo.of_eq rfl); (case c5 => decide); (case kB => exact locs rfl); (case c2 => exact rfl); (case c3 => exact rfl); (case c4 => exact rfl); intro L h₁ hL F; (have N := mnNil F); (try dsimp only)))
  (k_with "mine tup" => first | assumption | exact mnTupF (by assumption) (by assumption) | exact mnTupN (by assumption) (by k_mem) | (refine' mnTup ?k1_r7 ?k2_r7 ?k3_r7; (case k1_r7 => assumption); (case k2_r7 => assumption); (case k3_r7 => k_is)))
  (k_with "mine dat" => first | assumption | exact DAt.no | (refine' DAt.some ?k1_r8; (case k1_r8 => walk_at "mine tup")))
  (k_with "mine after" => ((rename PySem.Heap.StaysIn _ _ => ks); (have F' := mnFr (by assumption) ks); (have N' := mnNews (by assumption) ks); (clear ks); k_sweep; (try dsimp only); (try k_fold)))
  (k_with "mine args" => ((case X => exact mnIn (by assumption) (by assumption)); (case T => exact mnTop (by assumption) (by assumption)); (try (case v => walk_at "mine dat")); (try (case v2 => walk_at "mine dat")); (case r => walk_at "mine room"); (case u => walk_at "mine room")))
  (k_with "compareOp Eq ref ref" => (k_here; (with_reducible show wpAny _ _ (compareOp CmpOp.Eq (Value.ref _) (Value.ref _)) _ _ _); (refine' mnEq ?v_r11 ?v2_r11 ?u_r11 ?_); (case v_r11 => walk_at "mine dat"); (case v2_r11 => walk_at "mine dat"); (case u_r11 => walk_at "mine room"); (simp only [Option.some.injEq, Prod.mk.injEq])))
  (k_with "mine endD" => ((try dsimp only); (rename RetD _ _ _ => kD); first | (refine' mnDD kD ?k1_r12 ?k2_r12 ?_; (case k1_r12 => assumption); (case k2_r12 => assumption)) | (refine' mnDT kD ?k1_r12 ?k2_r12 ?_; (case k1_r12 => assumption); (case k2_r12 => walk_at "mine tup")) | (refine' mnDN kD ?k1_r12 ?_; (case k1_r12 => assumption))))
  trivial
section
local macro_rules | `(tactic| k_lt $h:ident) => `(tactic| clear $h)
variable {w : World} {dp un : Nat} {fr : Option (List Env)} {gd : Option (List Code)} {s : Shared} {Q E : Value → Shared → Prop} {pv : Program} {loose : List Str} {mean : ExcName → Option Value} {mg mb : Str → Option Value}

def isNa : D → Bool
  | none => true
  | some x => decide (x.1 = 0 ∧ x.2 = 0)
theorem c_is_na {v : Value} {d : D} 
   (X : (hd.heap_1 w.params).In s.heap) (T : Top pv loose mean mg mb s.heap) (hv : DAt s.heap v d) (hr : dp + 1 < recursionLimit) (hu : un + 100 < cLine)
   (k : RetB s Q (isNa d)) :
   wpAny (model PG w) (ar dp fr gd un) (call (.ref 263) [v]) Q E s := by
  have am9 : AimHere := trivial
  refine wpAny_call ?_
  refine' code_pure (binds := [(S "x", v)]) ?k1 ?k2 ?k6 ?k7 ?k8 ?k9 ?kB ?_ ?c2 ?c3 ?c4 ?c5
  walk_at "mine enter"
  rcases d with _ | ⟨p, q⟩
  · cases hv
    w_top off
    w_strict (k_steps; (all_goals (try k_data)))
    all_goals (try dsimp only)
    all_goals (refine mnB k (by assumption) ?_)
    all_goals simp [isNa, *]
  · obtain ⟨a, t1, t2, rfl, ha⟩ := hv
    dsimp only at ha
    w_strict (k_steps; (all_goals (try k_data)))
    all_goals (try dsimp only)
    all_goals (refine mnB k (by assumption) ?_)
    all_goals (simp [isNa, *] <;> try grind)
def isNan : D → Bool
  | none => false
  | some x => decide (x.1 = 0 ∧ x.2 = 0)
theorem c_is_nan {v : Value} {d : D} 
   (X : (hd.heap_1 w.params).In s.heap) (T : Top pv loose mean mg mb s.heap) (hv : DAt s.heap v d) (hr : dp + 1 < recursionLimit) (hu : un + 100 < cLine)
   (k : RetB s Q (isNan d)) :
   wpAny (model PG w) (ar dp fr gd un) (call (.ref 270) [v]) Q E s := by
  have am9 : AimHere := trivial
  refine wpAny_call ?_
  refine' code_pure (binds := [(S "x", v)]) ?k1 ?k2 ?k6 ?k7 ?k8 ?k9 ?kB ?_ ?c2 ?c3 ?c4 ?c5
  walk_at "mine enter"
  rcases d with _ | ⟨p, q⟩
  · cases hv
    w_top off
    w_strict (k_steps; (all_goals (try k_data)))
    all_goals (try dsimp only)
    all_goals (refine mnB k (by assumption) ?_)
    all_goals simp [isNan, *]
  · obtain ⟨a, t1, t2, rfl, ha⟩ := hv
    dsimp only at ha
    w_strict (k_steps; (all_goals (try k_data)))
    all_goals (try dsimp only)
    all_goals (refine mnB k (by assumption) ?_)
    all_goals (simp [isNan, *] <;> try grind)
def isFin : D → Bool
  | none => false
  | some x => decide (0 < x.2)
theorem c_is_finite {v : Value} {d : D} 
   (X : (hd.heap_1 w.params).In s.heap) (T : Top pv loose mean mg mb s.heap) (hv : DAt s.heap v d) (hr : dp + 1 < recursionLimit) (hu : un + 100 < cLine)
   (k : RetB s Q (isFin d)) :
   wpAny (model PG w) (ar dp fr gd un) (call (.ref 277) [v]) Q E s := by
  have am9 : AimHere := trivial
  refine wpAny_call ?_
  refine' code_pure (binds := [(S "x", v)]) ?k1 ?k2 ?k6 ?k7 ?k8 ?k9 ?kB ?_ ?c2 ?c3 ?c4 ?c5
  walk_at "mine enter"
  rcases d with _ | ⟨p, q⟩
  · cases hv
    w_top off
    w_strict (k_steps; (all_goals (try k_data)))
    all_goals (try dsimp only)
    all_goals (refine mnB k (by assumption) ?_)
    all_goals simp [isFin, *]
  · obtain ⟨a, t1, t2, rfl, ha⟩ := hv
    dsimp only at ha
    w_strict (k_steps; (all_goals (try k_data)))
    all_goals (try dsimp only)
    all_goals (refine mnB k (by assumption) ?_)
    all_goals (simp [isFin, *] <;> try grind)
def markedD (x y : D) : D := if x = none ∨ y = none then none else some (0, 0)
theorem c_marked {v₁ v₂ : Value} {x y : D} 
   (X : (hd.heap_1 w.params).In s.heap) (T : Top pv loose mean mg mb s.heap) (hx : DAt s.heap v₁ x) (hy : DAt s.heap v₂ y) (hr : dp + 1 < recursionLimit) (hu : un + 100 < cLine)
   (k : RetD s Q (markedD x y)) :
   wpAny (model PG w) (ar dp fr gd un) (call (.ref 291) [v₁, v₂]) Q E s := by
  have am9 : AimHere := trivial
  refine wpAny_call ?_
  refine' code_pure (binds := [(S "x", v₁), (S "y", v₂)]) ?k1 ?k2 ?k6 ?k7 ?k8 ?k9 ?kB ?_ ?c2 ?c3 ?c4 ?c5
  walk_at "mine enter"
  rcases x with _ | ⟨p, q⟩
  · cases hx
    w_top off
    w_strict (k_steps; (all_goals (try k_data)))
    all_goals (try dsimp only)
    all_goals (refine mnDN k (by assumption) ?_)
    all_goals simp [markedD]
  · obtain ⟨a, t1, t2, rfl, ha⟩ := hx
    rcases y with _ | ⟨p', q'⟩
    · cases hy
      w_strict (k_steps; (all_goals (try k_data)))
      all_goals (try dsimp only)
      all_goals (refine mnDN k (by assumption) ?_)
      all_goals simp [markedD]
    · obtain ⟨b, t1', t2', rfl, hb⟩ := hy
      w_strict (k_steps; (all_goals (try k_data)))
      all_goals (try dsimp only)
      all_goals (refine' mnDT k (by assumption) ?k1 ?k2)
      case k1 => walk_at "mine tup"
      case k2 => simp [markedD]
theorem c_neg {v : Value} {p q : Int} 
   (X : (hd.heap_1 w.params).In s.heap) (T : Top pv loose mean mg mb s.heap) (hv : DAt s.heap v (some (p, q))) (hr : dp + 1 < recursionLimit) (hu : un + 100 < cLine)
   (k : RetD s Q (some (0 - p, q))) :
   wpAny (model PG w) (ar dp fr gd un) (call (.ref 298) [v]) Q E s := by
  have am9 : AimHere := trivial
  refine wpAny_call ?_
  refine' code_pure (binds := [(S "x", v)]) ?k1 ?k2 ?k6 ?k7 ?k8 ?k9 ?kB ?_ ?c2 ?c3 ?c4 ?c5
  walk_at "mine enter"
  obtain ⟨a, t1, t2, rfl, ha⟩ := hv
  dsimp only at ha
  w_top off
  w_strict (k_steps; (all_goals (try k_data)))
  all_goals (try dsimp only)
  all_goals (refine' mnDT k (by assumption) ?k1 ?k2)
  case k1 => walk_at "mine tup"
  case k2 => rfl
theorem c_from_int {n : Int} {t : Tok}
   (X : (hd.heap_1 w.params).In s.heap) (T : Top pv loose mean mg mb s.heap) (hr : dp + 1 < recursionLimit) (hu : un + 100 < cLine)
   (k : RetD s Q (some (n, 1))) :
   wpAny (model PG w) (ar dp fr gd un) (call (.ref 256) [.int n t]) Q E s := by
  have am9 : AimHere := trivial
  refine wpAny_call ?_
  refine' code_pure (binds := [(S "n", .int n t)]) ?k1 ?k2 ?k6 ?k7 ?k8 ?k9 ?kB ?_ ?c2 ?c3 ?c4 ?c5
  walk_at "mine enter"
  w_top off
  w_strict (k_steps; (all_goals (try k_data)))
  all_goals (try dsimp only)
  all_goals (refine' mnDT k (by assumption) ?k1 ?k2)
  case k1 => walk_at "mine tup"
  case k2 => rfl

theorem said_4 : True := by
  (k_with "call ref" => (k_here; (with_reducible show wpAny _ _ (call (Value.ref 263) [_]) _ _ _); (refine' c_is_na ?X ?T ?v ?r ?u ?_); walk_at "mine args"; (simp only [isNa]); intro h' tk' ks; walk_at "mine after"))
  (k_with "call ref" => (k_here; (with_reducible show wpAny _ _ (call (Value.ref 270) [_]) _ _ _); (refine' c_is_nan ?X ?T ?v ?r ?u ?_); walk_at "mine args"; (simp only [isNan]); intro h' tk' ks; walk_at "mine after"))
  (k_with "call ref" => (k_here; (with_reducible show wpAny _ _ (call (Value.ref 277) [_]) _ _ _); (refine' c_is_finite ?X ?T ?v ?r ?u ?_); walk_at "mine args"; (simp only [isFin]); intro h' tk' ks; walk_at "mine after"))
  (k_with "call ref" => (k_here; (with_reducible show wpAny _ _ (call (Value.ref 291) [_, _]) _ _ _); (refine' c_marked ?X ?T ?v ?v2 ?r ?u ?_); walk_at "mine args"; intro r' h' tk' ks dr; walk_at "mine after"))
  (k_with "call ref" => (k_here; (with_reducible show wpAny _ _ (call (Value.ref 298) [_]) _ _ _); (refine' c_neg ?X ?T ?v ?r ?u ?_); walk_at "mine args"; intro r' h' tk' ks dr; walk_at "mine after"))
  (k_with "call ref" => (k_here; (with_reducible show wpAny _ _ (call (Value.ref 256) [_]) _ _ _); (refine' c_from_int ?X ?T ?r ?u ?_); walk_at "mine args"; intro r' h' tk' ks dr; walk_at "mine after"))
  trivial
def logItem (x : Int × Int) : D := if x.1 = 0 ∧ x.2 = 0 then some x else if x = (1, 0) then some x else if x = (1, 1) then some (0, 1) else if x = (0, 1) then some (-1, 0) else some (0, 0)
theorem c_log_item {v : Value} {p q : Int} 
   (X : (hd.heap_1 w.params).In s.heap) (T : Top pv loose mean mg mb s.heap) (hv : DAt s.heap v (some (p, q))) (hr : dp + 2 < recursionLimit) (hu : un + 110 < cLine)
   (hd : (p = 1 ∧ q = 1) ∨ (p = 1 ∧ q = 0) ∨ (p = 0 ∧ q = 0) ∨ (p = 0 ∧ q = 1) ∨ p < 0)
   (k : RetD s Q (logItem (p, q))) :
   wpAny (model PG w) (ar dp fr gd un) (call (.ref 394) [v]) Q E s := by
  have am9 : AimHere := trivial
  refine wpAny_call ?_
  refine' code_pure (binds := [(S "x", v)]) ?k1 ?k2 ?k6 ?k7 ?k8 ?k9 ?kB ?_ ?c2 ?c3 ?c4 ?c5
  walk_at "mine enter"
  obtain ⟨a, t1, t2, rfl, ha⟩ := hv
  dsimp only at ha
  w_top off
  w_strict (k_steps; (all_goals (try k_data)))
  all_goals walk_at "mine endD"
  all_goals (simp only [logItem, Prod.mk.injEq] <;> first | (simp [*]; done) | grind)
end

def cmp1 (p q : Int) : Int := if q = 0 then (if p = 0 then 0 else if p < 0 then -1 else 1) else if p = q then 0 else if p < q then -1 else 1
theorem said_5 : True := by
  (k_with "mine endI" => ((try dsimp only); (rename RetI _ _ _ => kD); (refine' mnI kD ?k1_r19 ?_); (case k1_r19 => assumption)))
  trivial
theorem num_in {p a b c d : Int} (h : a < p ∧ p < b) (hc : c ≤ a) (hd : b ≤ d) : c < p ∧ p < d := ⟨Int.lt_of_le_of_lt hc h.1, Int.lt_of_lt_of_le h.2 hd⟩
theorem num_in0 {p b d : Int} (h : 0 < p ∧ p < b) (hd : b ≤ d) : 0 ≤ p ∧ p < d := ⟨Int.le_of_lt h.1, Int.lt_of_lt_of_le h.2 hd⟩
theorem num_no {p q a b c d : Int} (h : a < p ∧ p < b) (hc : c ≤ a) : ¬ (p = c ∧ q = d) := fun e => absurd h.1 (Int.not_lt.mpr (e.1 ▸ hc))
theorem said_6 : True := by
  (k_with "mine num" => first | assumption | exact And.left (by assumption) | exact And.right (by assumption) | exact And.intro (by assumption) (by assumption) | exact num_in (by assumption) (by decide) (by decide) | exact num_in0 (by assumption) (by decide) | exact num_in (And.intro (by assumption) (by assumption)) (by decide) (by decide) | exact num_in0 (And.intro (by assumption) (by assumption)) (by decide) | decide | omega | (constructor <;> omega) | (rw [if_neg (by omega)]; assumption) | (simp only [Int.one_mul]; assumption) | (rw [Int.one_mul, if_neg (by omega)]; assumption) | (simp only [Int.fdiv_one]; first | omega | (constructor <;> omega)))
  trivial
theorem gcd_step {x y : Int} (hx : 0 ≤ x) (hy : 0 < y) : Int.gcd y (x % y) = Int.gcd x y := by
  obtain ⟨m, rfl⟩ := Int.eq_ofNat_of_zero_le hx
  obtain ⟨n, rfl⟩ := Int.eq_ofNat_of_zero_le (Int.le_of_lt hy)
  rw [← Int.natCast_emod]
  show Nat.gcd n (m % n) = Nat.gcd m n
  rw [Nat.gcd_comm m n, Nat.gcd_comm n (m % n), ← Nat.gcd_rec]
theorem gcd_turn {a b x y : Int} (h : Int.gcd x y = Int.gcd a b) (hx : 0 ≤ x) (hy : 0 < y) : 0 ≤ y ∧ 0 ≤ Int.fmod x y ∧ Int.gcd y (Int.fmod x y) = Int.gcd a b := by
  refine ⟨by (first | lia | omega), ?_, ?_⟩
  · rw [Int.fmod_eq_emod_of_nonneg _ (by (first | lia | omega))]; exact Int.emod_nonneg _ (by (first | lia | omega))
  · rw [Int.fmod_eq_emod_of_nonneg _ (by (first | lia | omega)), ← h, gcd_step hx hy]
theorem gcd_less {x y : Int} (hy : 0 < y) : (Int.fmod x y).toNat < y.toNat := by
  rw [Int.fmod_eq_emod_of_nonneg _ (by (first | lia | omega))]
  have := Int.emod_lt_of_pos x hy
  have := Int.emod_nonneg x (show y ≠ 0 by (first | lia | omega))
  (first | lia | omega)
theorem gcd_out {a b x y : Int} (h : Int.gcd x y = Int.gcd a b) (hx : 0 ≤ x) (hy : 0 ≤ y) (hn : ¬ 0 < y) (hg : Int.gcd a b = 1) : x = 1 := by
  have : y = 0 := by (first | lia | omega)
  subst this
  rw [hg, Int.gcd_zero_right] at h; (first | lia | omega)
section
local macro_rules | `(tactic| k_lt $h:ident) => `(tactic| clear $h)
variable {w : World} {dp un : Nat} {fr : Option (List Env)} {gd : Option (List Code)} {s : Shared} {Q E : Value → Shared → Prop} {pv : Program} {loose : List Str} {mean : ExcName → Option Value} {mg mb : Str → Option Value}
theorem c_compare {v v₂ : Value} {p q : Int} 
   (X : (hd.heap_1 w.params).In s.heap) (T : Top pv loose mean mg mb s.heap) (hv : DAt s.heap v (some (p, q))) (hv₂ : DAt s.heap v₂ (some (1, 1))) (hr : dp + 2 < recursionLimit) (hu : un + 110 < cLine)
   (hn : ¬ (p = 0 ∧ q = 0)) (hp : -1000000 < p ∧ p < 1000000) (hq : 0 ≤ q ∧ q < 1000000)
   (k : RetI s Q (cmp1 p q)) :
   wpAny (model PG w) (ar dp fr gd un) (call (.ref 354) [v, v₂]) Q E s := by
  have am9 : AimHere := trivial
  refine wpAny_call ?_
  refine' code_pure (binds := [(S "x", v), (S "y", v₂)]) ?k1 ?k2 ?k6 ?k7 ?k8 ?k9 ?kB ?_ ?c2 ?c3 ?c4 ?c5
  walk_at "mine enter"
  obtain ⟨a, t1, t2, rfl, ha⟩ := hv
  obtain ⟨b, t3, t4, rfl, hb⟩ := hv₂
  dsimp only at ha hb
  w_top off
  w_strict (k_steps; (all_goals (try k_data)))
  all_goals walk_at "mine endI"
  all_goals first | ((unfold cmp1; (repeat (first | rw [if_pos (by (first | lia | omega))] | rw [if_neg (by (first | lia | omega))]))); done) | (simp only [cmp1] <;> first | (simp [*]; done) | (grind) | (split <;> (first | lia | omega)) | (first | lia | omega))
theorem c_gcd {a b : Int} {t1 t2 : Tok}
   (X : (hd.heap_1 w.params).In s.heap) (T : Top pv loose mean mg mb s.heap) (hr : dp + 2 < recursionLimit) (hu : un + 110 < cLine)
   (ha : 0 ≤ a) (hb : 0 ≤ b) (hg : Int.gcd a b = 1)
   (k : RetI s Q 1) :
   wpAny (model PG w) (ar dp fr gd un) (call (.ref 235) [.int a t1, .int b t2]) Q E s := by
  have am9 : AimHere := trivial
  refine wpAny_call ?_
  refine' code_pure (binds := [(S "a", .int a t1), (S "b", .int b t2)]) ?k1 ?k2 ?k6 ?k7 ?k8 ?k9 ?kB ?_ ?c2 ?c3 ?c4 ?c5
  walk_at "mine enter"
  (k_with "state" => exact gcd_turn (by assumption) (by assumption) (by assumption))
  (k_with "measure" => exact gcd_less (by assumption))
  (k_with "exec While Compare cons nil" => k_while (fun _ x y => 0 ≤ x ∧ 0 ≤ y ∧ Int.gcd x y = Int.gcd a b) (fun _ _ y => y.toNat) "a" "b")
  w_top off
  w_strict (k_steps; (all_goals (try k_data)))
  all_goals walk_at "mine endI"
  exact gcd_out (by assumption) (by assumption) (by assumption) (by assumption) (by assumption)
theorem said_7 : True := by
  (k_with "call ref" => (k_here; (with_reducible show wpAny _ _ (call (Value.ref 354) [_, _]) _ _ _); (refine' c_compare ?X ?T ?v ?v2 ?r ?u ?p1_r21 ?p2_r21 ?p3_r21 ?_); walk_at "mine args"; (case p1_r21 => walk_at "mine num"); (case p2_r21 => walk_at "mine num"); (case p3_r21 => walk_at "mine num"); (simp only [cmp1]); intro h' tk' t' ks; walk_at "mine after"))
  (k_with "call ref" => (k_here; (with_reducible show wpAny _ _ (call (Value.ref 235) [_, _]) _ _ _); (refine' c_gcd ?X ?T ?r ?u ?p1_r22 ?p2_r22 ?p3_r22 ?_); walk_at "mine args"; (case p1_r22 => walk_at "mine num"); (case p2_r22 => walk_at "mine num"); (case p3_r22 => walk_at "mine num"); intro h' tk' t' ks; walk_at "mine after"))
  trivial
theorem c_bounded {n d : Int} {t1 t2 : Tok}
   (X : (hd.heap_1 w.params).In s.heap) (T : Top pv loose mean mg mb s.heap) (hr : dp + 2 < recursionLimit) (hu : un + 110 < cLine)
   (hn : -1000000 < n ∧ n < 1000000) (hd : 0 ≤ d ∧ d < 1000000)
   (k : RetD s Q (some (n, d))) :
   wpAny (model PG w) (ar dp fr gd un) (call (.ref 242) [.int n t1, .int d t2]) Q E s := by
  have am9 : AimHere := trivial
  refine wpAny_call ?_
  refine' code_pure (binds := [(S "n", .int n t1), (S "d", .int d t2)]) ?k1 ?k2 ?k6 ?k7 ?k8 ?k9 ?kB ?_ ?c2 ?c3 ?c4 ?c5
  walk_at "mine enter"
  w_top off
  w_strict (k_steps; (all_goals (try k_data)))
  all_goals walk_at "mine endD"
  rfl
theorem said_8 : True := by
  (k_with "call ref" => (k_here; (with_reducible show wpAny _ _ (call (Value.ref 242) [_, _]) _ _ _); (refine' c_bounded ?X ?T ?r ?u ?p1_r23 ?p2_r23 ?_); walk_at "mine args"; (case p1_r23 => walk_at "mine num"); (case p2_r23 => walk_at "mine num"); intro r' h' tk' ks dr; walk_at "mine after"))
  trivial
theorem c_make {n d : Int} {t1 t2 : Tok}
   (X : (hd.heap_1 w.params).In s.heap) (T : Top pv loose mean mg mb s.heap) (hr : dp + 3 < recursionLimit) (hu : un + 120 < cLine)
   (hn : 0 < n ∧ n < 1000000) (hd : 0 < d ∧ d < 1000000) (hg : Int.gcd n d = 1)
   (k : RetD s Q (some (n, d))) :
   wpAny (model PG w) (ar dp fr gd un) (call (.ref 249) [.int n t1, .int d t2]) Q E s := by
  have am9 : AimHere := trivial
  refine wpAny_call ?_
  refine' code_pure (binds := [(S "n", .int n t1), (S "d", .int d t2)]) ?k1 ?k2 ?k6 ?k7 ?k8 ?k9 ?kB ?_ ?c2 ?c3 ?c4 ?c5
  walk_at "mine enter"
  w_top off
  w_strict (k_steps; (all_goals (try k_data)))
  all_goals first | (exfalso; (first | lia | omega)) | walk_at "mine endD"
  simp only [Int.fdiv_one]
theorem said_9 : True := by
  (k_with "call ref" => (k_here; (with_reducible show wpAny _ _ (call (Value.ref 249) [_, _]) _ _ _); (refine' c_make ?X ?T ?r ?u ?p1_r24 ?p2_r24 ?p3_r24 ?_); walk_at "mine args"; (case p1_r24 => walk_at "mine num"); (case p2_r24 => walk_at "mine num"); (case p3_r24 => walk_at "mine num"); intro r' h' tk' ks dr; walk_at "mine after"))
  trivial
theorem c_div1 {v₁ v₂ : Value} {n d : Int} 
   (X : (hd.heap_1 w.params).In s.heap) (T : Top pv loose mean mg mb s.heap) (hv : DAt s.heap v₁ (some (1, 1))) (hv₂ : DAt s.heap v₂ (some (n, d))) (hr : dp + 4 < recursionLimit) (hu : un + 130 < cLine)
   (hn : 0 < n ∧ n < 1000000) (hd : 0 < d ∧ d < 1000000) (hg : Int.gcd d n = 1)
   (k : RetD s Q (some (d, n))) :
   wpAny (model PG w) (ar dp fr gd un) (call (.ref 305) [v₁, v₂]) Q E s := by
  have am9 : AimHere := trivial
  refine wpAny_call ?_
  refine' code_pure (binds := [(S "x", v₁), (S "y", v₂)]) ?k1 ?k2 ?k6 ?k7 ?k8 ?k9 ?kB ?_ ?c2 ?c3 ?c4 ?c5
  walk_at "mine enter"
  obtain ⟨a, t1, t2, rfl, ha⟩ := hv
  obtain ⟨b, t3, t4, rfl, hb⟩ := hv₂
  dsimp only at ha hb
  w_top off
  w_strict (k_steps; (all_goals (try k_data)))
  all_goals walk_at "mine endD"
  simp only [Int.one_mul]
theorem said_10 : True := by
  (k_with "call ref" => (k_here; (with_reducible show wpAny _ _ (call (Value.ref 305) [_, _]) _ _ _); (refine' c_div1 ?X ?T ?v ?v2 ?r ?u ?p1_r25 ?p2_r25 ?p3_r25 ?_); walk_at "mine args"; (case p1_r25 => walk_at "mine num"); (case p2_r25 => walk_at "mine num"); (case p3_r25 => walk_at "mine num"); intro r' h' tk' ks dr; walk_at "mine after"))
  trivial
end

/-! The flight of the text's own exception (class 65), its dict kept. -/
section
open Heap
def frs (l : List Env) : List Addr := l.filterMap (·.frame)
def MsgAt (h : Heap) (dx : Addr) (msg : Str) : Prop := ∃ m t, h.Ns dx m ∧ m (S "message") = some (.str msg t)
structure Flies (H : Heap) (l : List Env) (msg : Str) (e dx : Addr) (sl : Array (Option Value)) (vs : Array Value) (h : Heap) : Prop where
  keep : ∀ b o, H.get? b = some o → b ∉ frs l → h.get? b = some o
  slot : ∀ b o, H.get? b = some o → ∃ sl, h.get? b = some { o with slots := sl }
  frames : h.FunFrames {} l
  new : H.get? e = none
  here : h.get? e = some ⟨.ref 65, some dx, .fields vs, sl⟩
  msg : MsgAt h dx msg
  size : 1 < vs.size
variable {H h h' : Heap} {l : List Env} {msg : Str} {e dx : Addr} {sl : Array (Option Value)} {vs : Array Value}
theorem MsgAt.slots {S : List Addr} (x : MsgAt h dx msg) (k : SlotsOnly S h h') : MsgAt h' dx msg := by
  obtain ⟨m, t, ⟨o, es, ep, ho, hd, r⟩, hm⟩ := x
  obtain ⟨sl, hs⟩ := k.2.2 _ _ ho
  exact ⟨m, t, ⟨_, es, ep, hs, hd, r⟩, hm⟩
theorem MsgAt.other {a : Addr} {oa : Obj} {ws : Array Value} (x : MsgAt h dx msg) (ha : h.get? a = some oa) (hd : oa.data = .fields ws) (k : ∀ b, b ≠ a → h'.get? b = h.get? b) : MsgAt h' dx msg := by
  obtain ⟨m, t, ⟨o, es, ep, ho, hod, r⟩, hm⟩ := x
  refine ⟨m, t, ⟨o, es, ep, (k dx fun z => ?_).trans ho, hod, r⟩, hm⟩
  rw [z, ha] at ho; cases ho; rw [hd] at hod; cases hod
theorem Flies.e_off (x : Flies H l msg e dx sl vs h) : e ∉ frs l := fun hm => by
  obtain ⟨_, o, ho, hnf⟩ := x.frames.mem hm
  rw [x.here] at ho; cases ho; exact hnf vs rfl
theorem Flies.slots (x : Flies H l msg e dx sl vs h) (k : SlotsOnly (frs l) h h') : Flies H l msg e dx sl vs h' where
  keep b o hb hn := (k.2.1 b hn).trans (x.keep b o hb hn)
  slot b o hb := by
    obtain ⟨s1, h1⟩ := x.slot b o hb
    obtain ⟨s2, h2⟩ := k.2.2 b _ h1
    exact ⟨s2, h2⟩
  frames := x.frames.of_slotsOnly k
  new := x.new
  here := (k.2.1 e x.e_off).trans x.here
  msg := x.msg.slots k
  size := x.size
theorem Flies.push (x : Flies H l msg e dx sl vs h) (o : Obj) : Flies H l msg e dx sl vs (h.push o) where
  keep b o' hb hn := Heap.get?_push_of_some _ (x.keep b o' hb hn)
  slot b o' hb := let ⟨s1, h1⟩ := x.slot b o' hb; ⟨s1, Heap.get?_push_of_some _ h1⟩
  frames := x.frames.of_keeps fun b o' hb _ => ⟨o', Heap.get?_push_of_some _ hb, rfl⟩
  new := x.new
  here := Heap.get?_push_of_some _ x.here
  msg := let ⟨m, t, hn, hm⟩ := x.msg; ⟨m, t, hn.keeps fun b o' hb => Heap.get?_push_of_some _ hb, hm⟩
  size := x.size
theorem Flies.other {a : Addr} {oa : Obj} {ws : Array Value} (x : Flies H l msg e dx sl vs h) (hH : H.get? a = none) (ha : h.get? a = some oa) (hd : oa.data = .fields ws) (hae : a ≠ e) (k : ∀ b, b ≠ a → h'.get? b = h.get? b) : Flies H l msg e dx sl vs h' where
  keep b o hb hn := (k b fun z => by rw [z, hH] at hb; cases hb).trans (x.keep b o hb hn)
  slot b o hb := let ⟨s1, h1⟩ := x.slot b o hb; ⟨s1, (k b fun z => by rw [z, hH] at hb; cases hb).trans h1⟩
  frames := x.frames.of_keeps fun b o hb hnf => ⟨o, (k b fun z => by rw [z, ha] at hb; cases hb; exact hnf ws hd).trans hb, rfl⟩
  new := x.new
  here := (k e (Ne.symm hae)).trans x.here
  msg := x.msg.other ha hd k
  size := x.size
theorem Flies.self {vs' : Array Value} (x : Flies H l msg e dx sl vs h) (k : ∀ b, b ≠ e → h'.get? b = h.get? b) (he : h'.get? e = some ⟨.ref 65, some dx, .fields vs', sl⟩) (hz : 1 < vs'.size) : Flies H l msg e dx sl vs' h' where
  keep b o hb hn := (k b fun z => by rw [z, x.new] at hb; cases hb).trans (x.keep b o hb hn)
  slot b o hb := let ⟨s1, h1⟩ := x.slot b o hb; ⟨s1, (k b fun z => by rw [z, x.new] at hb; cases hb).trans h1⟩
  frames := x.frames.of_keeps fun b o hb hnf => ⟨o, (k b fun z => by rw [z, x.here] at hb; cases hb; exact hnf vs rfl).trans hb, rfl⟩
  new := x.new
  here := he
  msg := x.msg.other x.here rfl k
  size := hz
/-- the head of the traceback, its flight's mark -/
def Traced (H h : Heap) (e : Addr) (vs : Array Value) (fl : Value) : Prop := ∃ T oT ts, vs[1]? = some (.ref T) ∧ T ≠ e ∧ H.get? T = none ∧ h.get? T = some oT ∧ oT.data = .fields ts ∧ ts[3]? = some fl
/-- e flies through the frames l -/
def Rz (H : Heap) (l : List Env) (msg : Str) (e : Addr) (h : Heap) : Prop := ∃ dx sl vs, Flies H l msg e dx sl vs h ∧ (vs[1]? = some .none ∨ Traced H h e vs .none ∨ ∃ env r L, l = env :: r ∧ env.frame = some L ∧ Traced H h e vs (rawInt L))
/-- with a traceback; the mark said -/
def RzT (H : Heap) (l : List Env) (msg : Str) (fl : Value) (e : Addr) (h : Heap) : Prop := ∃ dx sl vs, Flies H l msg e dx sl vs h ∧ Traced H h e vs fl
end
section
variable {M : Model} {A : Around} {E : Value → Shared → Prop} {s : Shared} {H : Heap} {env : Env} {outer : List Env} {L e : Addr} {msg : Str} {Q : Unit → Shared → Prop}
theorem rz_entry {head : Value} {hadNext : Bool} {dx : Addr} {sl : Array (Option Value)} {vs : Array Value} (hfr : A.frames = some (env :: outer)) (hf : env.frame = some L) (x : Flies H (env :: outer) msg e dx sl vs s.heap)
    (hH : ∀ b o, H.get? b = some o → ∃ o', s.heap.get? b = some o')
    (h : ∀ h', RzT H (env :: outer) msg (rawInt L) e h' → Q () { s with heap := h' }) :
    wpAny M A (do let a ← frameOf env; let pl ← entryPlaceOf L hadNext; let b ← EntryCells.newEntry head a .none (rawInt L) .none pl; setField (.ref e) 1 b) Q E s := by
  refine wpAny_bind (wpAny_frameOf_fun hfr x.frames hf fun h₁ hs₁ => ?_)
  have x₁ := x.slots hs₁
  refine wpAny_bind (wpAny_entryPlaceOf fun pl hpl => ?_)
  unfold EntryCells.newEntry newFields
  refine wpAny_bind (wpAny_newObj_type ?_ (hpl.sizeOk5 _ _ _ _ _))
  have x₂ := x₁.push { cls := .type "traceback", dict := none, data := .fields ([head, .ref L, .none, rawInt L, .none] ++ (if pl.isEmpty then List.replicate 6 Value.none else pl)).toArray }
  refine wpAny_setField x₂.here rfl x.size (h _ ?_)
  have hTe : h₁.objs.size ≠ e := Nat.ne_of_gt (Heap.lt_size x₁.here)
  have hT := Heap.get?_push_size h₁ (o := { cls := .type "traceback", dict := none, data := .fields ([head, .ref L, .none, rawInt L, .none] ++ (if pl.isEmpty then List.replicate 6 Value.none else pl)).toArray }) rfl
  refine ⟨dx, sl, vs.setIfInBounds 1 (.ref h₁.objs.size), x₂.self (fun b hb => Heap.get?_update_other _ _ (Ne.symm hb)) (Heap.get?_update_self _ x₂.here rfl) (by simpa using x.size), h₁.objs.size, _, _, by simp [x.size], hTe, ?_, (Heap.get?_update_other _ _ (Ne.symm hTe)).trans hT, rfl, ?_⟩
  · cases q : H.get? h₁.objs.size with
    | none => rfl
    | some o =>
      obtain ⟨_, h1⟩ := x₁.slot _ _ q
      exact absurd (Heap.lt_size h1) (Nat.lt_irrefl _)
  · first | (simp; done) | (rcases hpl with rfl | ⟨_, _, _, _, _, _, _, rfl⟩ <;> simp)
theorem rz_note (hfr : A.frames = some (env :: outer)) (hf : env.frame = some L) (x : Rz H (env :: outer) msg e s.heap)
    (h : ∀ h', RzT H (env :: outer) msg (rawInt L) e h' → Q () { s with heap := h' }) : wpAny M A (noteFrame (.ref e) env) Q E s := by
  obtain ⟨dx, sl, vs, x, t⟩ := x
  have hH : ∀ b o, H.get? b = some o → ∃ o', s.heap.get? b = some o' := fun b o hb => let ⟨_, h1⟩ := x.slot b o hb; ⟨_, h1⟩
  unfold noteFrame
  simp only [hf]
  rcases t with t | ⟨T, oT, ts, h1, hTe, hHT, hT, hd, h3⟩ | ⟨env', r, L', q, hf', T, oT, ts, h1, hTe, hHT, hT, hd, h3⟩
  · refine wpAny_bind (wpAny_field x.here rfl t ?_)
    rw [if_neg (by decide)]
    exact rz_entry hfr hf x hH h
  · refine wpAny_bind (wpAny_field x.here rfl h1 ?_)
    rw [if_pos (show (Value.ref T != Value.none) = true from by simp)]
    refine wpAny_bind (wpAny_field hT hd h3 ?_)
    rw [if_neg (show ¬ ((Value.none == rawInt L) = true) from by simp [rawInt])]
    refine wpAny_bind (wpAny_setField hT hd (Array.getElem?_eq_some_iff.mp h3).1 ?_)
    have x' := x.other (h' := s.heap.update T (Obj.mapFields (·.setIfInBounds 3 Value.none))) hHT hT hd hTe fun b hb => Heap.get?_update_other _ _ (Ne.symm hb)
    exact rz_entry (s := { s with heap := s.heap.update T (Obj.mapFields (·.setIfInBounds 3 Value.none)) }) hfr hf x' (fun b o hb => let ⟨_, h1⟩ := x'.slot b o hb; ⟨_, h1⟩) h
  · cases q
    cases hf.symm.trans hf'
    refine wpAny_bind (wpAny_field x.here rfl h1 ?_)
    rw [if_pos (show (Value.ref T != Value.none) = true from by simp)]
    refine wpAny_bind (wpAny_field hT hd h3 ?_)
    rw [if_pos (show (rawInt L == rawInt L) = true from by simp)]
    exact wpAny_pure (h _ ⟨dx, sl, vs, x, T, oT, ts, h1, hTe, hHT, hT, hd, h3⟩)
theorem rz_mark {l : List Env} {fl : Value} {fr : Option Addr} (x : RzT H l msg fl e s.heap) (h : ∀ h', RzT H l msg (fr.elim .none fun f => rawInt f) e h' → Q () { s with heap := h' }) : wpAny M A (setFlight (.ref e) fr) Q E s := by
  obtain ⟨dx, sl, vs, x, T, oT, ts, h1, hTe, hHT, hT, hd, h3⟩ := x
  have hz := (Array.getElem?_eq_some_iff.mp h3).1
  unfold setFlight
  refine wpAny_bind (wpAny_field x.here rfl h1 ?_)
  rw [if_pos (show (Value.ref T != Value.none) = true from by simp)]
  refine wpAny_setField hT hd hz (h _ ?_)
  exact ⟨dx, sl, vs, x.other hHT hT hd hTe fun b hb => Heap.get?_update_other _ _ (Ne.symm hb), T, _, _, h1, hTe, hHT, Heap.get?_update_self _ hT (Obj.isFreed_of_fields (Obj.data_mapFields hd _)), Obj.data_mapFields hd _, by simp [hz]⟩
theorem RzT.rz {l : List Env} (x : RzT H l msg .none e s.heap) : Rz H l msg e s.heap := let ⟨dx, sl, vs, f, t⟩ := x; ⟨dx, sl, vs, f, .inr (.inl t)⟩
/-- e leaves a frame that did not stand in H -/
theorem rz_leave (hfr : A.frames = some (env :: outer)) (hf : env.frame = some L) (hL : H.get? L = none) (x : Rz H (env :: outer) msg e s.heap)
    (h : ∀ h', Rz H outer msg e h' → Q () { s with heap := h' }) : wpAny M A (leaving env (.ref e)) Q E s := by
  unfold leaving
  refine wpAny_bind (rz_note hfr hf x fun h₁ x₁ => rz_mark (s := { s with heap := h₁ }) x₁ fun h₂ x₂ => h h₂ ?_)
  obtain ⟨dx, sl, vs, f, t⟩ := x₂
  refine ⟨dx, sl, vs, ⟨fun b o hb hn => f.keep b o hb fun hm => ?_, f.slot, f.frames.2.2, f.new, f.here, f.msg, f.size⟩, .inr (.inl t)⟩
  unfold frs at hm hn
  rw [List.filterMap_cons, hf] at hm
  rcases List.mem_cons.mp hm with z | z
  · rw [z, hL] at hb; cases hb
  · exact hn z
/-- the same, of an elder heap -/
theorem Rz.mono {H' : Heap} {l : List Env} {h : Heap} (x : Rz H l msg e h) (k : H'.StaysIn H) : Rz H' l msg e h := by
  have none_of : ∀ b, H.get? b = none → H'.get? b = none := fun b hb => by
    cases q : H'.get? b with
    | none => rfl
    | some o => have := k b o q; rw [hb] at this; cases this
  obtain ⟨dx, sl, vs, f, t⟩ := x
  refine ⟨dx, sl, vs, ⟨fun b o hb => f.keep b o (k b o hb), fun b o hb => f.slot b o (k b o hb), f.frames, none_of _ f.new, f.here, f.msg, f.size⟩, ?_⟩
  rcases t with t | ⟨T, oT, ts, h1, hTe, hHT, r⟩ | ⟨env', r, L', q, hf', T, oT, ts, h1, hTe, hHT, r'⟩
  · exact .inl t
  · exact .inr (.inl ⟨T, oT, ts, h1, hTe, none_of _ hHT, r⟩)
  · exact .inr (.inr ⟨env', r, L', q, hf', T, oT, ts, h1, hTe, none_of _ hHT, r'⟩)
/-- the exception's own end of a tree that began in s₀ -/
def RzE (P : Prop) (s₀ : Shared) (H : Heap) (l : List Env) (msg : Str) (ev : Value) (s' : Shared) : Prop := P ∧ ∃ e h' tk, ev = .ref e ∧ s' = { s₀ with heap := h', toks := tk } ∧ Rz H l msg e h'
theorem rzE_passes {P : Prop} {s₀ : Shared} (hfr : A.frames = some (env :: outer)) (hf : env.frame = some L) : PassesOwn M A env (RzE P s₀ H (env :: outer) msg) := by
  rintro ev s' ⟨hP, e, h', tk, rfl, rfl, x⟩
  refine rz_note (s := { s₀ with heap := h', toks := tk }) hfr hf x fun h₁ x₁ => ?_
  have x₁' := x₁
  obtain ⟨dx, sl, vs, f, T, oT, ts, h1, hTe, hHT, hT, hd, h3⟩ := x₁
  refine wpAny_bind (wpAny_field f.here rfl h1 ?_)
  rw [if_neg (by simp)]
  refine rz_mark (s := { s₀ with heap := h₁, toks := tk }) x₁' fun h₂ x₂ => ⟨hP, e, h₂, tk, rfl, rfl, ?_⟩
  obtain ⟨dx, sl, vs, f, t⟩ := x₂
  rw [hf] at t
  exact ⟨dx, sl, vs, f, .inr (.inr ⟨env, outer, L, rfl, hf, t⟩)⟩
end

/-! Making the text's own exception: its class has an __init__ and an own base. -/
section
variable {prog : Program} {w : World} {A : Around} {E : Value → Shared → Prop} {h : Heap} {g : Array GenState} {d : Drawn} {t : Nat} {os : OsState}
variable {nm q : Str} {C N : Addr} {bs bm bmB : List Value} {hdct : Bool} {sn : List Str} {sub : List Value} {ab : Bool} {col : Option Bool} {dd : Option Addr} {k0 k1 k2 k3 k5 : Option Value} {B newId initId : String}
theorem exc_type_call (F : ExcBaseFacts B newId initId bmB) (T : OwnTail h bmB bm) {mN : Str → Option Value} {rest : List Value} {fI : Addr} {oI : Obj} {Q : Fin → Shared → Prop}
    (hC : h.get? C = some (excClassObj nm q C N bs bm hdct sn sub ab col dd k0 k1 k2 k3 k5 newId)) (hn : h.Ns N mN) (hi : mN "__init__" = some (.ref fI))
    (hfI : h.get? fI = some oI) (hfc : oI.cls = .type "function")
    (hq : ∀ h' e, Heap.MadeExcOf h h' e (.ref C) rest → wpAny (model prog w) A (call (.ref fI) (.ref e :: rest)) (fun r s' => r = .none ∧ Q (.done (.ret (.ref e))) s') E ⟨h', g, d, t, os⟩)
    (hrest : rest.length ≤ sizeLine := by size_fits) :
    wpAny (model prog w) A (Builtin.«type.__call__» ⟨.ref C :: rest, []⟩) Q E ⟨h, g, d, t, os⟩ := by
  repeat (first | with_reducible refine wpAny_loadPart_at hC ?_ | with_reducible refine wpAny_madeBy_exc hC ?_ | wp_step)
  refine codeAny_call_builtin_code (Code.quiet_builtin _ F.quiet) (wpAny_check_new_subT F T hC ?_)
  refine codeAny_exc_new_subT F T hC ?_ hrest
  show wpAny _ _ _ _ _ _
  have kp : ∀ b o, h.get? b = some o → ((h.push { cls := .type "tuple", data := .seq rest.toArray }).push { cls := .ref C, data := .fields #[.ref h.objs.size, .none, .none, .none, .bool false, .none] }).get? b = some o :=
    fun b o e => Heap.get?_push_of_some _ (Heap.get?_push_of_some _ e)
  have hC₁ := kp _ _ hC
  have hn₁ := hn.keeps kp
  have T₁ := T.keeps kp
  have hget : ((h.push { cls := .type "tuple", data := .seq rest.toArray }).push
      { cls := .ref C, data := .fields #[.ref h.objs.size, .none, .none, .none, .bool false, .none] }).get? (h.objs.size + 1) = some
      { cls := .ref C, data := .fields #[.ref h.objs.size, .none, .none, .none, .bool false, .none] } := by heap_get
  have hcC : (Value.ref C :: bm).contains (.ref C) = true := by simp
  unfold isInstance
  repeat (first | with_reducible refine wpAny_loadPart_at hget ?_ | (with_reducible refine wpAny_isSubtype_exc hC₁ ?_; rw [hcC]) | wp_step)
  show wpAny _ _ (typeLookup (.ref C) _) _ _ _
  refine wpAny_typeLookup_tail hC₁ hn₁ T₁ F.mroIs F.init.lookup ?_
  rw [hi]
  refine wpAny_holding (wpAny_bind ?_)
  unfold bindSpecial
  refine wpAny_bind (wpAny_typeOf (T := "function") ⟨_, kp _ _ hfI, hfc⟩ ?_)
  rw [if_pos (by decide)]
  refine wpAny_pure (wpAny_bind (wpAny_mono (hq _ (h.objs.size + 1) ⟨kp, Heap.get?_none_of_le (Nat.le_succ _), h.objs.size, hget, Heap.get?_none_of_le (Nat.le_refl _), ?_⟩) (fun r s' hr => ?_) fun _ _ x => x))
  · exact Heap.get?_push_of_some _ (Heap.get?_push_at rfl rfl)
  · obtain ⟨rfl, hQ⟩ := hr
    wp_walk
    exact hQ
theorem exc_call (F : ExcBaseFacts B newId initId bmB) (T : OwnTail h bmB bm) {mN : Str → Option Value} {rest : List Value} {fI : Addr} {oI : Obj} {Q : Value → Shared → Prop}
    (hC : h.get? C = some (excClassObj nm q C N bs bm hdct sn sub ab col dd k0 k1 k2 k3 k5 newId)) (hn : h.Ns N mN) (hi : mN "__init__" = some (.ref fI))
    (hfI : h.get? fI = some oI) (hfc : oI.cls = .type "function")
    (hq : ∀ h' e, Heap.MadeExcOf h h' e (.ref C) rest →
      wpAny (model prog w) (A.under (.builtin "type.__call__" ⟨.ref C :: rest, []⟩)) (call (.ref fI) (.ref e :: rest)) (fun r s' => r = .none ∧ Q (.ref e) s') E ⟨h', g, d, t, os⟩) (hrest : rest.length ≤ sizeLine := by size_fits) :
    wpAny (model prog w) A (call (.ref C) rest) Q E ⟨h, g, d, t, os⟩ := by
  have f1 := tc_lookup
  have f2 := tc_bind (.ref C)
  have hT : (⟨h, g, d, t, os⟩ : Shared).TypeIs (.ref C) "type" := ⟨_, hC, rfl⟩
  refine wpAny_call (codeAny_of_tree ?_)
  show wpAny _ _ (callAny (.ref C) _) _ _ _
  repeat (any_goals (first | assumption | with_reducible refine wpAny_loadPart_at hC ?_ | wp_step))
  refine ⟨rfl, ?_⟩
  exact codeAny_call_builtin_at (Code.quiet_builtin _ (by decide +kernel)) entry_typeCall (wpAny_check_type_call_sub hC (exc_type_call (hrest := hrest) F T hC hn hi hfI hfc hq))
end
section
theorem ns_some_in {K : Frag} {h : Heap} {N : Addr} {mg : Str → Option Value} {n : Str} {v : Value} (X : K.In h) (G : h.Ns N mg) (e : nsIn K N n = some (some v)) : mg n = some v := by
  obtain ⟨o, es, ep, ho, hd, _, hf⟩ := G
  unfold nsIn at e
  split at e
  · rename_i c d es' n' sl q
    have := X _ _ q
    rw [ho] at this
    cases this
    cases hd
    split at e
    · rename_i en he
      cases e
      rw [← hf]
      unfold nsFind findBy
      rw [← Array.find?_toList, he]
      rfl
    · split at e <;> cases e
  · cases e
theorem nsOk_of {K : Frag} {N : Addr} {es : Array DictEntry} {n : Nat} {c : Value} {dd : Option Addr} {sl : Array (Option Value)} (e : K.lookup N = some ⟨c, dd, .dict es n, sl⟩) (he : (es.toList.all fun e => match e.key with | .str _ _ => true | _ => false) = true) : nsOkIn K N = true := by
  unfold nsOkIn
  rw [e]
  dsimp only
  rw [← Array.all_toList]
  exact he
variable {w : World} {A : Around} {E : Value → Shared → Prop} {h : Heap} {g : Array GenState} {d : Drawn} {t : Nat} {os : OsState}
theorem tail_refusal (X : (hd.heap_1 w.params).In h) : OwnTail h [.type "Exception", .type "BaseException", .type "object"] [.ref 45, .type "Exception", .type "BaseException", .type "object"] := by
  have e : nsOkIn (hd.heap_1 w.params) 44 = true := nsOk_of (by k_is) (by rfl)
  exact .own (X 45 _ (by k_is)) (.of_isNs (isNs_of_in X e)) (nsMap_none_of_in X e (by k_is)) .base
theorem call_refusal {v : Value} {Q : Value → Shared → Prop} (X : (hd.heap_1 w.params).In h)
    (hq : ∀ h' e, Heap.MadeExcOf h h' e (.ref 65) [v] →
      wpAny (model PG w) (A.under (.builtin "type.__call__" ⟨[.ref 65, v], []⟩)) (call (.ref 62) [.ref e, v]) (fun r s' => r = .none ∧ Q (.ref e) s') E ⟨h', g, d, t, os⟩) :
    wpAny (model PG w) A (call (.ref 65) [v]) Q E ⟨h, g, d, t, os⟩ := by
  have e : nsOkIn (hd.heap_1 w.params) 64 = true := nsOk_of (by k_is) (by rfl)
  have hn := Heap.Ns.of_isNs (isNs_of_in X e)
  refine exc_call PySem.F.excBase_Exception (tail_refusal X) (X 65 _ (by k_is)) hn (ns_some_in X hn (by k_is)) (X 62 _ (by k_is)) rfl hq

open Builtin Builtin.ObjectAttr in
/-- the name "message" is laid on the exception: its dict is made -/
theorem store_msg {e : Addr} {vs : Array Value} {msg : Str} {tk : Tok} {Q : Unit → Shared → Prop} (X : (hd.heap_1 w.params).In h) (he : h.get? e = some ⟨.ref 65, none, .fields vs, #[]⟩)
    (hq : ∀ h' tk', h'.get? e = some ⟨.ref 65, some h.objs.size, .fields vs, #[]⟩ → MsgAt h' h.objs.size msg → (∀ b o, b ≠ e → h.get? b = some o → h'.get? b = some o) → Q () ⟨h', g, d, tk', os⟩) :
    wpAny (model PG w) A (setAttr (.ref e) (S "message") (.str msg tk)) Q E ⟨h, g, d, t, os⟩ := by
  have SF := PySem.F.store_Exception
  have hC := X 65 _ (by k_is)
  have I : InstAt h e ⟨.ref 65, none, .fields vs, #[]⟩ 65 none := ⟨he, rfl, rfl, trivial⟩
  have hm : Looks (model PG w) h (mroOf (.ref 65)) [.ref 65, .ref 45, .type "Exception", .type "BaseException", .type "object"] := ((Looks.ld (part := none) hC).andThen .now).andThen .now
  refine set_plain (s := ⟨h, g, d, t, os⟩) X I (by k_is) ?_
  have sub : Looks (model PG w) h (isInstance (.ref e) (.type "object")) true := I.type.andThen (looks_mroIn X (by k_is))
  refine codeAny_call_builtin SF.slot.plain SF.entry (@check_slot (model PG w) _ _ ⟨h, g, d, t + 1, os⟩ "object.__setattr__" "object" "__setattr__" (.ref e) [.str (S "message") t, .str msg tk] [] _ SF.kind SF.split sub (SF.args (.ref e) (.str (S "message") t) (.str msg tk)) ?_)
  rw [osa_eq, refuse_eq]
  refine wpAny_bind (wpAny_bind (I.type.here (wpAny_bind (hm.here ?_))))
  rw [refuseLoop_ref, refuseLoop_ref, SF.passes]
  refine wpAny_pure (wpAny_bind (I.type.here (wpAny_bind ((looks_findIn X (by k_is)).here (wpAny_bind (Looks.now.here ?_))))))
  dsimp only
  unfold storeInOwnDict
  refine wpAny_bind (wpAny_pure (wpAny_bind ?_))
  unfold ownDictForStores instanceDict
  refine wpAny_bind (wpAny_loadPart he ?_)
  dsimp only
  refine wpAny_bind ((looks_clsIn X (C := 65) (by k_is)).here ?_)
  dsimp only [Bool.not_true]
  rw [if_neg (by decide), if_neg (by simp [typeHasDict])]
  have he₁ : (h.push { cls := .type "dict", data := .dict #[] }).get? e = some ⟨.ref 65, none, .fields vs, #[]⟩ := Heap.get?_push_of_some _ he
  have hes : e ≠ h.objs.size := Nat.ne_of_lt (Heap.lt_size he)
  refine wpAny_bind (wpAny_alloc (wpAny_bind (wpAny_update he₁ ?_)))
  unfold dictMade
  refine wpAny_pure ?_
  dsimp only
  have hgd : ((h.push { cls := .type "dict", data := .dict #[] }).update e fun o => { cls := o.cls, dict := some h.objs.size, data := o.data, slots := o.slots }).get? h.objs.size = some { cls := .type "dict", data := .dict #[] } :=
    (Heap.get?_update_ne _ _ _ _ hes.symm).trans (Heap.get?_push_at rfl rfl)
  have hnd : ((h.push { cls := .type "dict", data := .dict #[] }).update e fun o => { cls := o.cls, dict := some h.objs.size, data := o.data, slots := o.slots }).Ns h.objs.size (fun _ => none) :=
    ⟨_, #[], _, hgd, rfl, fun e he => absurd he (by simp), fun _ => rfl⟩
  unfold storeInDict newKeyGuard
  refine wpAny_bind (wpAny_pure (wpAny_bind (wpAny_nsSet1 (Heap.Ns1.of_empty hnd) fun h' hn' hs => ?_)))
  obtain ⟨oD, esD, epD, hoD, hdD, hcD⟩ := hn'.count (Within.cons (S "message") (.str msg tk) Within.nil)
  refine wpAny_bind (wpAny_lookBehind hoD (by rw [hdD]; exact pastItsLine_dict (Nat.le_trans hcD (by rw [List.length_cons, List.length_nil, sizeLine_eq]; omega))) ?_)
  refine wpAny_pure (hq h' _ ?_ ⟨_, tk, hn'.ns, by simp⟩ fun b o hbe hb => ?_)
  · exact (hs.2 e hes).trans (Heap.get?_update_self _ he₁ rfl)
  · exact (hs.2 b (Nat.ne_of_lt (Heap.lt_size hb))).trans ((Heap.get?_update_ne _ _ _ _ hbe).trans (Heap.get?_push_of_some _ hb))
end

section
variable {w : World} {A : Around} {s : Shared} {pv : Program} {loose : List Str} {mean : ExcName → Option Value} {mg mb : Str → Option Value}
theorem init_refusal {e : Addr} {vs : Array Value} {msg : Str} {tk : Tok} {Q E : Value → Shared → Prop} (X : (hd.heap_1 w.params).In s.heap) (T : Top pv loose mean mg mb s.heap) (he : s.heap.get? e = some ⟨.ref 65, none, .fields vs, #[]⟩)
    (hr : A.depth < recursionLimit)
    (hq : ∀ h₂ dx tk', h₂.get? e = some ⟨.ref 65, some dx, .fields vs, #[]⟩ → MsgAt h₂ dx msg → (∀ b o, b ≠ e → s.heap.get? b = some o → h₂.get? b = some o) → Q .none { s with heap := h₂, toks := tk' }) :
    wpAny (model PG w) A (call (.ref 62) [.ref e, .str msg tk]) Q E s := by
  refine wpAny_call ?_
  refine' code_pure (binds := [(S "self", .ref e), (S "message", .str msg tk)]) ?k1 ?k2 ?k6 ?k7 ?k8 ?k9 ?kB ?_ ?c2 ?c3 ?c4 ?c5
  walk_at "mine enter"
  w_top off
  w_strict k_steps
  rename Fr _ _ _ _ => F
  refine store_msg (X.keeps F.keep) (F.keep _ _ he) fun h' tk' h1 h2 h3 => ?_
  refine wpAny_execs_nil (hq h' _ _ h1 h2 fun b o hbe hb => h3 b o hbe (F.keep _ _ hb))
/-- raise of an object of the class, its dict made -/
theorem raise_made {env : Env} {x : Sem Value} {Q : Flow → Shared → Prop} {E : Value → Shared → Prop} (hh : A.handled = none)
    (h : wpAny (model PG w) A x (fun v s₁ => ∃ e t dx, v = .ref e ∧ (hd.heap_1 w.params).In s₁.heap ∧
      s₁.heap.get? e = some ⟨.ref 65, some dx, .fields #[.ref t, .none, .none, .none, .bool false, .none], #[]⟩ ∧ E (.ref e) s₁) E s) :
    wpAny (model PG w) A (raiseStmt env (some x) none) Q E s := by
  unfold raiseStmt
  refine wpAny_bind (wpAny_mono h (fun v s₁ h₁ => ?_) fun _ _ x => x)
  obtain ⟨e, t, dx, rfl, X, he, hE⟩ := h₁
  obtain ⟨hp, g, d, tk, os⟩ := s₁
  have hC := X 65 _ (by k_is)
  have hcB : ([.ref 65, .ref 45, .type "Exception", .type "BaseException", .type "object"] : List Value).contains (.type "BaseException") = true := by decide
  repeat (first | with_reducible refine wpAny_loadPart_at he ?_ | with_reducible refine wpAny_loadPart_at hC ?_ | (with_reducible refine wpAny_isSubtype_exc hC ?_; rw [hcB]) | wp_step)
  exact wpAny_raiseNew_none hh hE
end

section
variable {w : World} {s : Shared} {pv : Program} {loose : List Str} {mean : ExcName → Option Value} {mg mb : Str → Option Value}
theorem ff_push {h₀ h : Heap} {L a : Addr} {m : Str → Option Value} {outer : List Env} {name : Str} {scope : Scope} {cd : Value} (F : Fr h₀ L h m) (hl : h₀.FunFrames {} outer) (hk : scope.kind = .function) :
    h.FunFrames {} (envOf name scope L a cd :: outer) := by
  obtain ⟨o, es, ep, ho, hd, _⟩ := F.ns
  refine ⟨by show scope.kind ≠ .module; rw [hk]; decide, ⟨L, o, rfl, rfl, ho, fun vs q => by rw [hd] at q; cases q⟩, hl.of_keeps fun b o' hb _ => ⟨o', F.keep _ _ hb, rfl⟩⟩
theorem ff_keep {h₀ h : Heap} {outer : List Env} (k : h₀.StaysIn h) (hl : h₀.FunFrames {} outer) : h.FunFrames {} outer := hl.of_keeps fun b o' hb _ => ⟨o', k _ _ hb, rfl⟩
theorem code_raise {prog : Program} {dp un : Nat} {fr : List Env} {gd : Option (List Code)} {K : Frag} {R : Result → Shared → Prop} {name qual : Str} {params : Arguments} {body : List Stmt} {scope : Scope} {dV kV doc pm cdv ct oc : Value} {an od : Option Addr} {osl : Array (Option Value)} {f : Addr} {args : Args} {binds : List (Str × Value)} {msg : Str} {P : Prop}
    (X : K.In s.heap) (hlim : s.heap.NoLimit)
    (ho : K.lookup f = some ⟨oc, od, .func (fnOf name qual params body scope dV kV doc pm an cdv ct), osl⟩) (hcd : codeIn K cdv qual = true) (hroom : dp < recursionLimit)
    (hbind : BindsTo s (fnOf name qual params body scope dV kV doc pm an cdv ct) args binds) (hloc : ∀ y ∈ binds, scope.names.lookup y.1 = some .local)
    (h : ∀ L h₁, L = s.heap.objs.size → Fr s.heap L h₁ (fun y => binds.reverse.lookup y) → 
      wpAny (model prog w) ((ar dp (some fr) gd un).deeper (envOf qual scope L f cdv)) (execs body (envOf qual scope L f cdv))
        (fun fl s' => R (.ok (.ret (match fl with | .ret v => v | _ => .none))) s')
        (RzE P s s.heap (envOf qual scope L f cdv :: fr) msg)
        { s with heap := h₁, toks := s.toks + binds.length })
    (hE : P → ∀ e h' tk, Rz s.heap fr msg e h' → R (.error (.ref e)) { s with heap := h', toks := tk })
    (hco : scope.isCoroutine = false) (hgen : scope.isGenerator = false) (hk : scope.kind = .function)
    (hcell : ∀ x ∈ scope.names, x.2 ≠ .cell) : codeAny (model prog w) (ar dp (some fr) gd un) (.call (.ref f) args) R s := by
  refine codeAny_call_def (fd := fnOf name qual params body scope dV kV doc pm an cdv ct) (body := body) (binds := binds) hroom (X _ _ ho) rfl hlim (codeRec_of X hcd) rfl hbind hcell hloc (fun h₁ hns hk₁ => ?_) hco hgen hk
  refine wpAny_mono (h s.heap.objs.size h₁ rfl ⟨hns, hk₁, Nat.le_refl _⟩) (fun _ _ x => x) ?_
  rintro ev s' ⟨hP, e, h', tk, rfl, rfl, x⟩
  exact rz_leave (s := { s with heap := h', toks := tk }) rfl rfl (Heap.get?_none_of_le (Nat.le_refl _)) x fun h'' x' => hE hP e h'' tk x'
theorem refusal_made {A : Around} {l : List Env} {msg : Str} {tk : Tok} {Q E : Value → Shared → Prop} (hA : A.frames = some l) (X : (hd.heap_1 w.params).In s.heap) (T : Top pv loose mean mg mb s.heap) (hl : s.heap.FunFrames {} l) (hr : A.depth + 1 < recursionLimit)
    (hq : ∀ e t dx h' tk', (hd.heap_1 w.params).In h' → h'.get? e = some ⟨.ref 65, some dx, .fields #[.ref t, .none, .none, .none, .bool false, .none], #[]⟩ → Rz s.heap l msg e h' → Q (.ref e) { s with heap := h', toks := tk' }) :
    wpAny (model PG w) A (call (.ref 65) [.str msg tk]) Q E s := by
  obtain ⟨hp, g, d, tks, os⟩ := s
  refine call_refusal X fun h₁ e hm => ?_
  obtain ⟨t, he, htn, ht⟩ := hm.there
  refine init_refusal (s := ⟨h₁, g, d, tks, os⟩) (X.keeps hm.keeps) (T.keeps hm.keeps) he ?_ fun h₂ dx tk' h1 h2 h3 => ⟨rfl, ?_⟩
  · show A.depth + _ < _
    exact hr
  have kp : ∀ b o, hp.get? b = some o → h₂.get? b = some o := fun b o hb => h3 b o (fun z => by rw [z, hm.new] at hb; cases hb) (hm.keeps _ _ hb)
  exact hq e t dx h₂ tk' (X.keeps kp) h1 ⟨dx, #[], _, ⟨fun b o hb _ => kp b o hb, fun b o hb => ⟨o.slots, kp b o hb⟩, ff_keep kp hl, hm.new, h1, h2, by simp⟩, .inl rfl⟩
theorem exec_raise_r {A : Around} {env : Env} {x : Expr} {pos : Pos} {Q : Flow → Shared → Prop} {E : Value → Shared → Prop} (hh : A.handled = none)
    (h : wpAny (model PG w) A (eval x env) (fun v s₁ => ∃ e t dx, v = .ref e ∧ (hd.heap_1 w.params).In s₁.heap ∧
      s₁.heap.get? e = some ⟨.ref 65, some dx, .fields #[.ref t, .none, .none, .none, .bool false, .none], #[]⟩ ∧ E (.ref e) s₁) E s) :
    wpAny (model PG w) A (exec (.Raise (some x) none pos) env) Q E s := by
  rw [arm_exec_Raise]
  exact wpAny_bind (wpAny_standAt (raise_made hh (wpAny_bind (wpAny_mono h (fun v s₁ h₁ => wpAny_bind (wpAny_standAt (wpAny_pure h₁))) fun _ _ x => x))))
end

theorem said_11 : True := by
  (k_with "mine enterR" => ((case k1 => assumption); (case k2 => exact PyProof.Rows.Top.nolimit (by assumption)); (case k6 => k_is); (case k7 => k_is); (case k8 => walk_at "mine room"); (case k9 => exact BindsTo.of_eq rfl); (case c5 => decide); (case kB => exact locs rfl); (case c2 => exact rfl); (case c3 => exact rfl); (case c4 => exact rfl)))
  (k_with "exec Raise some none" => (k_here; (refine' exec_raise_r ?h_r27 ?_); (case h_r27 => with_unfolding_all rfl)))
  (k_with "call ref" => (k_here; (with_reducible show wpAny _ _ (call (Value.ref 65) [_]) _ _ _); (refine' refusal_made ?hA_r28 ?X_r28 ?T_r28 ?hl_r28 ?r_r28 ?_); (case hA_r28 => with_unfolding_all rfl); (case X_r28 => exact mnIn (by assumption) (by assumption)); (case T_r28 => exact mnTop (by assumption) (by assumption)); (case hl_r28 => refine ff_push (by assumption) (by assumption) ?_; rfl); (case r_r28 => walk_at "mine room"); intro e9 t9 dx9 h9 tk9 X9 g9 rz9; walk_at "mine raised"))
  (k_with "mine raised" => ((rename Fr _ _ _ _ => F9); (rename Rz _ _ _ _ _ => rz9); (rename Frag.In _ _ => X9); refine ⟨_, _, _, rfl, X9, by assumption, ?_, _, _, _, rfl, rfl, rz9.mono F9.keep⟩; walk_at "mine why"))
  trivial
def rmsg : PySem.Str := S "result is not exact"
section
variable {w : World} {dp un : Nat} {fr : List Env} {gd : Option (List Code)} {s : Shared} {Q E : Value → Shared → Prop} {pv : Program} {loose : List Str} {mean : ExcName → Option Value} {mg mb : Str → Option Value}
theorem above_turn {p bp u c : Int} (h0 : 0 ≤ c) (hu : u = bp ^ c.toNat) (hb : 1 < bp) (hp : p < 1000000) (hlt : u < p) (hk : ∀ k : Nat, k < c.toNat → bp ^ k < p) :
    0 ≤ c + 1 ∧ c + 1 ≤ 20 ∧ u * bp = bp ^ (c + 1).toNat ∧ ∀ k : Nat, k < (c + 1).toNat → bp ^ k < p := by
  have e : (c + 1).toNat = c.toNat + 1 := by (first | lia | omega)
  have h2 : ∀ n : Nat, (2 : Int) ^ n ≤ bp ^ n := fun n => by
    induction n with
    | zero => simp
    | succ n ih =>
      rw [Int.pow_succ, Int.pow_succ]
      have : (0 : Int) < 2 ^ n := Int.pow_pos (by decide)
      exact Int.mul_le_mul ih (by (first | lia | omega)) (by decide) (by (first | lia | omega))
  refine ⟨by (first | lia | omega), ?_, by rw [e, Int.pow_succ, hu], fun k hk' => ?_⟩
  · have h3 := h2 c.toNat
    by_cases hc : c.toNat < 20
    · (first | lia | omega)
    · have h4 : (2 : Int) ^ 20 ≤ 2 ^ c.toNat := by
        have := Nat.pow_le_pow_right (n := 2) (by decide) (Nat.le_of_not_lt hc)
        exact_mod_cast this
      have h5 : (2 : Int) ^ 20 = 1048576 := by decide
      (first | lia | omega)
  · rw [e] at hk'
    by_cases hc : k < c.toNat
    · exact hk k hc
    · have : k = c.toNat := by (first | lia | omega)
      rw [this, ← hu]; exact hlt
theorem pow_mono_i {b : Int} (hb : 1 ≤ b) : ∀ {m n : Nat}, m ≤ n → b ^ m ≤ b ^ n := by
  intro m n h
  obtain ⟨k, rfl⟩ := Nat.le.dest h
  rw [Int.pow_add]
  have h1 : (0 : Int) < b ^ m := Int.pow_pos (by (first | lia | omega))
  have h2 : (0 : Int) < b ^ k := Int.pow_pos (by (first | lia | omega))
  have h3 : b ^ m * 1 ≤ b ^ m * b ^ k := Int.mul_le_mul_of_nonneg_left (by (first | lia | omega)) (by (first | lia | omega))
  (first | lia | omega)
theorem above_out {p q bp bq u c : Int} (h0 : 0 ≤ c) (hu : u = bp ^ c.toNat) (hb : 1 < bp) (hge : ¬ u < p) (hk : ∀ k : Nat, k < c.toNat → bp ^ k < p) (hn : u ≠ p ∨ bq ^ c.toNat ≠ q) : ∀ n : Nat, ¬ (p = bp ^ n ∧ q = bq ^ n) := by
  rintro n ⟨rfl, rfl⟩
  have mono : ∀ a b : Nat, a < b → bp ^ a < bp ^ b := fun a b hab => by
    have h1 : bp ^ (a + 1) ≤ bp ^ b := pow_mono_i (by (first | lia | omega)) hab
    have h2 : bp ^ a < bp ^ (a + 1) := by
      rw [Int.pow_succ]
      have h3 : (0 : Int) < bp ^ a := Int.pow_pos (by (first | lia | omega))
      have h4 : bp ^ a * 1 < bp ^ a * bp := Int.mul_lt_mul_of_pos_left hb h3
      (first | lia | omega)
    (first | lia | omega)
  rcases Nat.lt_trichotomy n c.toNat with h | h | h
  · exact absurd (hk n h) (by (first | lia | omega))
  · subst hu; rw [h] at hn; rcases hn with hn | hn <;> exact hn rfl
  · have := mono _ _ h; rw [← hu] at this; exact hge this
theorem said_12 : True := by
  (k_with "mine why" => first | exact above_out (by assumption) (by assumption) (by omega) (by assumption) (by assumption) (.inl (by assumption)) | exact above_out (by assumption) (by assumption) (by omega) (by assumption) (by assumption) (.inr (by assumption)))
  trivial
theorem c_log_above {v v₂ : Value} {p q bp bq : Int} 
   (X : (hd.heap_1 w.params).In s.heap) (T : Top pv loose mean mg mb s.heap) (hl : s.heap.FunFrames {} fr) (hv : DAt s.heap v (some (p, q))) (hv₂ : DAt s.heap v₂ (some (bp, bq))) (hr : dp + 4 < recursionLimit) (hu : un + 110 < cLine)
   (hp : 0 < p ∧ p < 1000000) (hq : 0 < q ∧ q < 1000000) (hbp : 1 < bp ∧ bp < 1000000) (hbq : 0 < bq ∧ bq < 1000000)
   (k : ∀ n : Int, (∃ c : Nat, n = c ∧ p = bp ^ c ∧ q = bq ^ c) → RetI s Q n)
   (kE : (∀ c : Nat, ¬ (p = bp ^ c ∧ q = bq ^ c)) → ∀ e h' tk, Rz s.heap fr rmsg e h' → E (.ref e) { s with heap := h', toks := tk }) :
   wpAny (model PG w) (ar dp (some fr) gd un) (call (.ref 401) [v, v₂]) Q E s := by
  have am9 : AimHere := trivial
  refine wpAny_call ?_
  refine' code_raise (binds := [(S "x", v), (S "base", v₂)]) (msg := rmsg) ?k1 ?k2 ?k6 ?k7 ?k8 ?k9 ?kB ?_ ?kE ?c2 ?c3 ?c4 ?c5
  walk_at "mine enterR"
  case kE => exact kE
  intro L h₁ hL F
  have N := mnNil F
  obtain ⟨a, t1, t2, rfl, ha⟩ := hv
  obtain ⟨b, t3, t4, rfl, hb⟩ := hv₂
  dsimp only at ha hb ⊢
  (k_with "state" => exact above_turn (by assumption) (by assumption) (by omega) (by omega) (by assumption) (by assumption))
  (k_with "exec While BoolOp cons nil" => (refine wpAny_noRaise ?_; k_while (fun _ u c => 0 ≤ c ∧ c ≤ 20 ∧ u = bp ^ c.toNat ∧ ∀ k : Nat, k < c.toNat → bp ^ k < p) (fun _ _ c => (21 - c).toNat) "upper" "count"))
  try k_fold
  w_top off
  w_strict (k_steps; (all_goals (try k_data)))
  all_goals (try dsimp only)
  exact k _ ⟨_, (Int.toNat_of_nonneg (by assumption)).symm, (Eq.symm (by assumption)).trans (by assumption), Eq.symm (by assumption)⟩ _ _ _ (mnKeep (by assumption))
end

section
local macro_rules | `(tactic| k_lt $h:ident) => `(tactic| clear $h)
variable {w : World} {dp un : Nat} {fr : List Env} {gd : Option (List Code)} {s : Shared} {Q E : Value → Shared → Prop} {pv : Program} {loose : List Str} {mean : ExcName → Option Value} {mg mb : Str → Option Value}
def powD (b : Int × Int) (n : Int) : Int × Int := if 0 ≤ n then (b.1 ^ n.toNat, b.2 ^ n.toNat) else (b.2 ^ (-n).toNat, b.1 ^ (-n).toNat)
theorem powD_nat (b : Int × Int) (c : Nat) : powD b c = (b.1 ^ c, b.2 ^ c) := by simp [powD]
theorem powD_neg (b : Int × Int) (n : Int) : powD (b.2, b.1) (0 - n) = powD b n := by
  unfold powD
  by_cases h1 : 0 ≤ n <;> by_cases h2 : 0 ≤ 0 - n
  · have : n = 0 := by (first | lia | omega)
    subst this; simp
  · rw [if_neg h2, if_pos h1]; simp
  · rw [if_pos h2, if_neg h1]; simp
  · (first | lia | omega)
def LogSpec (x b : Int × Int) (d : D) : Prop :=
  (x = (1, 0) ∧ d = some (if b.2 < b.1 then 1 else -1, 0)) ∨ (x = (0, 1) ∧ d = some (if b.2 < b.1 then -1 else 1, 0)) ∨ (x = (1, 1) ∧ d = some (0, 1)) ∨
  (0 < x.1 ∧ 0 < x.2 ∧ x ≠ (1, 1) ∧ ∃ n : Int, d = some (n, 1) ∧ x = powD b n)
def LogNo (x b : Int × Int) : Prop := 0 < x.1 ∧ 0 < x.2 ∧ x ≠ (1, 1) ∧ ∀ n : Int, x ≠ powD b n
theorem pow_le_pow_i {a b : Int} (h0 : 0 < a) (h : a ≤ b) : ∀ n : Nat, a ^ n ≤ b ^ n := fun n => by
  induction n with
  | zero => simp
  | succ n ih =>
    rw [Int.pow_succ, Int.pow_succ]
    have : (0 : Int) < a ^ n := Int.pow_pos h0
    exact Int.mul_le_mul ih h (by (first | lia | omega)) (by (first | lia | omega))
theorem logno_lt {p q bp bq : Int} (hw : ∀ c : Nat, ¬ (q = bp ^ c ∧ p = bq ^ c)) (hp : 0 < p) (hq : 0 < q) (hne : p ≠ q) (hb : bq < bp) (hbq : 0 < bq ∧ bq < 1000000)
    (hc : (if q = 0 then if p = 0 then (0 : Int) else if p < 0 then -1 else 1 else if p = q then 0 else if p < q then -1 else 1) < 0) : LogNo (p, q) (bp, bq) := by
  have hlt : p < q := by
    rw [if_neg (by (first | lia | omega)), if_neg hne] at hc
    by_cases h : p < q
    · exact h
    · rw [if_neg h] at hc; (first | lia | omega)
  refine ⟨hp, hq, fun e => hne ((Prod.mk.inj e).1.trans (Prod.mk.inj e).2.symm), fun n e => ?_⟩
  unfold powD at e
  split at e
  · have h1 := pow_le_pow_i hbq.1 (Int.le_of_lt hb) n.toNat
    simp only [Prod.mk.injEq] at e; (first | lia | omega)
  · simp only [Prod.mk.injEq] at e; exact hw _ ⟨e.2, e.1⟩
theorem logno_gt {p q bp bq : Int} (hw : ∀ c : Nat, ¬ (p = bp ^ c ∧ q = bq ^ c)) (hp : 0 < p) (hq : 0 < q) (hne : p ≠ q) (hb : bq < bp) (hbq : 0 < bq ∧ bq < 1000000)
    (hc : ¬ (if q = 0 then if p = 0 then (0 : Int) else if p < 0 then -1 else 1 else if p = q then 0 else if p < q then -1 else 1) < 0) : LogNo (p, q) (bp, bq) := by
  have hlt : ¬ p < q := by
    intro h
    rw [if_neg (by (first | lia | omega)), if_neg hne, if_pos h] at hc; (first | lia | omega)
  refine ⟨hp, hq, fun e => hne ((Prod.mk.inj e).1.trans (Prod.mk.inj e).2.symm), fun n e => ?_⟩
  unfold powD at e
  split at e
  · simp only [Prod.mk.injEq] at e; exact hw _ ⟨e.1, e.2⟩
  · have h1 := pow_le_pow_i hbq.1 (Int.le_of_lt hb) (-n).toNat
    simp only [Prod.mk.injEq] at e; (first | lia | omega)
theorem logsp_lt {p q bp bq n : Int} (hn : ∃ c : Nat, n = c ∧ q = bp ^ c ∧ p = bq ^ c) (hp : 0 < p) (hq : 0 < q) (hne : p ≠ q) : LogSpec (p, q) (bp, bq) (some (0 - n, 1)) := by
  obtain ⟨c, rfl, rfl, rfl⟩ := hn
  refine .inr (.inr (.inr ⟨hp, hq, fun e => hne ((Prod.mk.inj e).1.trans (Prod.mk.inj e).2.symm), _, rfl, ?_⟩))
  rw [powD_neg (bq, bp), powD_nat]
theorem logsp_gt {p q bp bq n : Int} (hn : ∃ c : Nat, n = c ∧ p = bp ^ c ∧ q = bq ^ c) (hp : 0 < p) (hq : 0 < q) (hne : p ≠ q) : LogSpec (p, q) (bp, bq) (some (n, 1)) := by
  obtain ⟨c, rfl, rfl, rfl⟩ := hn
  refine .inr (.inr (.inr ⟨hp, hq, fun e => hne ((Prod.mk.inj e).1.trans (Prod.mk.inj e).2.symm), _, rfl, ?_⟩))
  rw [powD_nat]
theorem logsp_item {p q bp bq : Int} (hb : bq < bp) (h : (p = 1 ∧ q = 0) ∨ (p = 0 ∧ q = 1) ∨ (p = 1 ∧ q = 1)) : LogSpec (p, q) (bp, bq) (logItem (p, q)) := by
  rcases h with ⟨rfl, rfl⟩ | ⟨rfl, rfl⟩ | ⟨rfl, rfl⟩
  · exact .inl ⟨rfl, by simp [logItem, hb]⟩
  · exact .inr (.inl ⟨rfl, by simp [logItem, hb]⟩)
  · exact .inr (.inr (.inl ⟨rfl, by simp [logItem]⟩))
theorem said_13 : True := by
  (k_with "mine why" => first | exact logno_lt (by assumption) (by assumption) (by assumption) (by assumption) (by assumption) (by assumption) (by assumption) | exact logno_gt (by assumption) (by assumption) (by assumption) (by assumption) (by assumption) (by assumption) (by assumption))
  (k_with "mine num" => (rw [Int.gcd_comm]; assumption))
  (k_with "call ref" => (k_here; (with_reducible show wpAny _ _ (call (Value.ref 394) [_]) _ _ _); (refine' c_log_item ?X ?T ?v ?r ?u ?p1_r33 ?_); walk_at "mine args"; (case p1_r33 => walk_at "mine num"); intro r' h' tk' ks dr; walk_at "mine after"))
  (k_with "call ref" => (k_here; (with_reducible show wpAny _ _ (call (Value.ref 401) [_, _]) _ _ _); (refine' c_log_above ?X ?T ?hl_r34 ?v ?v2 ?r ?u ?p1_r34 ?p2_r34 ?p3_r34 ?p4_r34 ?_ ?kE_r34); walk_at "mine args"; (case hl_r34 => refine ff_push (by assumption) (by assumption) ?_; rfl); (case p1_r34 => walk_at "mine num"); (case p2_r34 => walk_at "mine num"); (case p3_r34 => walk_at "mine num"); (case p4_r34 => walk_at "mine num"); (case kE_r34 => (intro why e9 h9 tk9 rz9; walk_at "mine flown")); intro n' hn' h' tk' t' ks; walk_at "mine after"))
  (k_with "mine flown" => ((rename Fr _ _ _ _ => F9); (rename Rz _ _ _ _ _ => rz9); refine ⟨?_, _, _, _, rfl, rfl, rz9.mono F9.keep⟩; walk_at "mine why"))
  trivial
/-- a place where the walk halts by itself -/
def Halt (P : Prop) : Prop := P
theorem of_halt {P : Prop} (h : Halt P) : P := h
def HaltHere : Prop := True
theorem said_14 : True := by
  (k_with "exec If" => (k_here; (rename HaltHere => hh9); (with_reducible show wpAny _ _ (exec (Stmt.If _ _ _ { line := 311, col := _, endLine := _, endCol := _ }) _) _ _ _); refine of_halt ?_))
  trivial
theorem c_log_to1 {v v₂ : Value} {p q bp bq : Int} 
   (X : (hd.heap_1 w.params).In s.heap) (T : Top pv loose mean mg mb s.heap) (hl : s.heap.FunFrames {} fr) (hv : DAt s.heap v (some (p, q))) (hv₂ : DAt s.heap v₂ (some (bp, bq))) (hr : dp + 6 < recursionLimit) (hu : un + 150 < cLine)
   (hx : (p = 1 ∧ q = 0) ∨ (p = 0 ∧ q = 1) ∨ (p = 1 ∧ q = 1) ∨ (0 < p ∧ p < 1000000 ∧ 0 < q ∧ q < 1000000 ∧ Int.gcd p q = 1 ∧ p ≠ q)) (hbp : 1 < bp ∧ bp < 1000000) (hbq : 0 < bq ∧ bq < 1000000) (hb1 : bq < bp) (hg : Int.gcd bp bq = 1)
   (k : ∀ d : D, LogSpec (p, q) (bp, bq) d → RetD s Q d)
   (kE : LogNo (p, q) (bp, bq) → ∀ e h' tk, Rz s.heap fr rmsg e h' → E (.ref e) { s with heap := h', toks := tk }) :
   wpAny (model PG w) (ar dp (some fr) gd un) (call (.ref 408) [v, v₂]) Q E s := by
  have am9 : AimHere := trivial
  refine wpAny_call ?_
  refine' code_raise (binds := [(S "x", v), (S "base", v₂)]) (msg := rmsg) ?k1 ?k2 ?k6 ?k7 ?k8 ?k9 ?kB ?_ ?kE ?c2 ?c3 ?c4 ?c5
  walk_at "mine enterR"
  case kE => exact kE
  intro L h₁ hL F
  have N := mnNil F
  obtain ⟨a, t1, t2, rfl, ha⟩ := hv
  obtain ⟨b, t3, t4, rfl, hb⟩ := hv₂
  dsimp only at ha hb ⊢
  have hh9 : HaltHere := trivial
  w_top off
  w_strict (k_steps; (all_goals (try k_data)))
  all_goals (rename HaltHere => hh8; clear hh8)
  all_goals unfold Halt
  rcases hx with ⟨rfl, rfl⟩ | ⟨rfl, rfl⟩ | ⟨rfl, rfl⟩ | ⟨hp0, hp1, hq0, hq1, hgx, hne⟩
  all_goals w_strict (k_steps; (all_goals (try k_data)))
  · exact k _ (logsp_item hb1 (.inl ⟨rfl, rfl⟩)) _ _ _ (mnKeep (by assumption)) (by assumption)
  · exact k _ (logsp_item hb1 (.inr (.inl ⟨rfl, rfl⟩))) _ _ _ (mnKeep (by assumption)) (by assumption)
  · exact k _ (logsp_item hb1 (.inr (.inr ⟨rfl, rfl⟩))) _ _ _ (mnKeep (by assumption)) (by assumption)
  · exact k _ (logsp_lt (by assumption) hp0 hq0 hne) _ _ _ (mnKeep (by assumption)) (by assumption)
  · exact k _ (logsp_gt (by assumption) hp0 hq0 hne) _ _ _ (mnKeep (by assumption)) (by assumption)
end

section
local macro_rules | `(tactic| k_lt $h:ident) => `(tactic| clear $h)
variable {w : World} {dp un : Nat} {fr : List Env} {gd : Option (List Code)} {s : Shared} {Q E : Value → Shared → Prop} {pv : Program} {loose : List Str} {mean : ExcName → Option Value} {mg mb : Str → Option Value}
theorem LogSpec.isSome {x b : Int × Int} {d : D} (h : LogSpec x b d) : ∃ p q, d = some (p, q) := by
  rcases h with ⟨_, h⟩ | ⟨_, h⟩ | ⟨_, h⟩ | ⟨_, _, _, n, h, _⟩ <;> exact ⟨_, _, h⟩
theorem LogSpec.flip {x : Int × Int} {p q y z : Int} (h : LogSpec x (q, p) (some (y, z))) (hpq : p < q) : LogSpec x (p, q) (some (0 - y, z)) := by
  unfold LogSpec at *
  simp only [hpq, if_true, if_neg (Int.not_lt.mpr (Int.le_of_lt hpq)), Option.some.injEq, Prod.mk.injEq] at *
  rcases h with ⟨h, rfl, rfl⟩ | ⟨h, rfl, rfl⟩ | ⟨h, rfl, rfl⟩ | ⟨h1, h2, h3, n, ⟨rfl, rfl⟩, h4⟩
  · exact .inl ⟨h, by (first | lia | omega), rfl⟩
  · exact .inr (.inl ⟨h, by (first | lia | omega), rfl⟩)
  · exact .inr (.inr (.inl ⟨h, by (first | lia | omega), rfl⟩))
  · exact .inr (.inr (.inr ⟨h1, h2, h3, _, ⟨rfl, rfl⟩, by rw [h4, powD_neg (q, p)]⟩))
theorem LogNo.flip {x : Int × Int} {p q : Int} (h : LogNo x (q, p)) : LogNo x (p, q) := ⟨h.1, h.2.1, h.2.2.1, fun n e => h.2.2.2 (0 - n) (by rw [e, powD_neg (p, q)])⟩
theorem said_15 : True := by
  (k_with "mine why" => exact LogNo.flip (by assumption))
  (k_with "mine num" => first | (rw [Int.gcd_comm]; assumption) | (first | (left; exact ⟨rfl, rfl⟩) | (right; left; exact ⟨rfl, rfl⟩) | (right; right; left; exact ⟨rfl, rfl⟩) | (right; right; right; assumption)))
  (k_with "call ref" => (k_here; (with_reducible show wpAny _ _ (call (Value.ref 408) [_, _]) _ _ _); (refine' c_log_to1 ?X ?T ?hl_r39 ?v ?v2 ?r ?u ?p1_r39 ?p2_r39 ?p3_r39 ?p4_r39 ?p5_r39 ?_ ?kE_r39); walk_at "mine args"; (case hl_r39 => refine ff_push (by assumption) (by assumption) ?_; rfl); (case p1_r39 => assumption); (case p2_r39 => walk_at "mine num"); (case p3_r39 => walk_at "mine num"); (case p4_r39 => walk_at "mine num"); (case p5_r39 => walk_at "mine num"); (case kE_r39 => (intro why e9 h9 tk9 rz9; walk_at "mine flown")); intro d9 hd9; (obtain ⟨y1, y2, hy9⟩ := LogSpec.isSome hd9); (subst hy9); intro r' h' tk' ks dr; walk_at "mine after"))
  trivial
theorem c_log_to {v v₂ : Value} {p q bp bq : Int} 
   (X : (hd.heap_1 w.params).In s.heap) (T : Top pv loose mean mg mb s.heap) (hl : s.heap.FunFrames {} fr) (hv : DAt s.heap v (some (p, q))) (hv₂ : DAt s.heap v₂ (some (bp, bq))) (hr : dp + 8 < recursionLimit) (hu : un + 250 < cLine)
   (hx : (p = 1 ∧ q = 0) ∨ (p = 0 ∧ q = 1) ∨ (p = 1 ∧ q = 1) ∨ (0 < p ∧ p < 1000000 ∧ 0 < q ∧ q < 1000000 ∧ Int.gcd p q = 1 ∧ p ≠ q)) (hbp : 0 < bp ∧ bp < 1000000) (hbq : 0 < bq ∧ bq < 1000000) (hb1 : bp ≠ bq) (hg : Int.gcd bp bq = 1)
   (k : ∀ d : D, LogSpec (p, q) (bp, bq) d → RetD s Q d)
   (kE : LogNo (p, q) (bp, bq) → ∀ e h' tk, Rz s.heap fr rmsg e h' → E (.ref e) { s with heap := h', toks := tk }) :
   wpAny (model PG w) (ar dp (some fr) gd un) (call (.ref 408) [v, v₂]) Q E s := by
  have am9 : AimHere := trivial
  by_cases hlt : bq < bp
  · exact c_log_to1 X T hl hv hv₂ (by (first | lia | omega)) (by (first | lia | omega)) hx ⟨by (first | lia | omega), hbp.2⟩ hbq hlt hg k kE
  have hlt : bp < bq := by (first | lia | omega)
  refine wpAny_call ?_
  refine' code_raise (binds := [(S "x", v), (S "base", v₂)]) (msg := rmsg) ?k1 ?k2 ?k6 ?k7 ?k8 ?k9 ?kB ?_ ?kE ?c2 ?c3 ?c4 ?c5
  walk_at "mine enterR"
  case kE => exact kE
  intro L h₁ hL F
  have N := mnNil F
  obtain ⟨a, t1, t2, rfl, ha⟩ := hv
  obtain ⟨b, t3, t4, rfl, hb⟩ := hv₂
  dsimp only at ha hb ⊢
  w_top off
  w_strict (k_steps; (all_goals (try k_data)))
  exact k _ (LogSpec.flip (by assumption) hlt) _ _ _ (mnKeep (by assumption)) (by assumption)
end

/-- what both sides answer: none is a refusal -/
def Spec2 (p q bp bq : Int) (r : Option D) : Prop :=
  if (p = 0 ∧ q = 0) ∨ (bp = 0 ∧ bq = 0) then r = some (some (0, 0))
  else if p < 0 ∨ bp < 0 then r = some (some (0, 0))
  else if bp = 1 ∧ bq = 1 then (if p = q then r = some (some (0, 0)) else if q = 0 ∨ (p ≠ 0 ∧ q < p) then r = some (some (1, 0)) else r = some (some (-1, 0)))
  else if bp = 0 ∨ bq = 0 then (if p = 0 ∨ q = 0 then r = some (some (0, 0)) else r = some (some (0, 1)))
  else if q = 0 then r = some (some (if bq < bp then 1 else -1, 0))
  else if p = 0 then r = some (some (if bq < bp then -1 else 1, 0))
  else if p = q then r = some (some (0, 1))
  else (∃ n : Int, r = some (some (n, 1)) ∧ (p, q) = powD (bp, bq) n) ∨ (r = none ∧ ∀ n : Int, (p, q) ≠ powD (bp, bq) n)
def Spec (x b : D) (r : Option D) : Prop := match x, b with
  | none, _ => r = some none
  | _, none => r = some none
  | some (p, q), some (bp, bq) => Spec2 p q bp bq r
def Ent2 (p q : Int) : Prop := (p = 0 ∧ q = 0) ∨ (p = 1 ∧ q = 0) ∨ (p = 0 ∧ q = 1) ∨ (p = -3 ∧ q = 2) ∨ (p = -1 ∧ q = 0) ∨ (0 < p ∧ p < 65536 ∧ 0 < q ∧ q < 65536 ∧ Int.gcd p q = 1)
def Ent (d : D) : Prop := match d with
  | none => True
  | some (p, q) => Ent2 p q

theorem gcd_same {p : Int} (h0 : 0 < p) (h : Int.gcd p p = 1) : p = 1 := by
  rw [Int.gcd_self] at h; (first | lia | omega)
theorem spec_of_log {p q bp bq : Int} {d : D} (hx : (p = 1 ∧ q = 0) ∨ (p = 0 ∧ q = 1) ∨ (p = 1 ∧ q = 1) ∨ (0 < p ∧ p < 1000000 ∧ 0 < q ∧ q < 1000000 ∧ Int.gcd p q = 1 ∧ p ≠ q)) (hbp : 0 < bp) (hbq : 0 < bq) (hb : bp ≠ bq) (h : LogSpec (p, q) (bp, bq) d) : Spec2 p q bp bq (some d) := by
  unfold LogSpec at h
  unfold Spec2
  simp only [ne_eq, Prod.mk.injEq, Option.some.injEq] at *
  rcases h with ⟨⟨rfl, rfl⟩, rfl⟩ | ⟨⟨rfl, rfl⟩, rfl⟩ | ⟨⟨rfl, rfl⟩, rfl⟩ | ⟨h1, h2, h3, n, rfl, h4⟩
  · rw [if_neg (by (first | lia | omega)), if_neg (by (first | lia | omega)), if_neg (by (first | lia | omega)), if_neg (by (first | lia | omega)), if_pos rfl]
  · rw [if_neg (by (first | lia | omega)), if_neg (by (first | lia | omega)), if_neg (by (first | lia | omega)), if_neg (by (first | lia | omega)), if_neg (by (first | lia | omega)), if_pos rfl]
  · rw [if_neg (by (first | lia | omega)), if_neg (by (first | lia | omega)), if_neg (by (first | lia | omega)), if_neg (by (first | lia | omega)), if_neg (by (first | lia | omega)), if_neg (by (first | lia | omega)), if_pos rfl]
  · rw [if_neg (by (first | lia | omega)), if_neg (by (first | lia | omega)), if_neg (by (first | lia | omega)), if_neg (by (first | lia | omega)), if_neg (by (first | lia | omega)), if_neg (by (first | lia | omega)), if_neg (by (first | lia | omega))]
    exact .inl ⟨n, rfl, h4⟩
theorem spec_of_no {p q bp bq : Int} (hx : (p = 1 ∧ q = 0) ∨ (p = 0 ∧ q = 1) ∨ (p = 1 ∧ q = 1) ∨ (0 < p ∧ p < 1000000 ∧ 0 < q ∧ q < 1000000 ∧ Int.gcd p q = 1 ∧ p ≠ q)) (hbp : 0 < bp) (hbq : 0 < bq) (hb : bp ≠ bq) (h : LogNo (p, q) (bp, bq)) : Spec2 p q bp bq none := by
  obtain ⟨h1, h2, h3, h4⟩ := h
  unfold Spec2
  simp only [ne_eq, Prod.mk.injEq] at *
  rw [if_neg (by (first | lia | omega)), if_neg (by (first | lia | omega)), if_neg (by (first | lia | omega)), if_neg (by (first | lia | omega)), if_neg (by (first | lia | omega)), if_neg (by (first | lia | omega)), if_neg (by (first | lia | omega))]
  exact .inr ⟨trivial, h4⟩
section
local macro_rules | `(tactic| k_lt $h:ident) => `(tactic| clear $h)
variable {w : World} {dp un : Nat} {fr : List Env} {gd : Option (List Code)} {s : Shared} {Q E : Value → Shared → Prop} {pv : Program} {loose : List Str} {mean : ExcName → Option Value} {mg mb : Str → Option Value}
theorem powpos {p q : Int} (hx : Ent2 p q) (h1 : ¬ (p = 0 ∧ q = 0)) (h2 : ¬ p < 0) : (p = 1 ∧ q = 0) ∨ (p = 0 ∧ q = 1) ∨ (p = 1 ∧ q = 1) ∨ (0 < p ∧ p < 1000000 ∧ 0 < q ∧ q < 1000000 ∧ Int.gcd p q = 1 ∧ p ≠ q) := by
  rcases hx with h | h | h | h | h | ⟨a, b, c, d, e⟩
  · first | exact absurd h (by assumption) | exact .inl h | exact .inr (.inl h) | exact absurd (by rw [h.1]; decide) h2 | (first | lia | omega)
  · first | exact absurd h (by assumption) | exact .inl h | exact .inr (.inl h) | exact absurd (by rw [h.1]; decide) h2 | (first | lia | omega)
  · first | exact absurd h (by assumption) | exact .inl h | exact .inr (.inl h) | exact absurd (by rw [h.1]; decide) h2 | (first | lia | omega)
  · first | exact absurd h (by assumption) | exact .inl h | exact .inr (.inl h) | exact absurd (by rw [h.1]; decide) h2 | (first | lia | omega)
  · first | exact absurd h (by assumption) | exact .inl h | exact .inr (.inl h) | exact absurd (by rw [h.1]; decide) h2 | (first | lia | omega)
  · by_cases hpq : p = q
    · subst hpq; have := gcd_same a e; (first | lia | omega)
    · exact .inr (.inr (.inr ⟨a, Int.lt_trans b (by decide), c, Int.lt_trans d (by decide), e, hpq⟩))
theorem basepos {p q : Int} (hx : Ent2 p q) (h1 : ¬ (p = 0 ∧ q = 0)) (h2 : ¬ p < 0) (h3 : ¬ (p = 1 ∧ q = 1)) (h4 : ¬ (p = 0 ∧ q = 1)) (h5 : ¬ (p = 1 ∧ q = 0)) : (0 < p ∧ p < 1000000) ∧ (0 < q ∧ q < 1000000) ∧ p ≠ q ∧ Int.gcd p q = 1 := by
  rcases hx with h | h | h | h | h | ⟨a, b, c, d, e⟩
  · first | exact absurd h (by assumption) | exact .inl h | exact .inr (.inl h) | exact absurd (by rw [h.1]; decide) h2 | (first | lia | omega)
  · first | exact absurd h (by assumption) | exact .inl h | exact .inr (.inl h) | exact absurd (by rw [h.1]; decide) h2 | (first | lia | omega)
  · first | exact absurd h (by assumption) | exact .inl h | exact .inr (.inl h) | exact absurd (by rw [h.1]; decide) h2 | (first | lia | omega)
  · first | exact absurd h (by assumption) | exact .inl h | exact .inr (.inl h) | exact absurd (by rw [h.1]; decide) h2 | (first | lia | omega)
  · first | exact absurd h (by assumption) | exact .inl h | exact .inr (.inl h) | exact absurd (by rw [h.1]; decide) h2 | (first | lia | omega)
  · refine ⟨⟨a, Int.lt_trans b (by decide)⟩, ⟨c, Int.lt_trans d (by decide)⟩, fun hpq => ?_, e⟩
    subst hpq; have := gcd_same a e; (first | lia | omega)
theorem ent_p {p q : Int} (h : Ent2 p q) : -1000000 < p ∧ p < 1000000 := by unfold Ent2 at h; (first | lia | omega)
theorem ent_q {p q : Int} (h : Ent2 p q) : 0 ≤ q ∧ q < 1000000 := by unfold Ent2 at h; (first | lia | omega)
section
variable {p q bp bq : Int}
theorem lb_nan (h : (p = 0 ∧ q = 0) ∨ (bp = 0 ∧ bq = 0)) : Spec2 p q bp bq (some (some (0, 0))) := by
  unfold Spec2; rw [if_pos h]
theorem lb_neg (n1 : ¬ (p = 0 ∧ q = 0)) (n2 : ¬ (bp = 0 ∧ bq = 0)) (h : p < 0 ∨ bp < 0) : Spec2 p q bp bq (some (some (0, 0))) := by
  unfold Spec2; rw [if_neg (not_or.mpr ⟨n1, n2⟩), if_pos h]
theorem lb_order {e : Int} (hx : 0 ≤ q) (n1 : ¬ (p = 0 ∧ q = 0)) (n2 : ¬ (bp = 0 ∧ bq = 0)) (h1 : ¬ p < 0) (h2 : ¬ bp < 0) (g : bp = 1 ∧ bq = 1) (ne : e ≠ 0) (he : e = cmp1 p q) : Spec2 p q bp bq (some (some (e, 0))) := by
  unfold Spec2
  rw [if_neg (not_or.mpr ⟨n1, n2⟩), if_neg (not_or.mpr ⟨h1, h2⟩), if_pos g]
  unfold cmp1 at he
  clear g h2 n2
  by_cases c1 : q = 0
  · rw [if_pos c1, if_neg (by (first | lia | omega)), if_neg h1] at he
    rw [if_neg (by (first | lia | omega)), if_pos (.inl c1), he]
  · rw [if_neg c1] at he
    by_cases c2 : p = q
    · rw [if_pos c2] at he; exact absurd he ne
    · rw [if_neg c2] at he
      rw [if_neg c2]
      by_cases c3 : p < q
      · rw [if_pos c3] at he; rw [if_neg (by (first | lia | omega)), he]
      · rw [if_neg c3] at he; rw [if_pos (by (first | lia | omega)), he]
theorem lb_order0 {e : Int} (n1 : ¬ (p = 0 ∧ q = 0)) (n2 : ¬ (bp = 0 ∧ bq = 0)) (h1 : ¬ p < 0) (h2 : ¬ bp < 0) (g : bp = 1 ∧ bq = 1) (z : e = 0) (he : e = cmp1 p q) : Spec2 p q bp bq (some (some (0, 0))) := by
  unfold Spec2
  rw [if_neg (not_or.mpr ⟨n1, n2⟩), if_neg (not_or.mpr ⟨h1, h2⟩), if_pos g]
  unfold cmp1 at he
  rw [z] at he
  clear g h2 n2
  by_cases c1 : q = 0
  · rw [if_pos c1, if_neg (by (first | lia | omega)), if_neg h1] at he; cases he
  · rw [if_neg c1] at he
    by_cases c2 : p = q
    · rw [if_pos c2]
    · rw [if_neg c2] at he
      by_cases c3 : p < q
      · rw [if_pos c3] at he; cases he
      · rw [if_neg c3] at he; cases he
theorem lb_zi0 (n1 : ¬ (p = 0 ∧ q = 0)) (n2 : ¬ (bp = 0 ∧ bq = 0)) (h1 : ¬ p < 0) (h2 : ¬ bp < 0) (g : ¬ (bp = 1 ∧ bq = 1)) (z : (bp = 0 ∧ bq = 1) ∨ (bp = 1 ∧ bq = 0)) (x : (p = 0 ∧ q = 1) ∨ (p = 1 ∧ q = 0)) : Spec2 p q bp bq (some (some (0, 0))) := by
  unfold Spec2
  rw [if_neg (not_or.mpr ⟨n1, n2⟩), if_neg (not_or.mpr ⟨h1, h2⟩), if_neg g, if_pos (z.imp (·.1) (·.2)), if_pos (x.imp (·.1) (·.2))]
theorem lb_zi1 (hx : Ent2 p q) (n1 : ¬ (p = 0 ∧ q = 0)) (n2 : ¬ (bp = 0 ∧ bq = 0)) (h1 : ¬ p < 0) (h2 : ¬ bp < 0) (g : ¬ (bp = 1 ∧ bq = 1)) (z : (bp = 0 ∧ bq = 1) ∨ (bp = 1 ∧ bq = 0)) (x1 : ¬ (p = 0 ∧ q = 1)) (x2 : ¬ (p = 1 ∧ q = 0)) : Spec2 p q bp bq (some (some (0, 1))) := by
  unfold Spec2
  have h : ¬ (p = 0 ∨ q = 0) := by
    clear g h2 n2 z
    unfold Ent2 at hx; (first | lia | omega)
  rw [if_neg (not_or.mpr ⟨n1, n2⟩), if_neg (not_or.mpr ⟨h1, h2⟩), if_neg g, if_pos (z.imp (·.1) (·.2)), if_neg h]
end
theorem said_16 : True := by
  (k_with "mine lbe" => first | exact lb_nan (.inl (by assumption)) | exact lb_nan (.inr (by assumption)) | exact lb_neg (by assumption) (by assumption) (.inl (by assumption)) | exact lb_neg (by assumption) (by assumption) (.inr (by assumption)) | exact lb_order0 (by assumption) (by assumption) (by assumption) (by assumption) (by assumption) (by assumption) rfl | exact lb_order (ent_q (by assumption)).1 (by assumption) (by assumption) (by assumption) (by assumption) (by assumption) (by assumption) rfl | exact lb_zi0 (by assumption) (by assumption) (by assumption) (by assumption) (by assumption) (by first | exact .inl (by assumption) | exact .inr (by assumption)) (by first | exact .inl (by assumption) | exact .inr (by assumption)) | exact lb_zi1 (by assumption) (by assumption) (by assumption) (by assumption) (by assumption) (by assumption) (by first | exact .inl (by assumption) | exact .inr (by assumption)) (by assumption) (by assumption))
  trivial
theorem lb_no {p q bp bq : Int} (hx : Ent2 p q) (hb : Ent2 bp bq) (h1 : ¬ (p = 0 ∧ q = 0)) (h2 : ¬ p < 0) (g1 : ¬ (bp = 0 ∧ bq = 0)) (g2 : ¬ bp < 0) (g3 : ¬ (bp = 1 ∧ bq = 1)) (g4 : ¬ (bp = 0 ∧ bq = 1)) (g5 : ¬ (bp = 1 ∧ bq = 0)) (h : LogNo (p, q) (bp, bq)) : Spec2 p q bp bq none :=
  have B := basepos hb g1 g2 g3 g4 g5
  spec_of_no (powpos hx h1 h2) B.1.1 B.2.1.1 B.2.2.1 h
theorem lb_yes {p q bp bq : Int} {d : D} (hx : Ent2 p q) (hb : Ent2 bp bq) (h1 : ¬ (p = 0 ∧ q = 0)) (h2 : ¬ p < 0) (g1 : ¬ (bp = 0 ∧ bq = 0)) (g2 : ¬ bp < 0) (g3 : ¬ (bp = 1 ∧ bq = 1)) (g4 : ¬ (bp = 0 ∧ bq = 1)) (g5 : ¬ (bp = 1 ∧ bq = 0)) (h : LogSpec (p, q) (bp, bq) d) : Spec2 p q bp bq (some d) :=
  have B := basepos hb g1 g2 g3 g4 g5
  spec_of_log (powpos hx h1 h2) B.1.1 B.2.1.1 B.2.2.1 h
theorem said_17 : True := by
  (k_with "mine why" => exact lb_no (by assumption) (by assumption) (by assumption) (by assumption) (by assumption) (by assumption) (by assumption) (by assumption) (by assumption) (by assumption))
  (k_with "mine num" => first | exact ent_p (by assumption) | exact ent_q (by assumption))
  (k_with "call ref" => (k_here; (with_reducible show wpAny _ _ (call (Value.ref 408) [_, _]) _ _ _); (refine' c_log_to ?X ?T ?hl_r43 ?v ?v2 ?r ?u ?p1_r43 ?p2_r43 ?p3_r43 ?p4_r43 ?p5_r43 ?_ ?kE_r43); walk_at "mine args"; (case hl_r43 => refine ff_push (by assumption) (by assumption) ?_; rfl); (case p1_r43 => exact powpos (by assumption) (by assumption) (by assumption)); (case p2_r43 => exact (basepos (by assumption) (by assumption) (by assumption) (by assumption) (by assumption) (by assumption)).1); (case p3_r43 => exact (basepos (by assumption) (by assumption) (by assumption) (by assumption) (by assumption) (by assumption)).2.1); (case p4_r43 => exact (basepos (by assumption) (by assumption) (by assumption) (by assumption) (by assumption) (by assumption)).2.2.1); (case p5_r43 => exact (basepos (by assumption) (by assumption) (by assumption) (by assumption) (by assumption) (by assumption)).2.2.2); (case kE_r43 => (intro why e9 h9 tk9 rz9; walk_at "mine flown")); intro d9 hd9; (have hs9 := lb_yes (by assumption) (by assumption) (by assumption) (by assumption) (by assumption) (by assumption) (by assumption) (by assumption) (by assumption) hd9); clear hd9; intro r' h' tk' ks dr; walk_at "mine after"))
  trivial
theorem c_log_beside {v v₂ : Value} {p q bp bq : Int} 
   (X : (hd.heap_1 w.params).In s.heap) (T : Top pv loose mean mg mb s.heap) (hl : s.heap.FunFrames {} fr) (hv : DAt s.heap v (some (p, q))) (hv₂ : DAt s.heap v₂ (some (bp, bq))) (hr : dp + 10 < recursionLimit) (hu : un + 300 < cLine)
   (hx : Ent2 p q) (hb : Ent2 bp bq)
   (k : ∀ d : D, Spec2 p q bp bq (some d) → RetD s Q d)
   (kE : Spec2 p q bp bq none → ∀ e h' tk, Rz s.heap fr rmsg e h' → E (.ref e) { s with heap := h', toks := tk }) :
   wpAny (model PG w) (ar dp (some fr) gd un) (call (.ref 434) [v, v₂]) Q E s := by
  have am9 : AimHere := trivial
  refine wpAny_call ?_
  refine' code_raise (binds := [(S "x", v), (S "base", v₂)]) (msg := rmsg) ?k1 ?k2 ?k6 ?k7 ?k8 ?k9 ?kB ?_ ?kE ?c2 ?c3 ?c4 ?c5
  walk_at "mine enterR"
  case kE => exact kE
  intro L h₁ hL F
  have N := mnNil F
  obtain ⟨a, t1, t2, rfl, ha⟩ := hv
  obtain ⟨b, t3, t4, rfl, hb'⟩ := hv₂
  dsimp only at ha hb' ⊢
  w_top off
  w_strict (k_steps; (all_goals (try k_data)))
  all_goals (try dsimp only)
  all_goals first
    | exact k _ (by assumption) _ _ _ (mnKeep (by assumption)) (by assumption)
    | (refine' mnDD (k (some (0, 0)) ?k3) ?k1 ?k2 ?k4; (case k1 => assumption); (case k2 => assumption); (case k4 => simp [markedD]); (case k3 => walk_at "mine lbe"))
    | (refine' mnDT (k _ ?k3) ?k1 ?k2 rfl; (case k1 => assumption); (case k2 => walk_at "mine tup"); (case k3 => walk_at "mine lbe"))
end

section
local macro_rules | `(tactic| k_lt $h:ident) => `(tactic| clear $h)
variable {w : World} {dp un : Nat} {fr : List Env} {gd : Option (List Code)} {s : Shared} {Q E : Value → Shared → Prop} {pv : Program} {loose : List Str} {mean : ExcName → Option Value} {mg mb : Str → Option Value}
theorem said_18 : True := by
  (k_with "mine dat" => exact DAt.keeps (by assumption) (mnKeep (by assumption)))
  trivial
theorem c_log_beside_na {v v₂ : Value} {x b : D} 
   (X : (hd.heap_1 w.params).In s.heap) (T : Top pv loose mean mg mb s.heap) (hv : DAt s.heap v x) (hv₂ : DAt s.heap v₂ b) (hr : dp + 10 < recursionLimit) (hu : un + 300 < cLine)
   (hx : x = none ∨ b = none)
   (k : RetD s Q none) :
   wpAny (model PG w) (ar dp (some fr) gd un) (call (.ref 434) [v, v₂]) Q E s := by
  have am9 : AimHere := trivial
  refine wpAny_call ?_
  refine' code_pure (binds := [(S "x", v), (S "base", v₂)]) ?k1 ?k2 ?k6 ?k7 ?k8 ?k9 ?kB ?_ ?c2 ?c3 ?c4 ?c5
  walk_at "mine enter"
  rcases x with _ | ⟨p, q⟩
  · cases hv
    w_top off
    w_strict (k_steps; (all_goals (try k_data)))
    all_goals (refine' mnDD k ?k1 ?k2 ?k4; (case k1 => assumption); (case k2 => assumption); (case k4 => simp [markedD]))
  · rcases b with _ | _
    · obtain ⟨a, t1, t2, rfl, ha⟩ := hv
      cases hv₂
      w_strict (k_steps; (all_goals (try k_data)))
      all_goals (refine' mnDD k ?k1 ?k2 ?k4; (case k1 => assumption); (case k2 => assumption); (case k4 => simp [markedD]))
    · simp at hx
theorem c_lb {v v₂ : Value} {x b : D} 
   (X : (hd.heap_1 w.params).In s.heap) (T : Top pv loose mean mg mb s.heap) (hl : s.heap.FunFrames {} fr) (hv : DAt s.heap v x) (hv₂ : DAt s.heap v₂ b) (hr : dp + 10 < recursionLimit) (hu : un + 300 < cLine)
   (hx : Ent x) (hb : Ent b)
   (k : ∀ d : D, Spec x b (some d) → RetD s Q d)
   (kE : Spec x b none → ∀ e h' tk, Rz s.heap fr rmsg e h' → E (.ref e) { s with heap := h', toks := tk }) :
   wpAny (model PG w) (ar dp (some fr) gd un) (call (.ref 434) [v, v₂]) Q E s := by
  rcases x with _ | ⟨p, q⟩
  · exact c_log_beside_na X T hv hv₂ hr hu (.inl rfl) (k none rfl)
  · rcases b with _ | ⟨bp, bq⟩
    · exact c_log_beside_na X T hv hv₂ hr hu (.inr rfl) (k none rfl)
    · exact c_log_beside X T hl hv hv₂ hr hu hx hb k kE
end

/-! The law's own ledger: objects beside a tail of tuples of which only the kind is known. -/
def TupsOnly (Y : List (Addr × Obj)) : Prop := ∀ p ∈ Y, p.2.cls = .type "tuple"
def DIn (h₀ : Heap) (Y : List (Addr × Obj)) (v : Value) (d : D) : Prop := match d with
  | none => v = .none
  | some x => ∃ a t1 t2, v = .ref a ∧ (IsTup h₀ a #[.int x.1 t1, .int x.2 t2] ∨ ∃ o, (a, o) ∈ Y ∧ o.cls = .type "tuple" ∧ ∃ n, o.data = .seq #[.int x.1 t1, .int x.2 t2] n)
inductive DAll (h₀ : Heap) (Y : List (Addr × Obj)) : List Value → List D → Prop
  | nil : DAll h₀ Y [] []
  | cons {v d vs ds} : DIn h₀ Y v d → DAll h₀ Y vs ds → DAll h₀ Y (v :: vs) (d :: ds)
noncomputable def AllNe (d : Addr) : List (Addr × Obj) → Prop
  | [] => True
  | p :: r => @Ne Nat p.1 d ∧ AllNe d r
theorem allNe_of {d : Addr} : ∀ {l : List (Addr × Obj)}, (∀ p ∈ l, p.1 ≠ d) → AllNe d l
  | [], _ => trivial
  | p :: _, h => ⟨h p (.head _), allNe_of fun q hq => h q (.tail _ hq)⟩
section
variable {h₀ h h' : Heap} {L r : Addr} {m : Str → Option Value} {news l Y Y' : List (Addr × Obj)} {o : Obj} {v : Value} {d : D} {vs : List Value} {ds : List D}
theorem DIn.mono (x : DIn h₀ Y v d) (k : ∀ p ∈ Y, p ∈ Y') : DIn h₀ Y' v d := by
  cases d with
  | none => exact x
  | some y =>
    obtain ⟨a, t1, t2, e, i | ⟨o, hm, r⟩⟩ := x
    · exact ⟨a, t1, t2, e, .inl i⟩
    · exact ⟨a, t1, t2, e, .inr ⟨o, k _ hm, r⟩⟩
theorem DAll.mono (x : DAll h₀ Y vs ds) (k : ∀ p ∈ Y, p ∈ Y') : DAll h₀ Y' vs ds := by
  induction x with
  | nil => exact .nil
  | cons a _ ih => exact .cons (a.mono k) ih
theorem DIn.at (x : DIn h₀ Y v d) (F : Fr h₀ L h m) (N : News h₀ L h news) (k : ∀ p ∈ Y, p ∈ news) : DAt h v d := by
  cases d with
  | none => exact x
  | some y =>
    obtain ⟨a, t1, t2, e, i | ⟨o, hm, r⟩⟩ := x
    · exact ⟨a, t1, t2, e, F.tup i⟩
    · exact ⟨a, t1, t2, e, o, (N _ (k _ hm)).1, r⟩
theorem DAll.length (x : DAll h₀ Y vs ds) : vs.length = ds.length := by
  induction x with
  | nil => rfl
  | cons _ _ ih => simp [ih]
theorem DAll.append {us : List Value} {es : List D} (x : DAll h₀ Y vs ds) (y : DAll h₀ Y us es) : DAll h₀ Y (vs ++ us) (ds ++ es) := by
  induction x with
  | nil => exact y
  | cons a _ ih => exact .cons a ih
theorem DAll.get (x : DAll h₀ Y vs ds) {k : Nat} (hk : k < ds.length) : ∃ v, vs[k]? = some v ∧ DIn h₀ Y v (ds[k]'hk) := by
  induction x generalizing k with
  | nil => exact absurd hk (Nat.not_lt_zero _)
  | cons a _ ih =>
    cases k with
    | zero => exact ⟨_, rfl, a⟩
    | succ k => exact ih (Nat.lt_of_succ_lt_succ hk)
theorem TupsOnly.nil : TupsOnly [] := fun _ h => nomatch h
theorem TupsOnly.append (x : TupsOnly Y) (y : TupsOnly Y') : TupsOnly (Y ++ Y') := fun p hp => (List.mem_append.mp hp).elim (x p) (y p)
theorem tup_off {a : Addr} (x : TupsOnly Y) (N : News h₀ L h news) (k : ∀ p ∈ Y, p ∈ news) (hm : (a, o) ∈ news) (hc : ¬ o.cls = .type "tuple") : ∀ p ∈ Y, p.1 ≠ a := fun p hp e => by
  have h1 := (N _ (k _ hp)).1
  have h2 := (N _ hm).1
  rw [e] at h1
  have := Option.some.inj (h1.symm.trans h2)
  exact hc ((congrArg (·.cls) this).symm.trans (x p hp))
theorem ledger_add (F : Fr h₀ L h m) (N : News h₀ L h news) (k : h.StaysIn h') (hf : h.get? r = none) (hr : h'.get? r = some o) : Fr h₀ L h' m ∧ News h₀ L h' ((r, o) :: news) ∧ AllNe r news := by
  obtain ⟨oL, es, ep, hL, _⟩ := F.ns
  refine ⟨F.keeps k, fun p hp => ?_, allNe_of fun p hp e => ?_⟩
  · rcases List.mem_cons.mp hp with rfl | hp
    · refine ⟨hr, fun q => ?_, ?_⟩
      · have q : r = L := q
        rw [q, hL] at hf; cases hf
      · show h₀.get? r = none
        cases q : h₀.get? r with
        | none => rfl
        | some o' => rw [F.keep _ _ q] at hf; cases hf
    · exact ⟨k _ _ (N p hp).1, (N p hp).2⟩
  · have := (N p hp).1
    rw [e, hf] at this; cases this
theorem absorb (F : Fr h₀ L h m) (N : News h₀ L h l) (x : DAt h v d) : ∃ extra, News h₀ L h (l ++ extra) ∧ TupsOnly extra ∧ DIn h₀ extra v d := by
  cases d with
  | none => exact ⟨[], by simpa using N, TupsOnly.nil, x⟩
  | some y =>
    obtain ⟨a, t1, t2, e, o, ho, hc, n, hd⟩ := x
    cases q : h₀.get? a with
    | some o' =>
      have e' := F.keep _ _ q
      rw [ho] at e'
      have := Option.some.inj e'
      subst this
      exact ⟨[], by simpa using N, TupsOnly.nil, a, t1, t2, e, .inl ⟨_, q, hc, n, hd⟩⟩
    | none =>
      refine ⟨[(a, o)], fun p hp => ?_, fun p hp => by rw [List.mem_singleton.mp hp]; exact hc, a, t1, t2, e, .inr ⟨o, .head _, hc, n, hd⟩⟩
      rcases List.mem_append.mp hp with hp | hp
      · exact N p hp
      · rw [List.mem_singleton.mp hp]
        refine ⟨ho, fun z => ?_, q⟩
        obtain ⟨oL, es, ep, hL, hLd, _⟩ := F.ns
        have z : a = L := z
        rw [z, hL] at ho
        rw [Option.some.inj ho, hd] at hLd
        cases hLd
end

theorem UpdF.self {c : Addr} {o : Obj} {news : List (Addr × Obj)} {g : Obj → List (Addr × Obj)} (U : UpdF c o news g) : g o = news := by
  obtain ⟨pre, post, rfl, hg, _, _⟩ := U.split
  exact hg o
theorem UpdF.adr {c : Addr} {o : Obj} {news : List (Addr × Obj)} {g : Obj → List (Addr × Obj)} (U : UpdF c o news g) (o₁ o₂ : Obj) : (g o₁).map (·.1) = (g o₂).map (·.1) := by
  obtain ⟨pre, post, rfl, hg, _, _⟩ := U.split
  rw [hg, hg]; simp
theorem off3_upd {c I C X : Addr} {o o₁ o₂ : Obj} {news Y ex : List (Addr × Obj)} {g : Obj → List (Addr × Obj)} (U : UpdF c o news g) (k : LCg.Off3 I C X (g o₁ ++ Y)) (e : ∀ q ∈ ex, q.1 ≠ I ∧ q.1 ≠ C ∧ q.1 ≠ X) : LCg.Off3 I C X (g o₂ ++ (Y ++ ex)) := by
  refine LCg.Off3.of fun p hp => ?_
  rcases List.mem_append.mp hp with hp | hp
  · have : p.1 ∈ (g o₁).map (·.1) := by rw [UpdF.adr U o₁ o₂]; exact List.mem_map_of_mem hp
    obtain ⟨q, hq, e⟩ := List.mem_map.mp this
    rw [← e]; exact k.mem q (List.mem_append_left _ hq)
  · rcases List.mem_append.mp hp with hp | hp
    · exact k.mem p (List.mem_append_right _ hp)
    · exact e p hp
theorem absorb2 {h₀ h h' : Heap} {L : Addr} {m : Str → Option Value} {l l' : List (Addr × Obj)} {v : Value} {d : D} (F : Fr h₀ L h m) (N : News h₀ L h l) (N' : News h₀ L h' l') (x : DAt h' v d) (f : ∀ a, v = .ref a → h.get? a = none) :
    ∃ extra, News h₀ L h' (l' ++ extra) ∧ TupsOnly extra ∧ DIn h₀ extra v d ∧ (∀ q ∈ extra, ∀ p ∈ l, q.1 ≠ p.1) := by
  cases d with
  | none => exact ⟨[], by simpa using N', TupsOnly.nil, x, fun _ h => nomatch h⟩
  | some y =>
    obtain ⟨a, t1, t2, e, o, ho, hc, n, hd⟩ := x
    have hf := f a e
    have q : h₀.get? a = none := by
      cases q : h₀.get? a with
      | none => rfl
      | some o' => rw [F.keep _ _ q] at hf; cases hf
    refine ⟨[(a, o)], fun p hp => ?_, fun p hp => by rw [List.mem_singleton.mp hp]; exact hc, ⟨a, t1, t2, e, .inr ⟨o, .head _, hc, n, hd⟩⟩, fun z hz p hp => ?_⟩
    · rcases List.mem_append.mp hp with hp | hp
      · exact N' p hp
      · rw [List.mem_singleton.mp hp]
        refine ⟨ho, fun z => ?_, q⟩
        obtain ⟨oL, es, ep, hL, hLd, _⟩ := F.ns
        have z : a = L := z
        rw [z, hL] at hf; cases hf
    · rw [List.mem_singleton.mp hz]
      intro z
      have z : a = p.1 := z
      rw [z, (N p hp).1] at hf; cases hf
section
variable {prog : Program} {w : World} {A : Around} {h₀ : Heap} {L : Addr} {m : Str → Option Value} {env : Env} {elt : Expr} {x : Str} {scope : Scope} {cl : List (Str × Addr)} {s : Shared} {S : List (Addr × Obj) → Prop} {P : Nat → Value → Prop} {Fin : List Value → List (Addr × Obj) → Prop} {news : List (Addr × Obj)}
theorem comp_inv {n : Nat} (J : List Value → List (Addr × Obj) → Prop) (h0 : J [] news)
    (turn : ∀ i v ys nw I oI C oC X m₂ h tk (E' : Value → Shared → Prop), i < n → P i v → ys.length = i → J ys nw → LCg.NsObj oC m₂ → m₂ x = some v → Fr h₀ L h m → News h₀ L h ((I, oI) :: (C, oC) :: (X, LCg.lst ys) :: nw) → LCg.Off3 I C X nw → ((@Ne Nat I C) ∧ (@Ne Nat I X) ∧ (@Ne Nat C X)) →
      wpAny (model prog w) A (eval elt (compEnvC scope cl C env)) (LCg.CompEnd h₀ L m { s with heap := h, toks := tk } I oI C oC X (LCg.lst ys) S (fun y nw' => J (ys ++ [y]) nw')) E' { s with heap := h, toks := tk })
    (fin : ∀ ys nw, ys.length = n → J ys nw → Fin ys nw) : LCg.CompRest prog w A h₀ L m env elt x scope cl s S P Fin n 0 [] news := by
  have key : ∀ (j i : Nat) (ys : List Value) nw, i + j = n → ys.length = i → J ys nw → LCg.CompRest prog w A h₀ L m env elt x scope cl s S P Fin j i ys nw := by
    intro j
    induction j with
    | zero => exact fun i ys nw hi hy hj => LCg.CompRest.zero (fin ys nw (by (first | lia | omega)) hj)
    | succ j ih =>
      intro i ys nw hi hy hj
      refine LCg.CompRest.succ ?_
      intro v I oI C oC X m₂ h tk E' hv hC hx F N off ne
      refine wpAny_mono (turn i v ys nw I oI C oC X m₂ h tk E' (by (first | lia | omega)) hv hy hj hC hx F N off ne) (fun y s₂ hq => ?_) fun _ _ e => e
      obtain ⟨h', tk', nw', e, F', N', off', hS, hn⟩ := hq
      exact ⟨h', tk', nw', e, F', N', off', hS, ih (i + 1) _ _ (by (first | lia | omega)) (by simp [hy]) hn⟩
  exact key n 0 [] news (by (first | lia | omega)) rfl h0
end
/-- what the entries' comprehension keeps -/
def JEnt (h₀ : Heap) (g : Obj → List (Addr × Obj)) (ys : List Value) (nw : List (Addr × Obj)) : Prop :=
  ∃ us l n Y ds, nw = g (listOf us.toArray n) ++ Y ∧ IntsAre us l ∧ us.length ≤ 1000 ∧ TupsOnly Y ∧ DAll h₀ Y ys ds ∧ ∀ d ∈ ds, Ent d
theorem JEnt.start {h₀ : Heap} {c : Addr} {us : List Value} {l : List Int} {n : Nat} {news : List (Addr × Obj)} {g : Obj → List (Addr × Obj)} (U : UpdF c (listOf us.toArray n) news g) (hi : IntsAre us l) (hl : us.length ≤ 1000) : JEnt h₀ g [] news :=
  ⟨us, l, n, [], [], by rw [UpdF.self U]; simp, hi, hl, TupsOnly.nil, .nil, fun _ h => nomatch h⟩
theorem JEnt.next {h₀ : Heap} {g : Obj → List (Addr × Obj)} {ys us : List Value} {l : List Int} {n : Nat} {Y ex : List (Addr × Obj)} {ds : List D} {y : Value} {d : D} (hi : IntsAre us l) (hl : us.length ≤ 1000) (tY : TupsOnly Y) (tE : TupsOnly ex) (dY : DAll h₀ Y ys ds) (eY : ∀ d ∈ ds, Ent d) (di : DIn h₀ ex y d) (en : Ent d) :
    JEnt h₀ g (ys ++ [y]) (g (listOf us.toArray n) ++ (Y ++ ex)) :=
  ⟨us, l, n, Y ++ ex, ds ++ [d], rfl, hi, hl, tY.append tE, (dY.mono fun p hp => List.mem_append_left _ hp).append (.cons (di.mono fun p hp => List.mem_append_right _ hp) .nil), fun e he => (List.mem_append.mp he).elim (eY e) fun h => by rw [List.mem_singleton.mp h]; exact en⟩

theorem power_turn {p q x y k : Int} {pre : List Int} (h1 : x = p ^ pre.length) (h2 : y = q ^ pre.length) : x * p = p ^ (pre ++ [k]).length ∧ y * q = q ^ (pre ++ [k]).length := by
  rw [List.length_append]; simp [h1, h2, Int.pow_succ]
theorem power_end {p q n x y : Int} (h1 : x = p ^ (rangeKs 0 ((if n < 0 then -n else n) - 0).toNat).length) (h2 : y = q ^ (rangeKs 0 ((if n < 0 then -n else n) - 0).toNat).length) : powD (p, q) n = if 0 ≤ n then (x, y) else (y, x) := by
  rw [rangeKs_length] at h1 h2
  unfold powD
  by_cases h : 0 ≤ n
  · rw [if_pos h, if_pos h, h1, h2, if_neg (by (first | lia | omega)), Int.sub_zero]
  · rw [if_neg h, if_neg h, h1, h2, if_pos (by (first | lia | omega)), Int.sub_zero]
section
variable {w : World} {dp un : Nat} {fr : Option (List Env)} {gd : Option (List Code)} {s : Shared} {Q E : Value → Shared → Prop} {pv : Program} {loose : List Str} {mean : ExcName → Option Value} {mg mb : Str → Option Value}
theorem c_powerF {v : Value} {p q n : Int} {t : Tok}
   (X : (hd.heap_1 w.params).In s.heap) (T : Top pv loose mean mg mb s.heap) (hv : DAt s.heap v (some (p, q))) (hr : dp + 2 < recursionLimit) (hu : un + 110 < cLine)
   (hp : 0 < p ∧ p < 65536) (hq : 0 < q ∧ q < 65536) (hn : -16 ≤ n ∧ n ≤ 16)
   (k : ∀ a h' tk, s.heap.get? a = none → s.heap.StaysIn h' → DAt h' (.ref a) (some (powD (p, q) n)) → Q (.ref a) { s with heap := h', toks := tk }) :
   wpAny (model PG w) (ar dp fr gd un) (call (.ref 679) [v, .int n t]) Q E s := by
  have am9 : AimHere := trivial
  refine wpAny_call ?_
  refine' code_pure (binds := [(S "root_of", v), (S "so_often", .int n t)]) ?k1 ?k2 ?k6 ?k7 ?k8 ?k9 ?kB ?_ ?c2 ?c3 ?c4 ?c5
  walk_at "mine enter"
  obtain ⟨a, t1, t2, rfl, ha⟩ := hv
  dsimp only at ha
  (k_with "pyIter ref" => k_state (fun pre top below => top = p ^ pre.length ∧ below = q ^ pre.length) "top" "below")
  (k_with "state" => exact power_turn (by assumption) (by assumption))
  w_top off
  w_strict (k_steps; (all_goals (try k_data)))
  all_goals (try dsimp only)
  all_goals (rename Fr _ _ _ _ => Fz; rename News _ _ _ _ => Nz)
  all_goals (refine k _ _ _ (Nz.fresh (by k_mem)) Fz.keep ?_; rw [power_end (by assumption) (by assumption)]; first | rw [if_pos (by assumption)] | rw [if_neg (by assumption)])
  all_goals exact DAt.some (Nz.isTup (by k_mem))
theorem c_power {v : Value} {p q n : Int} {t : Tok}
   (X : (hd.heap_1 w.params).In s.heap) (T : Top pv loose mean mg mb s.heap) (hv : DAt s.heap v (some (p, q))) (hr : dp + 2 < recursionLimit) (hu : un + 110 < cLine)
   (hp : 0 < p ∧ p < 65536) (hq : 0 < q ∧ q < 65536) (hn : -16 ≤ n ∧ n ≤ 16)
   (k : RetD s Q (some (powD (p, q) n))) :
   wpAny (model PG w) (ar dp fr gd un) (call (.ref 679) [v, .int n t]) Q E s :=
  c_powerF X T hv hr hu hp hq hn fun a h' tk _ ks da => k _ h' tk ks da
end

section
variable {prog : Program} {w : World} {A : Around} {E : Value → Shared → Prop} {s : Shared} {env : Env} {h₀ : Heap} {x : Str} {body : List Stmt} {Q : Flow → Shared → Prop}
/-- a turn's end of a loop that stores its own name alone -/
def TurnPost (h₀ : Heap) (L : Addr) (x : Str) (m₀ : Str → Option Value) (news : List (Addr × Obj)) (W : Prop) (s₁ : Shared) (Q : Flow → Shared → Prop) (f : Flow) (s₂ : Shared) : Prop :=
  match f with
  | .ret v => Q (.ret v) s₂
  | .brk => Q .next s₂
  | _ => ∃ h' tk m', s₂ = { s₁ with heap := h', toks := tk } ∧ Fr h₀ L h' m' ∧ News h₀ L h' news ∧ (∀ z, z ≠ x → m' z = m₀ z) ∧ W
def WordIs (_ : List Int → Prop) : Prop := True
theorem range_plain {r : Addr} {a₀ b₀ : Int} {t₀ u₀ v₀ : Tok} {n : Nat} {m₀ : Str → Option Value} {news : List (Addr × Obj)} {P : List Int → Prop} (_wd : WordIs P)
    (hh : A.handled = none) (hr : IsRange s.heap r a₀ b₀ 1 t₀ u₀ v₀) (hsmall : Builtin.Range.small a₀ b₀ 1 = true) (hn : Builtin.Range.rangeSize a₀ b₀ 1 = (n : Int)) (F : Fr h₀ env.locals s.heap m₀) (N : News h₀ env.locals s.heap news) (hp : P [])
    (turn : ∀ (pre : List Int) (k : Int) t h tk own, k = a₀ + (pre.length : Int) → pre.length < n → P pre →
      Fr h₀ env.locals h (fun y => if y = x then some (.int k t) else m₀ y) → News h₀ env.locals h (news ++ own) →
      wpAny (model prog w) A (execs body env) (TurnPost h₀ env.locals x m₀ (news ++ own) (P (pre ++ [k])) { s with heap := h, toks := tk } Q) E { s with heap := h, toks := tk })
    (done : ∀ (u : Str → Option Value) h tk, P (rangeKs a₀ n) → Fr h₀ env.locals h (fun y => if y = x then u y else m₀ y) → News h₀ env.locals h news → Q .next { s with heap := h, toks := tk }) :
    wpAny (model prog w) A (pyIter (.ref r)) (fun it s₂ => LoopAtV prog w A h₀ env x body Q E it s₂) E s := by
  refine kst_range (σ := Unit) (fun _ => news) (fun _ => []) (fun _ => True) [] (fun pre _ => P pre) () hh hr hsmall hn F N trivial (fun _ h => nomatch h) hp ?_ ?_
  · intro c pre k t u h tk own hk hl _ _ hP Fr₁ N₁
    refine wpAny_mono (turn pre k t h tk own hk hl hP Fr₁ N₁) (fun f s₂ p => ?_) fun _ _ e => e
    have fin : (∃ h' tk' m', s₂ = { { s with heap := h, toks := tk } with heap := h', toks := tk' } ∧ Fr h₀ env.locals h' m' ∧ News h₀ env.locals h' (news ++ own) ∧ (∀ z, z ≠ x → m' z = m₀ z) ∧ P (pre ++ [k])) →
        InvEndN h₀ env.locals (KstS (σ := Unit) (fun _ => news) (fun _ => []) (fun _ => True) x [] m₀ (fun pre _ => P pre) (pre ++ [k])) own (news.map (·.1)) { s with heap := h, toks := tk } s₂ := by
      rintro ⟨h', tk', m', e, F', N', hm, hP'⟩
      exact ⟨h', tk', m', _, news, e, F', N', fun p hp => List.mem_append.mpr (.inl hp), fun p hp => List.mem_append.mpr (.inr hp), rfl, (), rfl, trivial, (fun _ h => nomatch h), fun z h1 _ _ => hm z h1, hP'⟩
    cases f with
    | ret v => exact p
    | brk => exact p
    | next => exact fin p
    | cont => exact fin p
  · intro c u h tk _ hP F' N'
    exact done u h tk hP F' N'
end

theorem said_19 : True := by
  (k_with "pyIter ref" => (k_here; (rename WordIs _ => wd9); (rename IsRange _ _ _ _ _ _ _ _ => rg9); (rename Fr _ _ _ _ => F8); (rename News _ _ _ _ => N8); (with_unfolding_all refine' range_plain wd9 ?h1_r45 rg9 ?h3_r45 ?h4_r45 F8 N8 ?h7_r45 ?_ ?_); (case h1_r45 => with_unfolding_all rfl); (case h3_r45 => with_unfolding_all decide); (case h4_r45 => exact rangeSize_nat _ _); (case h7_r45 => walk_at "mine word"); (clear F8 N8); (intro pre9 k9 t9 h9 tk9 own9 ke9 kl9 kp9 F9 N9); (try simp only [List.cons_append, List.nil_append] at N9); (try k_fold); rotate_left; (intro u9 h9 tk9 kp9 F9 N9); (try k_fold); rotate_left))
  trivial
abbrev RetO (s : Shared) (Q : Value → Shared → Prop) (r : Option D) : Prop := ∀ (v : Value) (h' : Heap) (tk : Nat), s.heap.StaysIn h' → (match r with | none => ∃ t, v = .str (S "refused") t | some d => DAt h' v d) → Q v { s with heap := h', toks := tk }
section
local macro_rules | `(tactic| k_lt $h:ident) => `(tactic| clear $h)
variable {w : World} {dp un : Nat} {fr : Option (List Env)} {gd : Option (List Code)} {s : Shared} {Q E : Value → Shared → Prop} {pv : Program} {loose : List Str} {mean : ExcName → Option Value} {mg mb : Str → Option Value}
theorem ent_all {p q : Int} (h : Ent2 p q) (h1 : ¬ (p = 0 ∧ q = 0)) (h2 : ¬ p < 0) (h3 : p ≠ 0) (h4 : q ≠ 0) : (0 < p ∧ p < 65536) ∧ (0 < q ∧ q < 65536) := by unfold Ent2 at h; (first | lia | omega)
theorem ent_b {p q : Int} (h : Ent2 p q) (h1 : 0 < p) (h2 : q ≠ 0) : (0 < p ∧ p < 65536) ∧ (0 < q ∧ q < 65536) := by unfold Ent2 at h; (first | lia | omega)
theorem ent_f {p q : Int} (h : Ent2 p q) : 0 ≤ q ∧ (q = 0 → p = 0 ∨ p = 1 ∨ p = -1) ∧ (p = 0 → q = 0 ∨ q = 1) ∧ (p = q → p = 0 ∨ p = 1) := by
  refine ⟨(ent_q h).1, ?_, ?_, ?_⟩
  · unfold Ent2 at h; (first | lia | omega)
  · unfold Ent2 at h; (first | lia | omega)
  · rintro rfl
    by_cases h0 : p = 0
    · exact .inl h0
    · have := gcd_same (p := p)
      unfold Ent2 at h
      rcases h with h | h | h | h | h | ⟨a, b, c, d, e⟩ <;> first | (first | lia | omega) | exact .inr (this a e)
theorem pow_two_le {b : Int} (h : 2 ≤ b) (n : Nat) : (2 : Int) ^ n ≤ b ^ n := by
  induction n with
  | zero => simp
  | succ n ih =>
    rw [Int.pow_succ, Int.pow_succ]
    have : (0 : Int) < 2 ^ n := Int.pow_pos (by decide)
    exact Int.mul_le_mul ih h (by decide) (by (first | lia | omega))
theorem pow_small {b : Int} {n : Nat} (h : 2 ≤ b) (hn : b ^ n < 65536) : n ≤ 16 := by
  refine Nat.le_of_not_lt fun hc => ?_
  have h1 : (2 : Int) ^ 17 ≤ 2 ^ n := by
    have := Nat.pow_le_pow_right (n := 2) (by decide) hc
    exact_mod_cast this
  have h2 := pow_two_le h n
  have h3 : (2 : Int) ^ 17 = 131072 := by decide
  (first | lia | omega)
theorem pow_bound {p q bp bq n : Int} (hp : 0 < p ∧ p < 65536) (hq : 0 < q ∧ q < 65536) (hb : 0 < bp) (hc : 0 < bq) (hne : bp ≠ bq) (e : (p, q) = powD (bp, bq) n) : -16 ≤ n ∧ n ≤ 16 := by
  have key : ∀ m : Nat, bp ^ m < 65536 → bq ^ m < 65536 → m ≤ 16 := fun m h1 h2 => by
    by_cases h : 2 ≤ bp
    · exact pow_small h h1
    · exact pow_small (b := bq) (by (first | lia | omega)) h2
  unfold powD at e
  split at e <;> simp only [Prod.mk.injEq] at e
  · have := key n.toNat (by (first | lia | omega)) (by (first | lia | omega)); (first | lia | omega)
  · have := key (-n).toNat (by (first | lia | omega)) (by (first | lia | omega)); (first | lia | omega)
theorem search_turn {p q bp bq k : Int} {pre : List Int} (h : ∀ v ∈ pre, (p, q) ≠ powD (bp, bq) v) (hk : ¬ ((powD (bp, bq) k).1 = p ∧ (powD (bp, bq) k).2 = q)) : ∀ v ∈ pre ++ [k], (p, q) ≠ powD (bp, bq) v := by
  intro v hv
  rcases List.mem_append.mp hv with hv | hv
  · exact h v hv
  · rw [List.mem_singleton.mp hv]; exact fun e => hk (by rw [← e]; exact ⟨rfl, rfl⟩)
theorem search_hit {p q bp bq k : Int} (h : (powD (bp, bq) k).1 = p ∧ (powD (bp, bq) k).2 = q) : (p, q) = powD (bp, bq) k := by rw [← h.1, ← h.2]
theorem search_end {p q bp bq : Int} (h : ∀ v ∈ rangeKs (-16) (17 - -16 : Int).toNat, (p, q) ≠ powD (bp, bq) v) (hp : 0 < p ∧ p < 65536) (hq : 0 < q ∧ q < 65536) (hb : 0 < bp) (hc : 0 < bq) (hne : bp ≠ bq) : ∀ n : Int, (p, q) ≠ powD (bp, bq) n := by
  intro n e
  have hb := pow_bound hp hq hb hc hne e
  refine h n ?_ e
  simp only [rangeKs, List.mem_map, List.mem_range]
  exact ⟨(n + 16).toNat, by (first | lia | omega), by (first | lia | omega)⟩
/-- the weights by number; what they answer -/
def WC (p q : Int) : Nat → Prop
  | 0 => p < 0
  | 1 => p = 0
  | 2 => 0 < p ∧ q = 0
  | 3 => 0 < p ∧ q ≠ 0 ∧ p = q
  | 4 => 0 < p ∧ q ≠ 0 ∧ q < p
  | 5 => 0 < p ∧ q ≠ 0 ∧ p < q
  | _ => False
def resC (a b : Nat) : Option D :=
  if a = 0 ∨ b = 0 ∨ ((a = 1 ∨ a = 2) ∧ (b = 1 ∨ b = 2)) ∨ (a = 3 ∧ b = 3) then some (some (0, 0))
  else if b = 1 ∨ b = 2 ∨ a = 3 then some (some (0, 1))
  else if b = 3 ∨ a = 1 ∨ a = 2 then (if (a = 2 ∨ a = 4) ↔ b ≠ 5 then some (some (1, 0)) else some (some (-1, 0)))
  else none
section
variable {p q bp bq : Int} (n1 : ¬ (p = 0 ∧ q = 0)) (n2 : ¬ (bp = 0 ∧ bq = 0)) (h1 : ¬ p < 0) (h2 : ¬ bp < 0)
include n1 n2 h1 h2
theorem s_z0 (z : bp = 0 ∨ bq = 0) (x : p = 0 ∨ q = 0) : Spec2 p q bp bq (some (some (0, 0))) := by
  unfold Spec2
  rw [if_neg (not_or.mpr ⟨n1, n2⟩), if_neg (not_or.mpr ⟨h1, h2⟩), if_neg (fun g => by rcases z with z | z <;> simp [z] at g), if_pos z, if_pos x]
theorem s_z1 (z : bp = 0 ∨ bq = 0) (x : ¬ (p = 0 ∨ q = 0)) : Spec2 p q bp bq (some (some (0, 1))) := by
  unfold Spec2
  rw [if_neg (not_or.mpr ⟨n1, n2⟩), if_neg (not_or.mpr ⟨h1, h2⟩), if_neg (fun g => by rcases z with z | z <;> simp [z] at g), if_pos z, if_neg x]
theorem s_o0 (g : bp = 1 ∧ bq = 1) (x : p = q) : Spec2 p q bp bq (some (some (0, 0))) := by
  unfold Spec2
  rw [if_neg (not_or.mpr ⟨n1, n2⟩), if_neg (not_or.mpr ⟨h1, h2⟩), if_pos g, if_pos x]
theorem s_o1 (g : bp = 1 ∧ bq = 1) (e : p ≠ q) (x : q = 0 ∨ (p ≠ 0 ∧ q < p)) : Spec2 p q bp bq (some (some (1, 0))) := by
  unfold Spec2
  rw [if_neg (not_or.mpr ⟨n1, n2⟩), if_neg (not_or.mpr ⟨h1, h2⟩), if_pos g, if_neg e, if_pos x]
theorem s_o2 (g : bp = 1 ∧ bq = 1) (e : p ≠ q) (x : ¬ (q = 0 ∨ (p ≠ 0 ∧ q < p))) : Spec2 p q bp bq (some (some (-1, 0))) := by
  unfold Spec2
  rw [if_neg (not_or.mpr ⟨n1, n2⟩), if_neg (not_or.mpr ⟨h1, h2⟩), if_pos g, if_neg e, if_neg x]
theorem s_f (g : ¬ (bp = 1 ∧ bq = 1)) (z : ¬ (bp = 0 ∨ bq = 0)) {r : Int × Int} (x : (q = 0 ∧ r = (if bq < bp then 1 else -1, 0)) ∨ (q ≠ 0 ∧ p = 0 ∧ r = (if bq < bp then -1 else 1, 0)) ∨ (q ≠ 0 ∧ p ≠ 0 ∧ p = q ∧ r = (0, 1))) : Spec2 p q bp bq (some (some r)) := by
  unfold Spec2
  rw [if_neg (not_or.mpr ⟨n1, n2⟩), if_neg (not_or.mpr ⟨h1, h2⟩), if_neg g, if_neg z]
  rcases x with ⟨x, e⟩ | ⟨x, y, e⟩ | ⟨x, y, v, e⟩
  · rw [if_pos x, e]
  · rw [if_neg x, if_pos y, e]
  · rw [if_neg x, if_neg y, if_pos v, e]
end
theorem WC.nn {p q : Int} {c : Nat} (h : WC p q (c + 1)) : ¬ p < 0 := by
  rcases c with _ | _ | _ | _ | _ | c
  · have h : p = 0 := h
    (first | lia | omega)
  · exact Int.not_lt.mpr (Int.le_of_lt h.1)
  · exact Int.not_lt.mpr (Int.le_of_lt h.1)
  · exact Int.not_lt.mpr (Int.le_of_lt h.1)
  · exact Int.not_lt.mpr (Int.le_of_lt h.1)
  · exact h.elim
theorem spec_end {p q bp bq : Int} {a b : Nat} {r : D} (hb : Ent2 bp bq) (n1 : ¬ (p = 0 ∧ q = 0)) (n2 : ¬ (bp = 0 ∧ bq = 0)) (h1 : WC p q a) (h2 : WC bp bq b) (e : resC a b = some r) : Spec2 p q bp bq (some r) := by
  rcases a with _ | a
  · have e : r = some (0, 0) := by
      unfold resC at e; rw [if_pos (.inl rfl)] at e; exact (Option.some.inj e).symm
    rw [e]; exact lb_neg n1 n2 (.inl h1)
  rcases b with _ | b
  · have e : r = some (0, 0) := by
      unfold resC at e; rw [if_pos (.inr (.inl rfl))] at e; exact (Option.some.inj e).symm
    rw [e]; exact lb_neg n1 n2 (.inr h2)
  have m1 := h1.nn
  have m2 := h2.nn
  rcases b with _ | _ | _ | _ | _ | b
  rotate_right
  · exact h2.elim
  · have h2 : bp = 0 := h2
    rcases a with _ | _ | _ | _ | _ | a
    · obtain rfl := Option.some.inj (show some _ = some r from e); exact s_z0 n1 n2 m1 m2 (.inl h2) (.inl h1)
    · obtain rfl := Option.some.inj (show some _ = some r from e); exact s_z0 n1 n2 m1 m2 (.inl h2) (.inr h1.2)
    · obtain rfl := Option.some.inj (show some _ = some r from e); exact s_z1 n1 n2 m1 m2 (.inl h2) (not_or.mpr ⟨Int.ne_of_gt h1.1, h1.2.1⟩)
    · obtain rfl := Option.some.inj (show some _ = some r from e); exact s_z1 n1 n2 m1 m2 (.inl h2) (not_or.mpr ⟨Int.ne_of_gt h1.1, h1.2.1⟩)
    · obtain rfl := Option.some.inj (show some _ = some r from e); exact s_z1 n1 n2 m1 m2 (.inl h2) (not_or.mpr ⟨Int.ne_of_gt h1.1, h1.2.1⟩)
    · exact h1.elim
  · have h2 : bq = 0 := h2.2
    rcases a with _ | _ | _ | _ | _ | a
    · obtain rfl := Option.some.inj (show some _ = some r from e); exact s_z0 n1 n2 m1 m2 (.inr h2) (.inl h1)
    · obtain rfl := Option.some.inj (show some _ = some r from e); exact s_z0 n1 n2 m1 m2 (.inr h2) (.inr h1.2)
    · obtain rfl := Option.some.inj (show some _ = some r from e); exact s_z1 n1 n2 m1 m2 (.inr h2) (not_or.mpr ⟨Int.ne_of_gt h1.1, h1.2.1⟩)
    · obtain rfl := Option.some.inj (show some _ = some r from e); exact s_z1 n1 n2 m1 m2 (.inr h2) (not_or.mpr ⟨Int.ne_of_gt h1.1, h1.2.1⟩)
    · obtain rfl := Option.some.inj (show some _ = some r from e); exact s_z1 n1 n2 m1 m2 (.inr h2) (not_or.mpr ⟨Int.ne_of_gt h1.1, h1.2.1⟩)
    · exact h1.elim
  · have g1 : bp = 1 := by rcases (ent_f hb).2.2.2 h2.2.2 with h | h
                           · exact absurd h (Int.ne_of_gt h2.1)
                           · exact h
    have g : bp = 1 ∧ bq = 1 := ⟨g1, h2.2.2 ▸ g1⟩
    rcases a with _ | _ | _ | _ | _ | a
    · have hp : p = 0 := h1
      have hq : q ≠ 0 := fun h => n1 ⟨hp, h⟩
      obtain rfl := Option.some.inj (show some _ = some r from e); exact s_o2 n1 n2 m1 m2 g (fun h => hq (h ▸ hp)) (not_or.mpr ⟨hq, fun h => h.1 hp⟩)
    · obtain rfl := Option.some.inj (show some _ = some r from e); exact s_o1 n1 n2 m1 m2 g (fun h => absurd (h.trans h1.2) (Int.ne_of_gt h1.1)) (.inl h1.2)
    · obtain rfl := Option.some.inj (show some _ = some r from e); exact s_o0 n1 n2 m1 m2 g h1.2.2
    · obtain rfl := Option.some.inj (show some _ = some r from e); exact s_o1 n1 n2 m1 m2 g (Int.ne_of_gt h1.2.2) (.inr ⟨Int.ne_of_gt h1.1, h1.2.2⟩)
    · obtain rfl := Option.some.inj (show some _ = some r from e); exact s_o2 n1 n2 m1 m2 g (Int.ne_of_lt h1.2.2) (not_or.mpr ⟨h1.2.1, fun h => absurd h.2 (Int.not_lt.mpr (Int.le_of_lt h1.2.2))⟩)
    · exact h1.elim
  · have g : ¬ (bp = 1 ∧ bq = 1) := fun h => absurd (h.1.trans h.2.symm) (Int.ne_of_gt h2.2.2)
    have z : ¬ (bp = 0 ∨ bq = 0) := not_or.mpr ⟨Int.ne_of_gt h2.1, h2.2.1⟩
    rcases a with _ | _ | _ | _ | _ | a
    · have hp : p = 0 := h1
      obtain rfl := Option.some.inj (show some _ = some r from e); exact s_f n1 n2 m1 m2 g z (.inr (.inl ⟨fun h => n1 ⟨hp, h⟩, hp, by rw [if_pos h2.2.2]⟩))
    · obtain rfl := Option.some.inj (show some _ = some r from e); exact s_f n1 n2 m1 m2 g z (.inl ⟨h1.2, by rw [if_pos h2.2.2]⟩)
    · obtain rfl := Option.some.inj (show some _ = some r from e); exact s_f n1 n2 m1 m2 g z (.inr (.inr ⟨h1.2.1, Int.ne_of_gt h1.1, h1.2.2, rfl⟩))
    · exact nomatch (show (none : Option D) = some r from e)
    · exact nomatch (show (none : Option D) = some r from e)
    · exact h1.elim
  · have g : ¬ (bp = 1 ∧ bq = 1) := fun h => absurd (h.1.trans h.2.symm) (Int.ne_of_lt h2.2.2)
    have z : ¬ (bp = 0 ∨ bq = 0) := not_or.mpr ⟨Int.ne_of_gt h2.1, h2.2.1⟩
    have w : ¬ bq < bp := Int.not_lt.mpr (Int.le_of_lt h2.2.2)
    rcases a with _ | _ | _ | _ | _ | a
    · have hp : p = 0 := h1
      obtain rfl := Option.some.inj (show some _ = some r from e); exact s_f n1 n2 m1 m2 g z (.inr (.inl ⟨fun h => n1 ⟨hp, h⟩, hp, by rw [if_neg w]⟩))
    · obtain rfl := Option.some.inj (show some _ = some r from e); exact s_f n1 n2 m1 m2 g z (.inl ⟨h1.2, by rw [if_neg w]⟩)
    · obtain rfl := Option.some.inj (show some _ = some r from e); exact s_f n1 n2 m1 m2 g z (.inr (.inr ⟨h1.2.1, Int.ne_of_gt h1.1, h1.2.2, rfl⟩))
    · exact nomatch (show (none : Option D) = some r from e)
    · exact nomatch (show (none : Option D) = some r from e)
    · exact h1.elim
def Weigh (p q : Int) (m : Str) : Prop := (p < 0 ∧ m = S "none") ∨ (p = 0 ∧ m = S "low") ∨ (0 < p ∧ q = 0 ∧ m = S "high") ∨ (0 < p ∧ q ≠ 0 ∧ p = q ∧ m = S "nought") ∨ (0 < p ∧ q ≠ 0 ∧ q < p ∧ m = S "above") ∨ (0 < p ∧ q ≠ 0 ∧ p < q ∧ m = S "below")
def wordOf : Nat → Str
  | 0 => S "none"
  | 1 => S "low"
  | 2 => S "high"
  | 3 => S "nought"
  | 4 => S "above"
  | _ => S "below"
theorem Weigh.code {p q : Int} {m : Str} (h : Weigh p q m) : ∃ c : Fin 6, m = wordOf c ∧ WC p q c := by
  rcases h with ⟨h, e⟩ | ⟨h, e⟩ | ⟨h, h2, e⟩ | ⟨h, h2, h3, e⟩ | ⟨h, h2, h3, e⟩ | ⟨h, h2, h3, e⟩
  · exact ⟨0, e, h⟩
  · exact ⟨1, e, h⟩
  · exact ⟨2, e, h, h2⟩
  · exact ⟨3, e, h, h2, h3⟩
  · exact ⟨4, e, h, h2, h3⟩
  · exact ⟨5, e, h, h2, h3⟩
section
variable {p q bp bq : Int} {m₁ m₂ : Str}
abbrev isNo (m₁ m₂ : Str) : Bool := [m₁, m₂].any fun x => x == S "none"
abbrev isLH (m : Str) : Bool := [S "low", S "high"].any fun x => x == m
abbrev isUp (m₁ m₂ : Str) : Bool := ([S "high", S "above"].any fun x => x == m₁) == (m₂ != S "below")
theorem q_no (hb : Ent2 bp bq) (n1 : ¬ (p = 0 ∧ q = 0)) (n2 : ¬ (bp = 0 ∧ bq = 0)) (w1 : Weigh p q m₁) (w2 : Weigh bp bq m₂) (h : isNo m₁ m₂ = true) : Spec2 p q bp bq (some (some (0, 0))) := by
  obtain ⟨a, rfl, wa⟩ := w1.code
  obtain ⟨b, rfl, wb⟩ := w2.code
  exact spec_end hb n1 n2 wa wb ((by decide +kernel : ∀ a b : Fin 6, isNo (wordOf a) (wordOf b) = true → resC a b = some (some (0, 0))) a b h)
theorem q_lh (hb : Ent2 bp bq) (n1 : ¬ (p = 0 ∧ q = 0)) (n2 : ¬ (bp = 0 ∧ bq = 0)) (w1 : Weigh p q m₁) (w2 : Weigh bp bq m₂) (h : isNo m₁ m₂ = false) (h1 : isLH m₁ = true) (h2 : isLH m₂ = true) : Spec2 p q bp bq (some (some (0, 0))) := by
  obtain ⟨a, rfl, wa⟩ := w1.code
  obtain ⟨b, rfl, wb⟩ := w2.code
  exact spec_end hb n1 n2 wa wb ((by decide +kernel : ∀ a b : Fin 6, isNo (wordOf a) (wordOf b) = false → isLH (wordOf a) = true → isLH (wordOf b) = true → resC a b = some (some (0, 0))) a b h h1 h2)
theorem q_nn (hb : Ent2 bp bq) (n1 : ¬ (p = 0 ∧ q = 0)) (n2 : ¬ (bp = 0 ∧ bq = 0)) (w1 : Weigh p q m₁) (w2 : Weigh bp bq m₂) (h : isNo m₁ m₂ = false) (h1 : (m₁ == S "nought") = true) (h2 : (m₂ == S "nought") = true) : Spec2 p q bp bq (some (some (0, 0))) := by
  obtain ⟨a, rfl, wa⟩ := w1.code
  obtain ⟨b, rfl, wb⟩ := w2.code
  exact spec_end hb n1 n2 wa wb ((by decide +kernel : ∀ a b : Fin 6, isNo (wordOf a) (wordOf b) = false → (wordOf a == S "nought") = true → (wordOf b == S "nought") = true → resC a b = some (some (0, 0))) a b h h1 h2)
theorem q_n1 (hb : Ent2 bp bq) (n1 : ¬ (p = 0 ∧ q = 0)) (n2 : ¬ (bp = 0 ∧ bq = 0)) (w1 : Weigh p q m₁) (w2 : Weigh bp bq m₂) (h : isNo m₁ m₂ = false) (h1 : (m₁ == S "nought") = true) (h2 : (m₂ == S "nought") = false) : Spec2 p q bp bq (some (some (0, 1))) := by
  obtain ⟨a, rfl, wa⟩ := w1.code
  obtain ⟨b, rfl, wb⟩ := w2.code
  exact spec_end hb n1 n2 wa wb ((by decide +kernel : ∀ a b : Fin 6, isNo (wordOf a) (wordOf b) = false → (wordOf a == S "nought") = true → (wordOf b == S "nought") = false → resC a b = some (some (0, 1))) a b h h1 h2)
theorem q_l2 (hb : Ent2 bp bq) (n1 : ¬ (p = 0 ∧ q = 0)) (n2 : ¬ (bp = 0 ∧ bq = 0)) (w1 : Weigh p q m₁) (w2 : Weigh bp bq m₂) (h : isNo m₁ m₂ = false) (h1 : isLH m₁ = false) (h2 : isLH m₂ = true) : Spec2 p q bp bq (some (some (0, 1))) := by
  obtain ⟨a, rfl, wa⟩ := w1.code
  obtain ⟨b, rfl, wb⟩ := w2.code
  exact spec_end hb n1 n2 wa wb ((by decide +kernel : ∀ a b : Fin 6, isNo (wordOf a) (wordOf b) = false → isLH (wordOf a) = false → isLH (wordOf b) = true → resC a b = some (some (0, 1))) a b h h1 h2)
theorem q_u1 (hb : Ent2 bp bq) (n1 : ¬ (p = 0 ∧ q = 0)) (n2 : ¬ (bp = 0 ∧ bq = 0)) (w1 : Weigh p q m₁) (w2 : Weigh bp bq m₂) (h : isNo m₁ m₂ = false) (h2 : isLH m₂ = false) (h1 : (m₁ == S "nought") = false) (h3 : (m₂ == S "nought") = true ∨ isLH m₁ = true) (h4 : isUp m₁ m₂ = true) : Spec2 p q bp bq (some (some (1, 0))) := by
  obtain ⟨a, rfl, wa⟩ := w1.code
  obtain ⟨b, rfl, wb⟩ := w2.code
  exact spec_end hb n1 n2 wa wb ((by decide +kernel : ∀ a b : Fin 6, isNo (wordOf a) (wordOf b) = false → isLH (wordOf b) = false → (wordOf a == S "nought") = false → ((wordOf b == S "nought") = true ∨ isLH (wordOf a) = true) → isUp (wordOf a) (wordOf b) = true → resC a b = some (some (1, 0))) a b h h2 h1 h3 h4)
theorem q_u0 (hb : Ent2 bp bq) (n1 : ¬ (p = 0 ∧ q = 0)) (n2 : ¬ (bp = 0 ∧ bq = 0)) (w1 : Weigh p q m₁) (w2 : Weigh bp bq m₂) (h : isNo m₁ m₂ = false) (h2 : isLH m₂ = false) (h1 : (m₁ == S "nought") = false) (h3 : (m₂ == S "nought") = true ∨ isLH m₁ = true) (h4 : isUp m₁ m₂ = false) : Spec2 p q bp bq (some (some (-1, 0))) := by
  obtain ⟨a, rfl, wa⟩ := w1.code
  obtain ⟨b, rfl, wb⟩ := w2.code
  exact spec_end hb n1 n2 wa wb ((by decide +kernel : ∀ a b : Fin 6, isNo (wordOf a) (wordOf b) = false → isLH (wordOf b) = false → (wordOf a == S "nought") = false → ((wordOf b == S "nought") = true ∨ isLH (wordOf a) = true) → isUp (wordOf a) (wordOf b) = false → resC a b = some (some (-1, 0))) a b h h2 h1 h3 h4)
theorem q_num (hb : Ent2 bp bq) (w2 : Weigh bp bq m₂) (h : isNo m₁ m₂ = false) (h2 : isLH m₂ = false) : (0 < bp ∧ bp < 65536) ∧ (0 < bq ∧ bq < 65536) := by
  obtain ⟨b, rfl, wb⟩ := w2.code
  have h := Bool.eq_false_iff.mp h
  simp only [isNo, List.any_cons, List.any_nil, Bool.or_false, ne_eq, Bool.or_eq_true, not_or] at h
  have e := (by decide +kernel : ∀ b : Fin 6, ¬ (wordOf b == S "none") = true → isLH (wordOf b) = false → b = 3 ∨ b = 4 ∨ b = 5) b h.2 h2
  rcases e with rfl | rfl | rfl
  · exact ent_b hb wb.1 wb.2.1
  · exact ent_b hb wb.1 wb.2.1
  · exact ent_b hb wb.1 wb.2.1
/-- what the search knows -/
theorem q_far (hx : Ent2 p q) (hb : Ent2 bp bq) (w1 : Weigh p q m₁) (w2 : Weigh bp bq m₂) (h : isNo m₁ m₂ = false) (h1 : isLH m₁ = false) (h2 : isLH m₂ = false) (h3 : (m₁ == S "nought") = false) (h4 : (m₂ == S "nought") = false) : ((0 < p ∧ p < 65536) ∧ (0 < q ∧ q < 65536) ∧ p ≠ q) ∧ (0 < bp ∧ bp < 65536) ∧ (0 < bq ∧ bq < 65536) ∧ bp ≠ bq := by
  obtain ⟨a, rfl, wa⟩ := w1.code
  obtain ⟨b, rfl, wb⟩ := w2.code
  obtain ⟨e1, e2⟩ := (by decide +kernel : ∀ a b : Fin 6, isNo (wordOf a) (wordOf b) = false → isLH (wordOf a) = false → isLH (wordOf b) = false → (wordOf a == S "nought") = false → (wordOf b == S "nought") = false → (a = 4 ∨ a = 5) ∧ (b = 4 ∨ b = 5)) a b h h1 h2 h3 h4
  have k : ∀ {x y : Int} {c : Fin 6}, Ent2 x y → WC x y c → (c = 4 ∨ c = 5) → (0 < x ∧ x < 65536) ∧ (0 < y ∧ y < 65536) ∧ x ≠ y := fun {x y c} he hw hc => by
    rcases hc with rfl | rfl
    · have := ent_b he hw.1 hw.2.1; exact ⟨this.1, this.2, Int.ne_of_gt hw.2.2⟩
    · have := ent_b he hw.1 hw.2.1; exact ⟨this.1, this.2, Int.ne_of_lt hw.2.2⟩
  exact ⟨k hx wa e1, k hb wb e2⟩
theorem q_hit {k : Int} (hx : Ent2 p q) (hb : Ent2 bp bq) (w1 : Weigh p q m₁) (w2 : Weigh bp bq m₂) (h : isNo m₁ m₂ = false) (h1 : isLH m₁ = false) (h2 : isLH m₂ = false) (h3 : (m₁ == S "nought") = false) (h4 : (m₂ == S "nought") = false) (hk : (powD (bp, bq) k).1 = p ∧ (powD (bp, bq) k).2 = q) : Spec2 p q bp bq (some (some (k, 1))) := by
  have f := q_far hx hb w1 w2 h h1 h2 h3 h4
  unfold Spec2
  rw [if_neg (by (first | lia | omega)), if_neg (by (first | lia | omega)), if_neg (by (first | lia | omega)), if_neg (by (first | lia | omega)), if_neg (by (first | lia | omega)), if_neg (by (first | lia | omega)), if_neg (by (first | lia | omega))]
  exact .inl ⟨k, rfl, search_hit hk⟩
theorem q_miss (hx : Ent2 p q) (hb : Ent2 bp bq) (w1 : Weigh p q m₁) (w2 : Weigh bp bq m₂) (h : isNo m₁ m₂ = false) (h1 : isLH m₁ = false) (h2 : isLH m₂ = false) (h3 : (m₁ == S "nought") = false) (h4 : (m₂ == S "nought") = false) (hk : ∀ v ∈ rangeKs (-16) (17 - -16 : Int).toNat, (p, q) ≠ powD (bp, bq) v) : Spec2 p q bp bq none := by
  have f := q_far hx hb w1 w2 h h1 h2 h3 h4
  unfold Spec2
  rw [if_neg (by (first | lia | omega)), if_neg (by (first | lia | omega)), if_neg (by (first | lia | omega)), if_neg (by (first | lia | omega)), if_neg (by (first | lia | omega)), if_neg (by (first | lia | omega)), if_neg (by (first | lia | omega))]
  exact .inr ⟨rfl, search_end hk f.1.1 f.1.2.1 f.2.1.1 f.2.2.1.1 f.2.2.2⟩
theorem q_nan (h : (p = 0 ∧ q = 0) ∨ (bp = 0 ∧ bq = 0)) : Spec2 p q bp bq (some (some (0, 0))) := by
  unfold Spec2; rw [if_pos h]
end
theorem said_20 : True := by
  (k_with "mine num" => first | exact (q_num (by assumption) (by assumption) (by assumption) (by assumption)).1 | exact (q_num (by assumption) (by assumption) (by assumption) (by assumption)).2)
  (k_with "call ref" => (k_here; (with_reducible show wpAny _ _ (call (Value.ref 679) [_, _]) _ _ _); (refine' c_power ?X ?T ?v ?r ?u ?p1_r47 ?p2_r47 ?p3_r47 ?_); walk_at "mine args"; (case p1_r47 => walk_at "mine num"); (case p2_r47 => walk_at "mine num"); (case p3_r47 => walk_at "mine num"); intro r' h' tk' ks dr; (obtain ⟨a8, t8, t9, e8, dr⟩ := dr); (subst e8); (try dsimp only at dr); walk_at "mine after"))
  trivial
theorem c_weight {v : Value} {p q : Int} 
   (X : (hd.heap_1 w.params).In s.heap) (T : Top pv loose mean mg mb s.heap) (hv : DAt s.heap v (some (p, q))) (hr : dp + 2 < recursionLimit) (hu : un + 100 < cLine)
   (k : ∀ m, Weigh p q m → ∀ h' tk t, s.heap.StaysIn h' → Q (.str m t) { s with heap := h', toks := tk }) :
   wpAny (model PG w) (ar dp fr gd un) (call (.ref 693) [v]) Q E s := by
  have am9 : AimHere := trivial
  refine wpAny_call ?_
  refine' code_pure (binds := [(S "x", v)]) ?k1 ?k2 ?k6 ?k7 ?k8 ?k9 ?kB ?_ ?c2 ?c3 ?c4 ?c5
  walk_at "mine enter"
  obtain ⟨a, t1, t2, rfl, ha⟩ := hv
  dsimp only at ha
  w_top off
  w_strict (k_steps; (all_goals (try k_data)))
  all_goals (try dsimp only)
  all_goals (refine k _ ?_ _ _ _ (mnKeep (by assumption)); unfold Weigh)
  all_goals first | exact .inl ⟨by (first | lia | omega), rfl⟩ | exact .inr (.inl ⟨by (first | lia | omega), rfl⟩) | exact .inr (.inr (.inl ⟨by (first | lia | omega), by (first | lia | omega), rfl⟩)) | exact .inr (.inr (.inr (.inl ⟨by (first | lia | omega), by (first | lia | omega), by (first | lia | omega), rfl⟩))) | exact .inr (.inr (.inr (.inr (.inl ⟨by (first | lia | omega), by (first | lia | omega), by (first | lia | omega), rfl⟩)))) | exact .inr (.inr (.inr (.inr (.inr ⟨by (first | lia | omega), by (first | lia | omega), by (first | lia | omega), rfl⟩))))
theorem said_21 : True := by
  (k_with "call ref" => (k_here; (with_reducible show wpAny _ _ (call (Value.ref 693) [_]) _ _ _); (refine' c_weight ?X ?T ?v ?r ?u ?_); walk_at "mine args"; intro m9 hm9 h' tk' t' ks; walk_at "mine after"))
  (k_with "mine send" => first | exact q_no (by assumption) (by assumption) (by assumption) (by assumption) (by assumption) (by assumption) | exact q_lh (by assumption) (by assumption) (by assumption) (by assumption) (by assumption) (by assumption) (by assumption) (by assumption) | exact q_nn (by assumption) (by assumption) (by assumption) (by assumption) (by assumption) (by assumption) (by assumption) (by assumption) | exact q_n1 (by assumption) (by assumption) (by assumption) (by assumption) (by assumption) (by assumption) (by assumption) (by assumption) | exact q_l2 (by assumption) (by assumption) (by assumption) (by assumption) (by assumption) (by assumption) (by assumption) (by assumption) | exact q_u1 (by assumption) (by assumption) (by assumption) (by assumption) (by assumption) (by assumption) (by assumption) (by assumption) (by first | exact .inl (by assumption) | exact .inr (by assumption)) (by assumption) | exact q_u0 (by assumption) (by assumption) (by assumption) (by assumption) (by assumption) (by assumption) (by assumption) (by assumption) (by first | exact .inl (by assumption) | exact .inr (by assumption)) (by assumption) | exact q_hit (by assumption) (by assumption) (by assumption) (by assumption) (by assumption) (by assumption) (by assumption) (by assumption) (by assumption) (by assumption) | exact q_nan (.inl (by assumption)) | exact q_nan (.inr (by assumption)))
  (k_with "mine word" => exact List.forall_mem_nil _)
  trivial
theorem c_quot {v v₂ : Value} {p q bp bq : Int} 
   (X : (hd.heap_1 w.params).In s.heap) (T : Top pv loose mean mg mb s.heap) (hv : DAt s.heap v (some (p, q))) (hv₂ : DAt s.heap v₂ (some (bp, bq))) (hr : dp + 10 < recursionLimit) (hu : un + 300 < cLine)
   (hx : Ent2 p q) (hb : Ent2 bp bq)
   (k : ∀ r : Option D, Spec2 p q bp bq r → RetO s Q r) :
   wpAny (model PG w) (ar dp fr gd un) (call (.ref 700) [v, v₂]) Q E s := by
  have am9 : AimHere := trivial
  refine wpAny_call ?_
  refine' code_pure (binds := [(S "x", v), (S "other", v₂)]) ?k1 ?k2 ?k6 ?k7 ?k8 ?k9 ?kB ?_ ?c2 ?c3 ?c4 ?c5
  walk_at "mine enter"
  obtain ⟨a, t1, t2, rfl, ha⟩ := hv
  obtain ⟨b, t3, t4, rfl, hb'⟩ := hv₂
  dsimp only at ha hb'
  have wd : WordIs (fun pre => ∀ v ∈ pre, (p, q) ≠ powD (bp, bq) v) := trivial
  w_top off
  w_strict (k_steps; (all_goals (try k_data)))
  all_goals (try (refine Aft.go (by assumption) ?_))
  all_goals (try dsimp only [TurnPost])
  all_goals first
    | exact ⟨_, _, _, rfl, by assumption, by assumption, fun z hz => if_neg hz, search_turn (by assumption) (by assumption)⟩
    | (refine k (some _) ?_ _ _ _ (mnKeep (by assumption)) (DAt.some (by walk_at "mine tup")); walk_at "mine send")
    | (refine k none ?_ _ _ _ (mnKeep (by assumption)) ⟨_, rfl⟩; exact q_miss hx hb (by assumption) (by assumption) (by assumption) (by assumption) (by assumption) (by assumption) (by assumption) (by assumption))
end

section
variable {w : World} {dp un : Nat} {fr : Option (List Env)} {gd : Option (List Code)} {s : Shared} {Q E : Value → Shared → Prop} {pv : Program} {loose : List Str} {mean : ExcName → Option Value} {mg mb : Str → Option Value}
theorem c_quot_na {v v₂ : Value} {x b : D} 
   (X : (hd.heap_1 w.params).In s.heap) (T : Top pv loose mean mg mb s.heap) (hv : DAt s.heap v x) (hv₂ : DAt s.heap v₂ b) (hr : dp + 10 < recursionLimit) (hu : un + 300 < cLine)
   (hx : x = none ∨ b = none)
   (k : RetD s Q none) :
   wpAny (model PG w) (ar dp fr gd un) (call (.ref 700) [v, v₂]) Q E s := by
  refine wpAny_call ?_
  refine' code_pure (binds := [(S "x", v), (S "other", v₂)]) ?k1 ?k2 ?k6 ?k7 ?k8 ?k9 ?kB ?_ ?c2 ?c3 ?c4 ?c5
  walk_at "mine enter"
  rcases x with _ | ⟨p, q⟩
  · cases hv
    w_top off
    w_strict (k_steps; (all_goals (try k_data)))
    all_goals (try dsimp only)
    all_goals (refine' mnDN k ?k1 rfl; (case k1 => assumption))
  · rcases b with _ | _
    · obtain ⟨a, t1, t2, rfl, ha⟩ := hv
      cases hv₂
      w_strict (k_steps; (all_goals (try k_data)))
      all_goals (try dsimp only)
      all_goals (refine' mnDN k ?k1 rfl; (case k1 => assumption))
    · simp at hx
theorem c_lq {v v₂ : Value} {x b : D} 
   (X : (hd.heap_1 w.params).In s.heap) (T : Top pv loose mean mg mb s.heap) (hv : DAt s.heap v x) (hv₂ : DAt s.heap v₂ b) (hr : dp + 10 < recursionLimit) (hu : un + 300 < cLine)
   (hx : Ent x) (hb : Ent b)
   (k : ∀ r : Option D, Spec x b r → RetO s Q r) :
   wpAny (model PG w) (ar dp fr gd un) (call (.ref 700) [v, v₂]) Q E s := by
  rcases x with _ | ⟨p, q⟩
  · exact c_quot_na X T hv hv₂ hr hu (.inl rfl) (fun r h' tk ks d => k (some none) rfl r h' tk ks d)
  · rcases b with _ | ⟨bp, bq⟩
    · exact c_quot_na X T hv hv₂ hr hu (.inr rfl) (fun r h' tk ks d => k (some none) rfl r h' tk ks d)
    · exact c_quot X T hv hv₂ hr hu hx hb k
end

section
variable {h₀ h h' : Heap} {L₀ L c : Addr} {m₀ m' : Str → Option Value} {news l : List (Addr × Obj)} {o o' : Obj} {g : Obj → List (Addr × Obj)}
theorem hole_in (F : Fr h₀ L₀ h m₀) (N : News h₀ L₀ h news) (U : UpdF c o news g) : h₀.StaysIn (hideAll h [c]) ∧ h.get? c = some o ∧ c ≠ L₀ := by
  obtain ⟨pre, post, rfl, hg, h1, h2⟩ := U.split
  have hm := N (c, o) (List.mem_append_right _ (.head _))
  refine ⟨fun b ob e => hideAll_get _ (F.keep b ob e) fun q => ?_, hm.1, hm.2.1⟩
  rw [List.mem_singleton.mp q, hm.2.2] at e; cases e
theorem hole_back (F : Fr h₀ L₀ h m₀) (N : News h₀ L₀ h news) (U : UpdF c o news g) (F' : Fr (hideAll h [c]) L h' m') (ho : h'.get? c = some o') : Fr h₀ L₀ h' m₀ ∧ News h₀ L₀ h' (g o') := by
  obtain ⟨st, hc, hcL⟩ := hole_in F N U
  obtain ⟨pre, post, rfl, hg, h1, h2⟩ := U.split
  obtain ⟨oL, es, ep, hL, hLd, hLk, hLf⟩ := F.ns
  have kp : ∀ b ob, b ≠ c → h.get? b = some ob → h'.get? b = some ob := fun b ob hb e => F'.keep _ _ (hideAll_get _ e fun q => hb (List.mem_singleton.mp q))
  refine ⟨⟨⟨oL, es, ep, kp _ _ (Ne.symm hcL) hL, hLd, hLk, hLf⟩, fun b ob e => F'.keep _ _ (st _ _ e), F.above⟩, ?_⟩
  rw [hg]
  intro p hp
  rcases List.mem_append.mp hp with hp | hp
  · have := N p (List.mem_append_left _ hp)
    exact ⟨kp _ _ (h1 p hp) this.1, this.2⟩
  · rcases List.mem_cons.mp hp with rfl | hp
    · have := N (c, o) (List.mem_append_right _ (.head _))
      exact ⟨ho, this.2⟩
    · have := N p (List.mem_append_right _ (.tail _ hp))
      exact ⟨kp _ _ (h2 p hp) this.1, this.2⟩
end
theorem code_hole {prog : Program} {w : World} {A : Around} {s : Shared} {K : Frag} {R : Result → Shared → Prop} {name qual : Str} {params : Arguments} {body : List Stmt} {scope : Scope} {dV kV doc pm cdv ct oc : Value} {an od : Option Addr} {osl : Array (Option Value)} {f : Addr} {args : Args} {binds : List (Str × Value)} {c : Addr} {o : Obj}
    (X : K.In (hideAll s.heap [c])) (hlim : s.heap.NoLimit) (hc : s.heap.get? c = some o)
    (ho : K.lookup f = some ⟨oc, od, .func (fnOf name qual params body scope dV kV doc pm an cdv ct), osl⟩) (hcd : codeIn K cdv qual = true) (hroom : A.depth < recursionLimit)
    (hbind : BindsTo s (fnOf name qual params body scope dV kV doc pm an cdv ct) args binds) (hloc : ∀ y ∈ binds, scope.names.lookup y.1 = some .local)
    (h : ∀ L h₁, L = s.heap.objs.size → Fr (hideAll s.heap [c]) L h₁ (fun y => binds.reverse.lookup y) → News (hideAll s.heap [c]) L h₁ [(c, o)] →
      wpAny (model prog w) (A.deeper (envOf qual scope L f cdv)) (execs body (envOf qual scope L f cdv))
        (fun fl s' => R (.ok (.ret (match fl with | .ret v => v | _ => .none))) s')
        (fun _ _ => False)
        { s with heap := h₁, toks := s.toks + binds.length })
    (hco : scope.isCoroutine = false) (hgen : scope.isGenerator = false) (hk : scope.kind = .function)
    (hcell : ∀ x ∈ scope.names, x.2 ≠ .cell) : codeAny (model prog w) A (.call (.ref f) args) R s := by
  refine codeAny_call_def (fd := fnOf name qual params body scope dV kV doc pm an cdv ct) (body := body) (binds := binds) hroom (of_hideAll _ (X _ _ ho)) rfl hlim (codeRec_of (fun a ob e => of_hideAll _ (X a ob e)) hcd) rfl hbind hcell hloc (fun h₁ hns hk₁ => ?_) hco hgen hk
  refine wpAny_mono (h s.heap.objs.size h₁ rfl ⟨hns, fun b ob e => hk₁ _ _ (of_hideAll _ e), Nat.le_of_eq (hideAll_size _ _)⟩ ?_) (fun _ _ x => x) (fun _ _ x => x.elim)
  intro p hp
  rw [List.mem_singleton.mp hp]
  exact ⟨hk₁ _ _ hc, Nat.ne_of_lt (Heap.lt_size hc), hideAll_none _ (.head _)⟩
section
variable {w : World} {dp un : Nat} {fr : Option (List Env)} {gd : Option (List Code)} {s : Shared} {Q E : Value → Shared → Prop} {pv : Program} {loose : List Str} {mean : ExcName → Option Value} {mg mb : Str → Option Value} {h₀ : Heap} {L₀ : Addr} {m₀ : Str → Option Value} {news : List (Addr × Obj)} {g : Obj → List (Addr × Obj)}
theorem said_22 : True := by
  (k_with "mine enterH" => ((case k1 => assumption); (case k2 => assumption); (case k3 => assumption); (case k6 => k_is); (case k7 => k_is); (case k8 => walk_at "mine room"); (case k9 => exact BindsTo.of_eq rfl); (case c5 => decide); (case kB => exact locs rfl); (case c2 => exact rfl); (case c3 => exact rfl); (case c4 => exact rfl)))
  trivial
theorem pop_ne {us : List Value} {l : List Int} (hi : IntsAre us l) (h : decide (l = []) = false) : 0 < us.length := by
  rw [hi.length]
  cases l with
  | nil => simp at h
  | cons => simp
theorem said_23 : True := by
  (k_with "call builtin:list.pop" => (k_here; (with_reducible show wpAny _ _ (call (Value.builtin _) [Value.ref _]) _ _ _); k_dflt (refine' kpa_pop ?F_r52 ?N_r52 ?U_r52 ?i_r52 ?l_r52 ?z_r52 ?_; (case F_r52 => k_asm); (case N_r52 => k_asm); (case U_r52 => k_upd); (case i_r52 => with_reducible assumption); (case l_r52 => exact pop_ne (by assumption) (by assumption)); (case z_r52 => (rw [PySem.sizeLine_eq]; omega))); (intro h' t' F' N' hI'; (try dsimp only [List.nil_append, List.cons_append] at N'))))
  trivial
theorem c_coin {c : Addr} {us : List Value} {l : List Int} {n : Nat} {many : Int} {t : Tok}
   (F₀ : Fr h₀ L₀ s.heap m₀) (N₀ : News h₀ L₀ s.heap news) (U : UpdF c (listOf us.toArray n) news g) (X₀ : (hd.heap_1 w.params).In h₀) (T₀ : Top pv loose mean mg mb h₀)
   (hi : IntsAre us l) (hlen : us.length ≤ 1000) (hm : 0 < many ∧ many < 1000) (hr : dp + 3 < recursionLimit) (hu : un + 100 < cLine)
   (k : ∀ r t h' tk us' l' n', 0 ≤ r → r < many → IntsAre us' l' → us'.length ≤ 1000 → Fr h₀ L₀ h' m₀ → News h₀ L₀ h' (g (listOf us'.toArray n')) → Q (.int r t) { s with heap := h', toks := tk }) :
   wpAny (model PG w) (ar dp fr gd un) (call (.ref 672) [.ref c, .int many t]) Q E s := by
  have am9 : AimHere := trivial
  obtain ⟨st, hc, hcL⟩ := hole_in F₀ N₀ U
  have X := X₀.keeps st
  have T := T₀.keeps st
  have hlim : s.heap.NoLimit := PyProof.Rows.Top.nolimit (T₀.keeps F₀.keep)
  refine wpAny_call ?_
  refine' code_hole (binds := [(S "coins", .ref c), (S "many", .int many t)]) ?k1 ?k2 ?k3 ?k6 ?k7 ?k8 ?k9 ?kB ?_ ?c2 ?c3 ?c4 ?c5
  walk_at "mine enterH"
  intro L h₁ hL F N
  have hl9 := hi.length
  w_top off
  w_strict (k_steps; (all_goals (try k_data)))
  all_goals (try dsimp only)
  all_goals (rename Fr _ _ _ _ => Fz; rename News _ _ _ _ => Nz)
  · obtain ⟨Fb, Nb⟩ := hole_back F₀ N₀ U Fz (Nz.get (o := listOf us.toArray n) (by k_mem))
    exact k _ _ _ _ us l n (by (first | lia | omega)) (by (first | lia | omega)) hi hlen Fb Nb
  · obtain ⟨Fb, Nb⟩ := hole_back F₀ N₀ U Fz (Nz.get (o := listOf us.dropLast.toArray (n + 1)) (by k_mem))
    refine k _ _ _ _ _ _ _ ?_ ?_ (by assumption) (by simp; (first | lia | omega)) Fb Nb
    · rw [Int.fmod_eq_emod_of_nonneg _ (by (first | lia | omega))]; exact Int.emod_nonneg _ (by (first | lia | omega))
    · rw [Int.fmod_eq_emod_of_nonneg _ (by (first | lia | omega))]; exact Int.emod_lt_of_pos _ (by (first | lia | omega))
end

theorem said_24 : True := by
  (k_with "call ref" => (k_here; (with_reducible show wpAny _ _ (call (Value.ref 672) [_, _]) _ _ _); k_dflt (refine' c_coin ?F_r53 ?N_r53 ?U_r53 ?X_r53 ?T_r53 ?i_r53 ?l_r53 ?m_r53 ?r_r53 ?u_r53 ?_; (case F_r53 => k_asm); (case N_r53 => k_asm); (case U_r53 => k_updF); (case X_r53 => assumption); (case T_r53 => assumption); (case i_r53 => assumption); (case l_r53 => assumption); (case m_r53 => omega); (case r_r53 => walk_at "mine room"); (case u_r53 => walk_at "mine room")); (intro r' t' h' tk' us' l' n' r0' r1' hi' hl' F' N'); (try dsimp only [List.nil_append, List.cons_append] at N'); (try k_sweep); (try k_fold)))
  trivial
def IsRoot (p q : Int) : Prop := (p = 2 ∧ q = 1) ∨ (p = 3 ∧ q = 2) ∨ (p = 1 ∧ q = 2) ∨ (p = 10 ∧ q = 1)
theorem IsRoot.small {p q : Int} (h : IsRoot p q) : (0 < p ∧ p < 65536) ∧ (0 < q ∧ q < 65536) := by unfold IsRoot at h; (first | lia | omega)
def rootOf : Fin 4 → Int × Int
  | 0 => (2, 1)
  | 1 => (3, 2)
  | 2 => (1, 2)
  | 3 => (10, 1)
theorem ent_pows : ∀ r : Fin 4, ∀ i : Fin 9, 0 < (powD (rootOf r) ((i.val : Int) - 4)).1 ∧ (powD (rootOf r) ((i.val : Int) - 4)).1 < 65536 ∧ 0 < (powD (rootOf r) ((i.val : Int) - 4)).2 ∧ (powD (rootOf r) ((i.val : Int) - 4)).2 < 65536 ∧ Int.gcd (powD (rootOf r) ((i.val : Int) - 4)).1 (powD (rootOf r) ((i.val : Int) - 4)).2 = 1 := by decide +kernel
theorem ent_pow {p q n : Int} (h : IsRoot p q) (h1 : -4 ≤ n) (h2 : n ≤ 4) : Ent2 (powD (p, q) n).1 (powD (p, q) n).2 := by
  obtain ⟨r, hr⟩ : ∃ r : Fin 4, (p, q) = rootOf r := by
    rcases h with ⟨rfl, rfl⟩ | ⟨rfl, rfl⟩ | ⟨rfl, rfl⟩ | ⟨rfl, rfl⟩
    · exact ⟨0, rfl⟩
    · exact ⟨1, rfl⟩
    · exact ⟨2, rfl⟩
    · exact ⟨3, rfl⟩
  have e : (((n + 4).toNat : Nat) : Int) - 4 = n := by (first | lia | omega)
  have k := ent_pows r ⟨(n + 4).toNat, by (first | lia | omega)⟩
  simp only [e, ← hr] at k
  exact .inr (.inr (.inr (.inr (.inr k))))
section
variable {w : World} {dp un : Nat} {fr : Option (List Env)} {gd : Option (List Code)} {s : Shared} {Q E : Value → Shared → Prop} {pv : Program} {loose : List Str} {mean : ExcName → Option Value} {mg mb : Str → Option Value} {h₀ : Heap} {L₀ : Addr} {m₀ : Str → Option Value} {news : List (Addr × Obj)} {g : Obj → List (Addr × Obj)}
theorem said_25 : True := by
  (k_with "mine num" => first | exact (IsRoot.small (by assumption)).1 | exact (IsRoot.small (by assumption)).2)
  trivial
theorem ledger_new {h₀ h h' : Heap} {L a : Addr} {m : Str → Option Value} {news : List (Addr × Obj)} {items : Array Value} (F : Fr h₀ L h m) (N : News h₀ L h news) (k : h.StaysIn h') (hf : h.get? a = none) (i : IsTup h' a items) : ∃ o, News h₀ L h' ((a, o) :: news) := by
  obtain ⟨o, ho, _⟩ := i
  obtain ⟨oL, es, ep, hL, _⟩ := F.ns
  refine ⟨o, fun p hp => ?_⟩
  rcases List.mem_cons.mp hp with rfl | hp
  · refine ⟨ho, fun q => ?_, ?_⟩
    · have q : a = L := q
      rw [q, hL] at hf; cases hf
    · show h₀.get? a = none
      cases q : h₀.get? a with
      | none => rfl
      | some o' => rw [F.keep _ _ q] at hf; cases hf
  · exact ⟨k _ _ (N p hp).1, (N p hp).2⟩
theorem ledger_ne {h₀ h : Heap} {L a c : Addr} {o : Obj} {news : List (Addr × Obj)} (N : News h₀ L h news) (hf : h.get? a = none) (hm : (c, o) ∈ news) : @Ne Nat a c := fun e => by
  have := (N _ hm).1
  have e : a = c := e
  rw [← e, hf] at this; cases this
theorem hole_fresh {h : Heap} {c a : Addr} {o : Obj} (hc : h.get? c = some o) (hg : (hideAll h [c]).get? a = none) (hne : a ≠ c) : h.get? a = none := by
  cases q : h.get? a with
  | none => rfl
  | some o' => rw [hideAll_get [c] q (fun z => hne (List.mem_singleton.mp z))] at hg; cases hg
theorem fresh_of {h : Heap} {a b : Addr} (k : h.get? a = none) (e : Value.ref a = .ref b) : h.get? b = none := by cases e; exact k
theorem said_26 : True := by
  (k_with "call ref" => (k_here; (with_reducible show wpAny _ _ (call (Value.ref 679) [_, _]) _ _ _); (rename Fr _ _ _ _ => F8); (rename News _ _ _ _ => N8); (refine' c_powerF ?X ?T ?v ?r ?u ?p1_r55 ?p2_r55 ?p3_r55 ?_); walk_at "mine args"; (case p1_r55 => walk_at "mine num"); (case p2_r55 => walk_at "mine num"); (case p3_r55 => walk_at "mine num"); (intro a' h' tk' f9 ks dr); (obtain ⟨a8, t8, t9, e8, dr⟩ := dr); (cases e8); (try dsimp only at dr); (have F' := F8.keeps ks); (obtain ⟨o8, N'⟩ := ledger_new F8 N8 ks f9 dr); (have ne8 := ledger_ne N8 f9 (o := listOf _ _) (by k_mem)); (clear F8 N8 ks f9); (try k_sweep); (try k_fold)))
  trivial
theorem c_entry {c : Addr} {us : List Value} {l : List Int} {n : Nat} {v : Value} {p q : Int}
   (F₀ : Fr h₀ L₀ s.heap m₀) (N₀ : News h₀ L₀ s.heap news) (U : UpdF c (listOf us.toArray n) news g) (X₀ : (hd.heap_1 w.params).In h₀) (T₀ : Top pv loose mean mg mb h₀)
   (hi : IntsAre us l) (hlen : us.length ≤ 1000) (hv : DAt s.heap v (some (p, q))) (hroot : IsRoot p q) (hr : dp + 8 < recursionLimit) (hu : un + 300 < cLine)
   (k : ∀ r d h' tk us' l' n', Ent d → DAt h' r d → (∀ a, r = .ref a → s.heap.get? a = none) → IntsAre us' l' → us'.length ≤ 1000 → (hideAll s.heap [c]).StaysIn h' → Fr h₀ L₀ h' m₀ → News h₀ L₀ h' (g (listOf us'.toArray n')) → Q r { s with heap := h', toks := tk }) :
   wpAny (model PG w) (ar dp fr gd un) (call (.ref 686) [.ref c, v]) Q E s := by
  have am9 : AimHere := trivial
  obtain ⟨st, hc, hcL⟩ := hole_in F₀ N₀ U
  have X := X₀.keeps st
  have T := T₀.keeps st
  have hlim : s.heap.NoLimit := PyProof.Rows.Top.nolimit (T₀.keeps F₀.keep)
  obtain ⟨a, t1, t2, rfl, ha⟩ := hv
  dsimp only at ha
  have ha : IsTup (hideAll s.heap [c]) a #[.int p t1, .int q t2] := by
    obtain ⟨o, ho, hcl, hd⟩ := ha
    refine ⟨o, hideAll_get _ ho fun q => ?_, hcl, hd⟩
    rw [List.mem_singleton.mp q, hc] at ho
    have e := Option.some.inj ho
    subst e
    exact absurd hcl (by simp)
  refine wpAny_call ?_
  refine' code_hole (binds := [(S "coins", .ref c), (S "root_of", .ref a)]) ?k1 ?k2 ?k3 ?k6 ?k7 ?k8 ?k9 ?kB ?_ ?c2 ?c3 ?c4 ?c5
  walk_at "mine enterH"
  intro L h₁ hL F N
  w_top off
  w_strict (k_steps; (all_goals (try k_data)))
  all_goals (try dsimp only)
  all_goals (rename Fr _ _ _ _ => Fz; rename News _ _ _ _ => Nz)
  all_goals (have Hb := hole_back F₀ N₀ U Fz (Nz.get (by k_mem)))
  all_goals first
    | (refine' k _ none _ _ _ _ _ trivial rfl (fun a9 e9 => by cases e9) ?i ?l Fz.keep Hb.1 Hb.2; (case i => assumption); (case l => assumption))
    | (refine' k _ (some (_, _)) _ _ _ _ _ ?e (DAt.some ?d) (fun a9 e9 => fresh_of (hole_fresh hc (Nz.fresh ?f) ?g) e9) ?i ?l Fz.keep Hb.1 Hb.2; (case d => walk_at "mine tup"); (case f => k_mem); (case g => k_ne); (case i => assumption); (case l => assumption); (case e => first | exact ent_pow hroot (by (first | lia | omega)) (by (first | lia | omega)) | (show Ent2 _ _; unfold Ent2; first | (first | lia | omega) | decide)))
end

theorem ints_reverse : ∀ {vs : List Value} {ns : List Int}, IntsAre vs ns → IntsAre vs.reverse ns.reverse
  | _, _, .nil => .nil
  | _, _, .cons n t r => by
    rw [List.reverse_cons, List.reverse_cons]
    exact IntsAre.append (ints_reverse r) (.cons n t .nil)
section
variable {prog : Program} {w : World} {A : Around} {E : Value → Shared → Prop} {s : Shared} {h₀ : Heap} {L D : Addr} {m : Str → Option Value} {news news' : List (Addr × Obj)} {n : Nat}
theorem mn_reverse {ws : List Value} {l : List Int} {Q : Value → Shared → Prop} (F : Fr h₀ L s.heap m) (N : News h₀ L s.heap news) (hi : IntsAre ws l) (U : Upd D (listOf ws.toArray n) (listOf ws.reverse.toArray n) news news') (hz : l.length ≤ sizeLine)
    (h : ∀ h', Fr h₀ L h' m → News h₀ L h' news' → IntsAre ws.reverse l.reverse → Q .none { s with heap := h' }) : wpAny (model prog w) A (call (.builtin "list.reverse") [.ref D]) Q E s :=
  kl_reverse (l := ws.reverse) F N (by simp) U (by simpa [hi.length] using hz) fun h' F' N' => h h' F' N' (ints_reverse hi)
end
theorem said_27 : True := by
  (k_with "call builtin:list.reverse" => (k_here; (with_reducible show wpAny _ _ (call (Value.builtin _) [Value.ref _]) _ _ _); k_dflt (refine' mn_reverse ?F_r56 ?N_r56 ?i_r56 ?U_r56 ?z_r56 ?_; (case F_r56 => k_asm); (case N_r56 => k_asm); (case U_r56 => k_upd); (case i_r56 => assumption); (case z_r56 => (rw [PySem.sizeLine_eq]; omega))); (intro h' F' N' hI'; (try dsimp only [List.nil_append, List.cons_append] at N'); (try k_sweep))))
  trivial
section
variable {w : World} {dp un : Nat} {fr : Option (List Env)} {gd : Option (List Code)} {s : Shared} {Q E : Value → Shared → Prop} {pv : Program} {loose : List Str} {mean : ExcName → Option Value} {mg mb : Str → Option Value}
theorem c_coins {a : Addr} {vs : List Value} {ns : List Int}
   (X : (hd.heap_1 w.params).In s.heap) (T : Top pv loose mean mg mb s.heap) (hL₀ : s.heap.IsList a vs.toArray) (hi : IntsAre vs ns) (hlen : vs.length ≤ 63) (hr : dp + 3 < recursionLimit) (hu : un + 110 < cLine)
   (k : ∀ r h' tk us l n, s.heap.get? r = none → h'.get? r = some (listOf us.toArray n) → IntsAre us l → us.length ≤ 1000 → s.heap.StaysIn h' → Q (.ref r) { s with heap := h', toks := tk }) :
   wpAny (model PG w) (ar dp fr gd un) (call (.ref 665) [.ref a]) Q E s := by
  have am9 : AimHere := trivial
  refine wpAny_call ?_
  refine' code_pure (binds := [(S "script", .ref a)]) ?k1 ?k2 ?k6 ?k7 ?k8 ?k9 ?kB ?_ ?c2 ?c3 ?c4 ?c5
  walk_at "mine enter"
  have hl9 := hi.length
  (k_with "pyIter ref" => (k_of "cell" => k_state (fun pre coins => coins.length ≤ 12 * pre.length) "coins"))
  (k_with "pyIter ref" => (k_of "lap" => k_state_given ["coins!"] (fun (c0 : List Int) pre worth coins => coins.length ≤ c0.length + pre.length) "worth" "coins"))
  w_top off
  w_strict (k_steps; (all_goals (try k_data)))
  all_goals (try dsimp only)
  all_goals (rename Fr _ _ _ _ => Fz; rename News _ _ _ _ => Nz)
  refine k _ _ _ _ _ _ (Nz.fresh (by k_mem)) (Nz.get (by k_mem)) (by assumption) ?_ Fz.keep
  (rename IntsAre _ _ => hI9); (have hL9 := IntsAre.length hI9); simp only [List.length_reverse] at *; (first | lia | omega)
end

theorem tail_self {l Y : List (Addr × Obj)} : ∀ p ∈ Y, p ∈ l ++ Y := fun _ h => List.mem_append_right _ h
theorem tail_cons {l Y : List (Addr × Obj)} {q : Addr × Obj} (k : ∀ p ∈ Y, p ∈ l) : ∀ p ∈ Y, p ∈ q :: l := fun _ h => List.mem_cons_of_mem _ (k _ h)
theorem tail_left {l l' Y : List (Addr × Obj)} (k : ∀ p ∈ Y, p ∈ l) : ∀ p ∈ Y, p ∈ l ++ l' := fun _ h => List.mem_append_left _ (k _ h)
theorem tail_right {l l' Y : List (Addr × Obj)} (k : ∀ p ∈ Y, p ∈ l) : ∀ p ∈ Y, p ∈ l' ++ l := fun _ h => List.mem_append_right _ (k _ h)
theorem tail_refl {Y : List (Addr × Obj)} : ∀ p ∈ Y, p ∈ Y := fun _ h => h
theorem said_28 : True := by
  (k_with "mine tail" => first | exact tail_refl | (refine tail_cons ?_; walk_at "mine tail") | exact tail_left tail_refl | (refine tail_right ?_; walk_at "mine tail"))
  trivial
local macro_rules | `(tactic| k_all) => `(tactic| first | (with_reducible refine List.forall_mem_append.mpr ⟨?_, ?_⟩ <;> k_all) | (refine tup_off (by assumption) (by assumption) ?t (o := ?o) ?m ?c; (case t => walk_at "mine tail"); (case m => k_mem); (case c => (dsimp only; first | simp | decide))))

theorem said_29 : True := by
  (k_with "call ref" => (k_here; (with_reducible show wpAny _ _ (call (Value.ref 665) [_]) _ _ _); (rename Fr _ _ _ _ => F8); (rename News _ _ _ _ => N8); (with_unfolding_all refine' c_coins ?X_r58 ?T_r58 ?h_r58 ?i_r58 ?l_r58 ?r_r58 ?u_r58 ?_; (case X_r58 => exact mnIn (by assumption) F8); (case T_r58 => exact mnTop (by assumption) F8); (case h_r58 => exact (Heap.IsList.at (by assumption) fun o e => F8.keep _ o e)); (case i_r58 => assumption); (case l_r58 => ((rename IntsAre _ _ => hI9); (have hL9 := IntsAre.length hI9); omega)); (case r_r58 => walk_at "mine deep"); (case u_r58 => walk_at "mine deep")); (intro r' h' tk' us' l' n' hf' ho' hi' hl' ks'); (obtain ⟨F', N', hn'⟩ := ledger_add F8 N8 ks' hf' ho'); clear F8 N8 ks' hf' ho'; (dsimp only [AllNe] at hn'); (try k_sweep); (try k_fold)))
  (k_with "mine deep" => first | decide | (show _ < PySem.recursionLimit; decide) | (simp [PyProof.callerA]; done) | omega)
  trivial
theorem said_30 : True := by
  (k_with "call ref" => (k_here; (with_reducible show wpAny _ _ (call (Value.ref 672) [_, _]) _ _ _); (rename Fr _ _ _ _ => F8); (rename News _ _ _ _ => N8); (with_unfolding_all refine' c_coin F8 N8 ?U_r60 ?X_r60 ?T_r60 ?i_r60 ?l_r60 ?m_r60 ?r_r60 ?u_r60 ?_; (case U_r60 => k_updF); (case X_r60 => assumption); (case T_r60 => assumption); (case i_r60 => assumption); (case l_r60 => assumption); (case m_r60 => decide); (case r_r60 => walk_at "mine deep"); (case u_r60 => walk_at "mine deep")); (clear F8 N8); (intro r' t' h' tk' us' l' n' r0' r1' hi' hl' F' N'); (try dsimp only [List.nil_append, List.cons_append] at N'); (try k_sweep); (try k_fold)))
  (k_with "call ref" => (k_here; (with_reducible show wpAny _ _ (call (Value.ref 686) [_, _]) _ _ _); k_dflt ((rename Fr _ _ _ _ => F8); (rename News _ _ _ _ => N8); (with_unfolding_all refine' c_entry F8 N8 ?U_r61 ?X_r61 ?T_r61 ?i_r61 ?l_r61 ?v_r61 ?ro_r61 ?r_r61 ?u_r61 ?_; (case U_r61 => k_updF); (case X_r61 => assumption); (case T_r61 => assumption); (case i_r61 => assumption); (case l_r61 => assumption); (case v_r61 => exact (DAt.some (N8.isTup (by k_mem)))); (case ro_r61 => assumption); (case r_r61 => walk_at "mine deep"); (case u_r61 => walk_at "mine deep")); (intro r' d' h' tk' us' l' n' en' dr' fr' hi' hl' ks' F' N'); (try dsimp only [List.nil_append, List.cons_append] at N'); (obtain ⟨ex', N', to', di', ne'⟩ := absorb2 F8 N8 N' dr' fr'); (clear dr' fr' ks' F8 N8); (try simp only [List.nil_append, List.cons_append, List.append_assoc] at N'); (try k_sweep); (try k_fold))))
  trivial
theorem execs_cut {M : Model} {A : Around} {env : Env} {st : Stmt} {rest : List Stmt} {Q : Flow → Shared → Prop} {E : Value → Shared → Prop} {s : Shared} {P : Shared → Prop}
    (h1 : wpAny M A (exec st env) (fun f s' => f = .next ∧ P s') E s) (h2 : ∀ s', P s' → wpAny M A (execs rest env) Q E s') : wpAny M A (execs (st :: rest) env) Q E s :=
  wpAny_execs_cons (wpAny_mono h1 (fun f s' x => by obtain ⟨rfl, p⟩ := x; exact h2 s' p) fun _ _ e => e)
/-- behind the choice of the root -/
def RootP (h₀ : Heap) (L : Addr) (m : Str → Option Value) (g : Obj → Obj → List (Addr × Obj)) (s s' : Shared) : Prop :=
  ∃ h' tk us l n oc a t1 t2 p q, s' = { s with heap := h', toks := tk } ∧ Fr h₀ L h' m ∧
    News h₀ L h' ((a, { cls := .type "tuple", data := .seq #[.int p t1, .int q t2] }) :: g (listOf us.toArray n) oc) ∧ IntsAre us l ∧ us.length ≤ 1000 ∧ oc.data = .cell (some (.ref a)) ∧ IsRoot p q ∧ AllLt a (g (listOf us.toArray n) oc)
theorem news_two {h₀ h : Heap} {L : Addr} {all l : List (Addr × Obj)} {x : Addr × Obj} (N : News h₀ L h all) (h1 : ∀ p ∈ l, p ∈ all) (h2 : x ∈ all) : News h₀ L h (x :: l) := fun p hp => by
  rcases List.mem_cons.mp hp with rfl | hp
  · exact N _ h2
  · exact N _ (h1 p hp)
theorem cut_root {M : Model} {A : Around} {env : Env} {st : Stmt} {rest : List Stmt} {Q : Flow → Shared → Prop} {E : Value → Shared → Prop} {s : Shared} {h₀ : Heap} {L c : Addr} {m : Str → Option Value} {news : List (Addr × Obj)} {us : List Value} {l : List Int} {n : Nat} {oc o₁ : Obj} {g1 : Obj → List (Addr × Obj)} {g2 : Obj → Obj → List (Addr × Obj)}
    (F : Fr h₀ L s.heap m) (N : News h₀ L s.heap news) (hcc : o₁.data = .cell (some (.ref c))) (hi : IntsAre us l) (U1 : UpdF c (listOf us.toArray n) news g1) (U2 : ∀ o', UpdF (L + 1 + 1) oc (g1 o') (g2 o'))
    (h1 : wpAny M A (exec st env) (fun f s' => f = .next ∧ RootP h₀ L m g2 s s') E s)
    (h2 : ∀ h' tk us l n oc a t1 t2 p q, Fr h₀ L h' m → News h₀ L h' ((a, { cls := .type "tuple", data := .seq #[.int p t1, .int q t2] }) :: g2 (listOf us.toArray n) oc) → IntsAre us l → us.length ≤ 1000 → oc.data = .cell (some (.ref a)) → IsRoot p q → AllLt a (g2 (listOf us.toArray n) oc) →
      wpAny M A (execs rest env) Q E { s with heap := h', toks := tk }) : wpAny M A (execs (st :: rest) env) Q E s :=
  execs_cut h1 fun s' x => by
    obtain ⟨h', tk, us, l, n, oc, a, t1, t2, p, q, rfl, F', N', hi, hl, hc, hr, hn⟩ := x
    exact h2 h' tk us l n oc a t1 t2 p q F' N' hi hl hc hr hn

theorem said_31 : True := by
  (k_with "execs cons" => (k_here; (with_reducible show wpAny _ _ (execs (Stmt.Assign [Expr.Name (Str.ofString "root_of") _] _ _ :: _) _) _ _ _); (rename Fr _ _ _ _ => F8); (rename News _ _ _ _ => N8); (with_unfolding_all refine' cut_root F8 N8 ?cc_r62 ?i_r62 ?u1_r62 ?u2_r62 ?_ ?_; (case cc_r62 => assumption); (case i_r62 => assumption); (case u1_r62 => k_updF); (case u2_r62 => (intro o9; (try dsimp only); k_updF))); rotate_left; (clear F8 N8; intro h' tk' us' l' n' oc' a' t1' t2' p' q' F' N' hi' hl' hc' hr' hn'; (try dsimp only at N'); (dsimp only [AllLt] at hn'); (try k_sweep); (try k_fold)); rotate_left))
  (k_with "mine root" => ((rename Fr _ _ _ _ => F8); (rename News _ _ _ _ => N8); (try (with_reducible refine And.intro rfl ?_)); refine' ⟨_, _, _, _, _, _, _, _, _, _, _, rfl, F8, news_two N8 ?n1_r63 ?n2_r63, ?i_r63, ?l_r63, ?c_r63, ?r_r63, ?ne_r63⟩; (case n1_r63 => ((try dsimp only); k_allIn)); (case c_r63 => assumption); (case n2_r63 => k_memK); (case i_r63 => assumption); (case l_r63 => assumption); (case r_r63 => (unfold IsRoot; omega)); (case ne_r63 => (dsimp only [AllLt]; (repeat' apply And.intro) <;> first | exact True.intro | (refine ltN ?_; omega)))))
  trivial
section
variable {prog : Program} {w : World} {A : Around} {h₀ : Heap} {L c : Addr} {m : Str → Option Value} {env : Env} {elt : Expr} {x : Str} {scope : Scope} {cl : List (Str × Addr)} {s : Shared} {S : List (Addr × Obj) → Prop} {P : Nat → Value → Prop} {Fin : List Value → List (Addr × Obj) → Prop} {news : List (Addr × Obj)} {us₀ : List Value} {l₀ : List Int} {n₀ k : Nat} {g : Obj → List (Addr × Obj)}
theorem comp_entries (U : UpdF c (listOf us₀.toArray n₀) news g) (hi₀ : IntsAre us₀ l₀) (hl₀ : us₀.length ≤ 1000)
    (turn : ∀ v ys us l n Y ds I oI C oC X m₂ h tk (E' : Value → Shared → Prop), IntsAre us l → us.length ≤ 1000 → TupsOnly Y → DAll h₀ Y ys ds → (∀ d ∈ ds, Ent d) → LCg.NsObj oC m₂ → m₂ x = some v → Fr h₀ L h m →
      News h₀ L h ((I, oI) :: (C, oC) :: (X, LCg.lst ys) :: (g (listOf us.toArray n) ++ Y)) → LCg.Off3 I C X (g (listOf us.toArray n) ++ Y) → ((@Ne Nat I C) ∧ (@Ne Nat I X) ∧ (@Ne Nat C X)) →
      wpAny (model prog w) A (eval elt (compEnvC scope cl C env)) (LCg.CompEnd h₀ L m { s with heap := h, toks := tk } I oI C oC X (LCg.lst ys) S (fun y nw' => JEnt h₀ g (ys ++ [y]) nw')) E' { s with heap := h, toks := tk })
    (fin : ∀ ys us l n Y ds, ys.length = k → IntsAre us l → us.length ≤ 1000 → TupsOnly Y → DAll h₀ Y ys ds → (∀ d ∈ ds, Ent d) → Fin ys (g (listOf us.toArray n) ++ Y)) : LCg.CompRest prog w A h₀ L m env elt x scope cl s S P Fin k 0 [] news := by
  refine comp_inv (JEnt h₀ g) (JEnt.start U hi₀ hl₀) ?_ ?_
  · rintro i v ys nw I oI C oC X m₂ h tk E' hin hv hy ⟨us, l, n, Y, ds, rfl, hi, hl, tY, dY, eY⟩ hC hx F N off ne
    exact turn v ys us l n Y ds I oI C oC X m₂ h tk E' hi hl tY dY eY hC hx F N off ne
  · rintro ys nw hy ⟨us, l, n, Y, ds, rfl, hi, hl, tY, dY, eY⟩
    exact fin ys us l n Y ds hy hi hl tY dY eY
end
theorem ent_end {h₀ h' : Heap} {L c I C X : Addr} {m : Str → Option Value} {s₁ : Shared} {oI oC oX o₀ o₁ : Obj} {S : List (Addr × Obj) → Prop} {y : Value} {d : D} {tk : Nat} {news all lb Y ex : List (Addr × Obj)} {g : Obj → List (Addr × Obj)} {us ys : List Value} {l : List Int} {n : Nat} {ds : List D}
    (F : Fr h₀ L h' m) (N : News h₀ L h' all) (U : UpdF c o₀ news g) (off : LCg.Off3 I C X (g o₁ ++ Y)) (di : DIn h₀ ex y d) (en : Ent d) (tE : TupsOnly ex) (ne : ∀ q ∈ ex, ∀ p ∈ lb, q.1 ≠ p.1)
    (hI : (I, oI) ∈ lb) (hC : (C, oC) ∈ lb) (hX : (X, oX) ∈ lb) (dY : DAll h₀ Y ys ds) (eY : ∀ d ∈ ds, Ent d) (tY : TupsOnly Y) (hi : IntsAre us l) (hl : us.length ≤ 1000) (hS : ∀ nw, S nw)
    (sub : ∀ p ∈ (I, oI) :: (C, oC) :: (X, oX) :: (g (listOf us.toArray n) ++ (Y ++ ex)), p ∈ all) :
    LCg.CompEnd h₀ L m s₁ I oI C oC X oX S (fun y nw' => JEnt h₀ g (ys ++ [y]) nw') y { s₁ with heap := h', toks := tk } :=
  LCg.CompEnd.intro F N _ sub (off3_upd U off fun q hq => ⟨ne q hq _ hI, ne q hq _ hC, ne q hq _ hX⟩) (hS _) (JEnt.next hi hl tY tE dY eY di en)
theorem said_32 : True := by
  (k_with "exec Assign cons ListComp" => (k_here; (with_reducible show wpAny _ _ (exec (Stmt.Assign _ (Expr.ListComp (Expr.Call (Expr.Name (Str.ofString "_law_entry") _) _ _ _) _ _ _) _) _) _ _ _); k_dflt (refine LCg.Assign_ListComp_U (F₀ := by k_asm) (by rfl) (by with_unfolding_all rfl) (by with_unfolding_all rfl) (by decide) (by rfl) (by decide) (by rfl) (by rfl) (by rfl) ?_)))
  trivial
theorem off_c {c I C X : Addr} {o o' : Obj} {news Y : List (Addr × Obj)} {g : Obj → List (Addr × Obj)} (U : UpdF c o news g) (k : LCg.Off3 I C X (g o' ++ Y)) : (@Ne Nat c I) ∧ (@Ne Nat c C) ∧ (@Ne Nat c X) := by
  obtain ⟨pre, post, rfl, hg, _, _⟩ := U.split
  exact k.mem (c, o') (List.mem_append_left _ (by rw [hg]; exact List.mem_append_right _ (.head _)))
theorem coin_upd {h₀ h : Heap} {L c : Addr} {news : List (Addr × Obj)} {o₁ : Obj} {us : List Value} {l : List Int} {n : Nat} {g : Obj → List (Addr × Obj)} (_N : News h₀ L h news) (_hm : (L + 1, o₁) ∈ news) (_hcc : o₁.data = .cell (some (.ref c))) (_hi : IntsAre us l) (U : UpdF c (listOf us.toArray n) news g) : UpdF c (listOf us.toArray n) news g := U

theorem said_33 : True := by
  (k_with "CompSrc" => (k_here; (with_reducible show LCg.CompSrc _ _ _ _ _ _ _ (Expr.Call (Expr.Name (Str.ofString "_law_entry") _) _ _ _) _ _ _ _ _ _); k_dflt ((rename Fr _ _ _ _ => F8); (rename News _ _ _ _ => N8); (rename IsRange _ _ _ _ _ _ _ _ => rg9); (k_dflt (have U9 := coin_upd N8 (by k_mem) (by assumption) (by assumption) (by k_updF))); (with_unfolding_all refine' LCg.CompSrc.range ?hh_r65 F8 N8 rg9 ?sm_r65 ?hn_r65 ?sz_r65 ?_); (case hh_r65 => with_unfolding_all rfl); (case sm_r65 => first | decide | exact small_one (by l_bnd) (by l_bnd) (by l_bnd) (by l_bnd)); (case hn_r65 => exact rangeSize_nat _ _); (case sz_r65 => (rw [PySem.sizeLine_eq]; omega)); (intro g9); (with_unfolding_all refine' comp_entries U9 ?i9_r65 ?l9_r65 ?_ ?_); (case i9_r65 => assumption); (case l9_r65 => assumption); (clear F8 N8 rg9); (intro v9 ys9 us9 l9 n9 Y9 ds9 I9 oI9 C9 oC9 X9 m9 h9 tk9 E9 hi9 hl9 tY9 dY9 eY9 hC9 hx9 F9 N9 off9 ne9); (have off8 := off_c U9 off9); (try dsimp only at N9); (try simp only [List.cons_append, List.nil_append, List.append_assoc] at N9); (try k_fold); rotate_left; (intro ys9 us9 l9 n9 Y9 ds9 hy9 hi9 hl9 tY9 dY9 eY9); (try dsimp only); (try simp only [List.cons_append, List.nil_append, List.append_assoc]); rotate_left)))
  (k_with "CompEnd" => (k_here; k_dflt ((rename Fr _ _ _ _ => F8); (rename News _ _ _ _ => N8); (rename UpdF _ _ _ _ => U8); (with_unfolding_all refine' ent_end F8 N8 U8 ?off_r66 ?di_r66 ?en_r66 ?tE_r66 ?ne_r66 ?hI_r66 ?hC_r66 ?hX_r66 ?dY_r66 ?eY_r66 ?tY_r66 ?hi_r66 ?hl_r66 ?hS_r66 ?sub_r66); (case off_r66 => assumption); (case di_r66 => assumption); (case en_r66 => assumption); (case tE_r66 => assumption); (case ne_r66 => assumption); (case hI_r66 => k_memK); (case hC_r66 => k_memK); (case hX_r66 => k_memK); (case dY_r66 => assumption); (case eY_r66 => assumption); (case tY_r66 => assumption); (case hi_r66 => assumption); (case hl_r66 => assumption); (case hS_r66 => exact fun _ => trivial); (case sub_r66 => with_unfolding_all exact fun _ h => h))))
  (k_with "CompSrc" => (k_here; (with_reducible show LCg.CompSrc _ _ _ _ _ _ _ (Expr.BinOp _ _ _ _) _ _ _ _ _ _); k_dflt (refine LCg.CompSrc.range (by rfl) (by k_asm) (by k_asm) (by assumption) (by first | decide | exact small_one (by l_bnd) (by l_bnd) (by l_bnd) (by l_bnd)) (by exact rangeSize_nat _ _) (by (rw [PySem.sizeLine_eq]; omega)) ?_; intro g'; (refine' kct_range _ (fun k' t' I' oI' C' oC' D' m' ys' h' tk' E' hlo' hhi' hC' hx' F' N' off' ne' => ?_) ?_); (all_goals (try ((show KPfMark → _); intro hMark'))); kcf_last)))
  trivial
/-! The plain law: what both sides answer is one value. -/
theorem pow_lt_exp {b : Int} (h : 2 ≤ b) {m n : Nat} (hl : m < n) : b ^ m < b ^ n := by
  have h1 : b ^ (m + 1) ≤ b ^ n := pow_mono_i (by (first | lia | omega)) hl
  have h2 : b ^ m < b ^ (m + 1) := by
    rw [Int.pow_succ]
    have h3 : (0 : Int) < b ^ m := Int.pow_pos (by (first | lia | omega))
    have h4 : b ^ m * 1 < b ^ m * b := Int.mul_lt_mul_of_pos_left (by (first | lia | omega)) h3
    (first | lia | omega)
  (first | lia | omega)
theorem pow_exp_inj {b : Int} (h : 2 ≤ b) {m n : Nat} (e : b ^ m = b ^ n) : m = n := by
  rcases Nat.lt_trichotomy m n with k | k | k
  · have := pow_lt_exp h k; (first | lia | omega)
  · exact k
  · have := pow_lt_exp h k; (first | lia | omega)
theorem pow_lt_base {a b : Int} (h0 : 0 < a) (h : a < b) : ∀ n : Nat, a ^ (n + 1) < b ^ (n + 1)
  | 0 => by simpa [Int.pow_succ] using h
  | n + 1 => by
    rw [Int.pow_succ, Int.pow_succ b]
    have h1 := pow_lt_base h0 h n
    have h2 : (0 : Int) < a ^ (n + 1) := Int.pow_pos h0
    have h3 : a ^ (n + 1) * a < b ^ (n + 1) * a := Int.mul_lt_mul_of_pos_right h1 h0
    have h4 : b ^ (n + 1) * a ≤ b ^ (n + 1) * b := Int.mul_le_mul_of_nonneg_left (by (first | lia | omega)) (by (first | lia | omega))
    (first | lia | omega)
theorem pow_base_inj {a b : Int} (ha : 0 < a) (hb : 0 < b) {n : Nat} (e : a ^ (n + 1) = b ^ (n + 1)) : a = b := by
  by_cases h : a < b
  · have := pow_lt_base ha h n; (first | lia | omega)
  · by_cases h' : b < a
    · have := pow_lt_base hb h' n; (first | lia | omega)
    · (first | lia | omega)
theorem powD_inj {p q n m : Int} (hp : 0 < p) (hq : 0 < q) (hne : p ≠ q) (e : powD (p, q) n = powD (p, q) m) : n = m := by
  have cross : ∀ (i k : Nat), p ^ i = q ^ (k + 1) → q ^ i = p ^ (k + 1) → False := fun i k h1 h2 => by
    have h3 : p ^ (i + (k + 1)) = q ^ (i + (k + 1)) := by
      have e1 : p ^ (i + (k + 1)) = p ^ i * p ^ (k + 1) := Int.pow_add ..
      have e2 : q ^ (i + (k + 1)) = q ^ i * q ^ (k + 1) := Int.pow_add ..
      rw [e1, e2, ← h2, h1, Int.mul_comm]
    exact hne (pow_base_inj (n := i + k) hp hq (by rw [Nat.add_assoc]; exact h3))
  have same : ∀ (i k : Nat), p ^ i = p ^ k → q ^ i = q ^ k → i = k := fun i k h1 h2 => by
    by_cases h : 2 ≤ p
    · exact pow_exp_inj h h1
    · exact pow_exp_inj (b := q) (by (first | lia | omega)) h2
  unfold powD at e
  split at e <;> split at e <;> simp only [Prod.mk.injEq] at e
  · have := same _ _ e.1 e.2; (first | lia | omega)
  · obtain ⟨k, hk⟩ : ∃ k, (-m).toNat = k + 1 := ⟨(-m).toNat - 1, by (first | lia | omega)⟩
    rw [hk] at e
    exact (cross _ k e.1 e.2).elim
  · obtain ⟨k, hk⟩ : ∃ k, (-n).toNat = k + 1 := ⟨(-n).toNat - 1, by (first | lia | omega)⟩
    rw [hk] at e
    exact (cross _ k e.1.symm e.2.symm).elim
  · have := same _ _ e.2 e.1; (first | lia | omega)
theorem spec2_one {p q bp bq : Int} {r r' : Option D} (hb : Ent2 bp bq) (h : Spec2 p q bp bq r) (h' : Spec2 p q bp bq r') : r = r' := by
  have hf := ent_f hb
  unfold Spec2 at h h'
  split at h
  · rw [if_pos (by assumption)] at h'; rw [h, h']
  rw [if_neg (by assumption)] at h'
  split at h
  · rw [if_pos (by assumption)] at h'; rw [h, h']
  rw [if_neg (by assumption)] at h'
  split at h
  · rw [if_pos (by assumption)] at h'
    split at h
    · rw [if_pos (by assumption)] at h'; rw [h, h']
    rw [if_neg (by assumption)] at h'
    split at h
    · rw [if_pos (by assumption)] at h'; rw [h, h']
    · rw [if_neg (by assumption)] at h'; rw [h, h']
  rw [if_neg (by assumption)] at h'
  split at h
  · rw [if_pos (by assumption)] at h'
    split at h
    · rw [if_pos (by assumption)] at h'; rw [h, h']
    · rw [if_neg (by assumption)] at h'; rw [h, h']
  rw [if_neg (by assumption)] at h'
  split at h
  · rw [if_pos (by assumption)] at h'; rw [h, h']
  rw [if_neg (by assumption)] at h'
  split at h
  · rw [if_pos (by assumption)] at h'; rw [h, h']
  rw [if_neg (by assumption)] at h'
  split at h
  · rw [if_pos (by assumption)] at h'; rw [h, h']
  rw [if_neg (by assumption)] at h'
  rcases h with ⟨n, rfl, e⟩ | ⟨rfl, e⟩ <;> rcases h' with ⟨m, rfl, e'⟩ | ⟨rfl, e'⟩
  · have := powD_inj (p := bp) (q := bq) (n := n) (m := m) (by (first | lia | omega)) (by (first | lia | omega)) (by (first | lia | omega)) (e.symm.trans e')
    rw [this]
  · exact absurd e (e' n)
  · exact absurd e' (e m)
  · rfl
theorem spec_one {x b : D} {r r' : Option D} (hb : Ent b) (h : Spec x b r) (h' : Spec x b r') : r = r' := by
  rcases x with _ | ⟨p, q⟩
  · have h : r = some none := h
    have h' : r' = some none := h'
    rw [h, h']
  · rcases b with _ | ⟨bp, bq⟩
    · have h : r = some none := h
      have h' : r' = some none := h'
      rw [h, h']
    · exact spec2_one hb h h'

/-! An inlined call that may raise the text's own exception: callX_plain with RzE as its end. -/
theorem funFrames_empty {h base : Heap} : ∀ {l : List Env}, h.FunFrames base l → h.FunFrames {} l
  | [], _ => trivial
  | _ :: _, ⟨k, ⟨L, o, hf, _, ho, hd⟩, r⟩ => ⟨k, ⟨L, o, hf, rfl, ho, hd⟩, funFrames_empty r⟩
section
variable {prog : Program} {w : World} {A₀ A : Around} {s : Shared} {base h₀ : Heap} {outer : List Env} {L : Addr} {m : Str → Option Value} {env : Env} {news : List (Addr × Obj)} {K : Frag} {p : Program} {loose : List Str} {mean : ExcName → Option Value} {mg mb : Str → Option Value}
  {R : Result → Shared → Prop} {name qual : Str} {params : Arguments} {body : List Stmt} {scope : Scope} {dV kV doc pm cdv ct oc : Value} {an od : Option Addr} {osl : Array (Option Value)} {f : Addr} {args : Args} {binds : List (Str × Value)} {P : Prop} {msg : Str}
theorem callR (B : Below A₀ base outer h₀) (F : Fr h₀ L s.heap m) (X₀ : K.In h₀) (N : News h₀ L s.heap news) (T : Top p loose mean mg mb h₀) (hA : A.frames = some (env :: outer)) (hf : env.frame = some L) (hke : env.scope.kind = .function)
    (ho : K.lookup f = some ⟨oc, od, .func (fnOf name qual params body scope dV kV doc pm an cdv ct), osl⟩) (hcd : codeIn K cdv qual = true) (hroom : A.depth < recursionLimit)
    (hbind : BindsTo s (fnOf name qual params body scope dV kV doc pm an cdv ct) args binds) (hloc : ∀ y ∈ binds, scope.names.lookup y.1 = some .local)
    (h : ∀ g L' h₁, L' = s.heap.objs.size → Fr h₀ L g m → Fr g L' h₁ (fun y => binds.reverse.lookup y) → News g L' h₁ news → Below A base (env :: outer) g → K.In g → Top p loose mean mg mb g → (∀ p ∈ news, p.1 < L') → s.heap.StaysIn h₁ → s.heap.FunFrames {} (env :: outer) →
      wpAny (model prog w) (A.deeper (envOf qual scope L' f cdv)) (execs body (envOf qual scope L' f cdv))
        (fun fl s' => LeaveK h₀ L m g R (match fl with | .ret v => v | _ => .none) s')
        (RzE P s s.heap (envOf qual scope L' f cdv :: env :: outer) msg)
        { s with heap := h₁, toks := s.toks + binds.length })
    (hE : P → ∀ e h' tk, Rz s.heap (env :: outer) msg e h' → R (.error (.ref e)) { s with heap := h', toks := tk })
    (hco : scope.isCoroutine = false) (hgen : scope.isGenerator = false) (hk : scope.kind = .function)
    (hcell : ∀ x ∈ scope.names, x.2 ≠ .cell) : codeAny (model prog w) A (.call (.ref f) args) R s := by
  obtain ⟨FG, BG, st, lv⟩ := groundX (R := R) B F N hA hf hke
  have B₁ := pushX B F hf hke
  have hff : s.heap.FunFrames {} (env :: outer) := funFrames_empty B₁.frames
  refine codeAny_call_def (fd := fnX name qual params body scope [] dV kV doc pm an cdv ct) (body := body) (binds := binds) hroom ((X₀.keeps F.keep) _ _ ho) rfl (T.nolimit.keeps F.keep) (codeRec_of (X₀.keeps F.keep) hcd) rfl hbind hcell hloc (fun h₁ hns hk₁ => ?_) hco hgen hk
  refine wpAny_mono (h _ s.heap.objs.size h₁ rfl FG ⟨hns, fun b o e => hk₁ b o (of_hideAll _ e), Nat.le_of_eq (hideAll_size _ _)⟩
    (fun p hp => ⟨hk₁ _ _ (N p hp).1, Nat.ne_of_lt (Heap.lt_size (N p hp).1), hideAll_none _ (List.mem_map_of_mem hp)⟩) BG (X₀.keeps st) (T.keeps st) (fun p hp => Heap.lt_size (N p hp).1) hk₁ hff) (fun fl s' hl => lv _ _ hl) ?_
  rintro ev s' ⟨hP, e, h', tk, rfl, rfl, x⟩
  exact rz_leave (s := { s with heap := h', toks := tk }) (Around.frames_deeper hA) rfl (Heap.get?_none_of_le (Nat.le_refl _)) x fun h'' x' => hE hP e h'' tk x'
end

/-! A loop over a range with any state: what a turn leaves is told by a state c and a map of names. -/
section
variable {prog : Program} {w : World} {A : Around} {E : Value → Shared → Prop} {s : Shared} {env : Env} {h₀ : Heap} {x : Str} {body : List Stmt} {Q : Flow → Shared → Prop}
def TurnS {σ : Type} (h₀ : Heap) (L : Addr) (x : Str) (Led : σ → List (Addr × Obj)) (mm : σ → (Str → Option Value) → (Str → Option Value)) (P : σ → Prop) (own : List (Addr × Obj)) (s₁ : Shared) (Q : Flow → Shared → Prop) (f : Flow) (s₂ : Shared) : Prop :=
  match f with
  | .ret v => Q (.ret v) s₂
  | .brk => Q .next s₂
  | _ => ∃ h' tk m' c' u', s₂ = { s₁ with heap := h', toks := tk } ∧ Fr h₀ L h' m' ∧ News h₀ L h' (Led c' ++ own) ∧ P c' ∧ ∀ z, z ≠ x → m' z = mm c' u' z
theorem range_S {σ : Type} {r : Addr} {a₀ b₀ : Int} {t₀ u₀ v₀ : Tok} {n : Nat} {m₀ : Str → Option Value} {news : List (Addr × Obj)} (Led : σ → List (Addr × Obj)) (mm : σ → (Str → Option Value) → (Str → Option Value)) (P : Nat → σ → Prop) (c₀ : σ) (w₀ : Str → Option Value)
    (hh : A.handled = none) (hr : IsRange s.heap r a₀ b₀ 1 t₀ u₀ v₀) (hsmall : Builtin.Range.small a₀ b₀ 1 = true) (hsz : Builtin.Range.rangeSize a₀ b₀ 1 = (n : Int)) (F : Fr h₀ env.locals s.heap m₀) (N : News h₀ env.locals s.heap news)
    (hc : ∀ i c, P i c → ∀ p ∈ Led c, p.2.cls ≠ .type "range_iterator") (hn : ∀ p ∈ Led c₀, p ∈ news) (hp : P 0 c₀) (hm : ∀ z, z ≠ x → m₀ z = mm c₀ w₀ z)
    (turn : ∀ (i : Nat) t c u h tk own, i < n → P i c → (∀ p ∈ own, p.2.cls = .type "range_iterator") → Fr h₀ env.locals h (fun y => if y = x then some (.int (a₀ + (i : Int)) t) else mm c u y) → News h₀ env.locals h (Led c ++ own) →
      wpAny (model prog w) A (execs body env) (TurnS h₀ env.locals x Led mm (P (i + 1)) own { s with heap := h, toks := tk } Q) E { s with heap := h, toks := tk })
    (done : ∀ c u (v : Str → Option Value) h tk, P n c → Fr h₀ env.locals h (fun y => if y = x then v y else mm c u y) → News h₀ env.locals h (Led c) → Q .next { s with heap := h, toks := tk }) :
    wpAny (model prog w) A (pyIter (.ref r)) (fun it s₂ => LoopAtV prog w A h₀ env x body Q E it s₂) E s := by
  refine wpAny_pyIter_range hr hsmall ?_
  have W : Walks prog w A s.heap.objs.size [s.heap.objs.size] [s.heap.objs.size] n (fun i v => i < n ∧ ∃ t, v = .int (a₀ + i * 1) t)
      (fun i h => IsRangeIter h s.heap.objs.size (a₀ + (i : Nat) * 1) ((n : Int) - (i : Nat)) 1) := (Walks.range hh _ a₀ 1 n).bound
  have fr : ∀ {h' : Heap} {m' : Str → Option Value} {c u}, Fr h₀ env.locals h' m' → (∀ z, z ≠ x → m' z = mm c u z) → Fr h₀ env.locals h' (fun y => if y = x then m' y else mm c u y) := fun F hm => by
    refine ⟨?_, F.keep, F.above⟩
    have e : (fun y => if y = x then _ else mm _ _ y) = _ := funext fun y => (by split; rfl; exact (hm y (by assumption)).symm)
    rw [e]; exact F.ns
  refine ⟨_, [s.heap.objs.size], [s.heap.objs.size], n, _, _, m₀, Led c₀, (fun i m nx => ∃ c u, nx = Led c ∧ P i c ∧ ∀ z, z ≠ x → m z = mm c u z), rfl, W, ?_, ?_, ?_, ?_, F.push _, (fun p hp => ⟨Heap.get?_push_of_some _ (N p (hn p hp)).1, (N p (hn p hp)).2⟩), ⟨c₀, w₀, rfl, hp, hm⟩, ?_, ?_⟩
  · intro hm
    exact absurd F.ns.lt ((List.mem_singleton.mp hm) ▸ Nat.lt_irrefl _)
  · intro b hb
    rw [List.mem_singleton.mp hb]
    exact next_is_new F
  · intro p hp hI
    exact absurd (Heap.lt_size (N p (hn p hp)).1) ((List.mem_singleton.mp hI) ▸ Nat.lt_irrefl _)
  · show IsRangeIter _ _ _ _ _; rw [hsz]; simpa using Heap.get?_push_size _ rfl
  · rintro i v m₁ news₁ s₁ own ⟨hh', tk', rfl⟩ hin ⟨_, t, rfl⟩ ⟨c, u, rfl, hp', hm'⟩ hoff hown hget hfp hst' F₁ N₁
    have e1 : a₀ + (i : Int) * 1 = a₀ + (i : Int) := by omega
    rw [e1] at F₁
    have hoc : ∀ p ∈ own, p.2.cls = .type "range_iterator" := fun p hp => by
      have h1 := hget p hp
      rw [List.mem_singleton.mp (hown p hp)] at h1
      have h2 := Option.some.inj (h1.symm.trans hst')
      rw [h2]
    have N₂ : News h₀ env.locals hh' (Led c ++ own) := fun p hp => N₁ p ((List.mem_append.mp hp).elim (fun h => List.mem_append.mpr (.inr h)) fun h => List.mem_append.mpr (.inl h))
    have F₂ : Fr h₀ env.locals hh' (fun y => if y = x then some (.int (a₀ + (i : Int)) t) else mm c u y) := by
      have e : (fun y => if y = x then some (.int (a₀ + (i : Int)) t) else mm c u y) = (fun y => if y = x then some (.int (a₀ + (i : Int)) t) else m₁ y) := funext fun y => by
        by_cases h : y = x
        · rw [if_pos h, if_pos h]
        · rw [if_neg h, if_neg h, hm' y h]
      rw [e]; exact F₁
    refine wpAny_mono (turn i t c u hh' tk' own hin hp' hoc F₂ N₂) (fun f s₂ p => ?_) fun _ _ e => e
    have fin : (∃ h' tk m' c' u', s₂ = { { s with heap := hh', toks := tk' } with heap := h', toks := tk } ∧ Fr h₀ env.locals h' m' ∧ News h₀ env.locals h' (Led c' ++ own) ∧ P (i + 1) c' ∧ ∀ z, z ≠ x → m' z = mm c' u' z) →
        LoopStepU h₀ env.locals [s.heap.objs.size] own (fun m nx => ∃ c u, nx = Led c ∧ P (i + 1) c ∧ ∀ z, z ≠ x → m z = mm c u z) { s with heap := hh', toks := tk' } .next s₂ := by
      rintro ⟨h', tk, m', c', u', e, F', N', hp', hm'⟩
      refine ⟨rfl, h', tk, m', Led c', e, F', fun p hp => N' p ((List.mem_append.mp hp).elim (fun h => List.mem_append.mpr (.inr h)) fun h => List.mem_append.mpr (.inl h)), fun p hp hq => ?_, c', u', rfl, hp', hm'⟩
      have hI := hfp _ (.head _) (next_is_new F) _ hst'
      have h1 := (N' _ (List.mem_append.mpr (.inr hI))).1
      have h2 := (N' p (List.mem_append.mpr (.inl hp))).1
      rw [List.mem_singleton.mp hq] at h2
      exact hc _ _ hp' p hp (by rw [← Option.some.inj (h1.symm.trans h2)])
    cases f with
    | ret v => exact .ret p
    | brk => exact .brk p
    | next => exact .next (fin p)
    | cont => exact .cont (fin p)
  · rintro h' tk m' news' F' N' _ ⟨c, u, rfl, hp', hm'⟩
    exact done c u m' h' tk hp' (fr F' hm') N'
end

/-! Lists of answers (none: refused), read as data. -/
def OIn (h₀ : Heap) (Y : List (Addr × Obj)) (v : Value) (r : Option D) : Prop := match r with
  | none => ∃ t, v = .str (S "refused") t
  | some d => DIn h₀ Y v d
def OAt (h : Heap) (v : Value) (r : Option D) : Prop := match r with
  | none => ∃ t, v = .str (S "refused") t
  | some d => DAt h v d
inductive OAll (h₀ : Heap) (Y : List (Addr × Obj)) : List Value → List (Option D) → Prop
  | nil : OAll h₀ Y [] []
  | cons {v r vs rs} : OIn h₀ Y v r → OAll h₀ Y vs rs → OAll h₀ Y (v :: vs) (r :: rs)
open PySem.Spec in
def pdO (r : Option D) : PyData := match r with
  | none => .str (S "refused")
  | some d => pd d
section
variable {h₀ h h' : Heap} {L r : Addr} {m : Str → Option Value} {news l Y Y' : List (Addr × Obj)} {o : Obj} {v : Value} {d : D} {q : Option D} {vs us : List Value} {ds : List D} {rs qs : List (Option D)}
theorem OIn.mono (x : OIn h₀ Y v q) (k : ∀ p ∈ Y, p ∈ Y') : OIn h₀ Y' v q := by
  cases q with
  | none => exact x
  | some d => exact DIn.mono x k
theorem OIn.at (x : OIn h₀ Y v q) (F : Fr h₀ L h m) (N : News h₀ L h news) (k : ∀ p ∈ Y, p ∈ news) : OAt h v q := by
  cases q with
  | none => exact x
  | some d => exact DIn.at x F N k
theorem OAll.mono (x : OAll h₀ Y vs rs) (k : ∀ p ∈ Y, p ∈ Y') : OAll h₀ Y' vs rs := by
  induction x with
  | nil => exact .nil
  | cons a _ ih => exact .cons (a.mono k) ih
theorem OAll.length (x : OAll h₀ Y vs rs) : vs.length = rs.length := by
  induction x with
  | nil => rfl
  | cons _ _ ih => simp [ih]
theorem OAll.append (x : OAll h₀ Y vs rs) (y : OAll h₀ Y us qs) : OAll h₀ Y (vs ++ us) (rs ++ qs) := by
  induction x with
  | nil => exact y
  | cons a _ ih => exact .cons a ih
theorem OAll.get (x : OAll h₀ Y vs rs) {k : Nat} (hk : k < rs.length) : ∃ v, vs[k]? = some v ∧ OIn h₀ Y v (rs[k]'hk) := by
  induction x generalizing k with
  | nil => exact absurd hk (Nat.not_lt_zero _)
  | cons a _ ih =>
    cases k with
    | zero => exact ⟨_, rfl, a⟩
    | succ k => exact ih (Nat.lt_of_succ_lt_succ hk)
theorem OAt.keeps (x : OAt h v q) (k : h.StaysIn h') : OAt h' v q := by
  cases q with
  | none => exact x
  | some d => exact DAt.keeps x k
theorem OAt.reads (x : OAt h v q) : ∃ as, Reads h v (pdO q) as := by
  cases q with
  | none => obtain ⟨t, rfl⟩ := x; exact ⟨_, Reads.str _ _⟩
  | some d => exact DAt.reads x
theorem DAll.reads (x : DAll h₀ Y vs ds) (F : Fr h₀ L h m) (N : News h₀ L h news) (k : ∀ p ∈ Y, p ∈ news) : ∃ as, ReadsAll h vs (ds.map pd) as := by
  induction x with
  | nil => exact ⟨_, .nil⟩
  | cons a _ ih =>
    obtain ⟨as, ra⟩ := (a.at F N k).reads
    obtain ⟨bs, rb⟩ := ih
    exact ⟨_, .cons ra rb⟩
theorem OAll.reads (x : OAll h₀ Y vs rs) (F : Fr h₀ L h m) (N : News h₀ L h news) (k : ∀ p ∈ Y, p ∈ news) : ∃ as, ReadsAll h vs (rs.map pdO) as := by
  induction x with
  | nil => exact ⟨_, .nil⟩
  | cons a _ ih =>
    obtain ⟨as, ra⟩ := (a.at F N k).reads
    obtain ⟨bs, rb⟩ := ih
    exact ⟨_, .cons ra rb⟩
end
open PySem.Spec in
theorem pdO_eqv (q e : Option D) : PyData.eqv (pdO q) (pdO e) = decide (q = e) := by
  rcases q with _ | _ | ⟨p, q⟩ <;> rcases e with _ | _ | ⟨p', q'⟩ <;> simp [pdO, pd, PyData.eqv, PyData.eqvAll] <;> first | done | rfl | grind
open PySem.Spec in
theorem pdO_lay (q : Option D) : (pdO q).canLay0 = true ∧ (pdO q).depth ≤ 1 := by
  rcases q with _ | _ | ⟨p, q⟩ <;> simp [pdO, pd, PyData.canLay0, PyData.canLayAll0, PyData.depth, PyData.depthAll] <;> decide +kernel
open PySem.Spec in
theorem pdO_layAll (rs : List (Option D)) : PyData.canLayAll0 (rs.map pdO) = true ∧ PyData.depthAll (rs.map pdO) ≤ 1 := by
  induction rs with
  | nil => exact ⟨rfl, by simp [PyData.depthAll]⟩
  | cons a r ih =>
    have h := pdO_lay a
    refine ⟨by simp [PyData.canLayAll0, h.1, ih.1], ?_⟩
    simp only [List.map_cons, PyData.depthAll]
    omega
open PySem.Spec in
theorem pdO_shaped (q : Option D) : SeqAt.shaped (pdO q) = true := by
  have h := pdO_lay q
  simp only [SeqAt.shaped, h.1, Bool.true_and, decide_eq_true_eq]; omega
open PySem.Spec in
theorem pdL_shaped (rs : List (Option D)) : SeqAt.shaped (.list (rs.map pdO)) = true := by
  have h := pdO_layAll rs
  refine Bool.and_eq_true_iff.mpr ⟨by simpa [PyData.canLay0] using h.1, decide_eq_true ?_⟩
  have e : PyData.depth (.list (rs.map pdO)) = PyData.depthAll (rs.map pdO) + 1 := by simp [PyData.depth]
  omega
open PySem.Spec in
theorem pdO_eqvAll (rs qs : List (Option D)) : PyData.eqvAll (rs.map pdO) (qs.map pdO) = decide (rs = qs) := by
  induction rs generalizing qs with
  | nil => cases qs <;> simp [PyData.eqvAll]
  | cons a r ih =>
    cases qs with
    | nil => simp [PyData.eqvAll]
    | cons b q => simp [PyData.eqvAll, pdO_eqv, ih, Bool.decide_and]
open PySem.Spec in
theorem pdO_any (rs : List (Option D)) (q : Option D) : ((rs.map pdO).any fun y => PyData.eqv y (pdO q)) = decide (q ∈ rs) := by
  induction rs with
  | nil => simp
  | cons a r ih =>
    simp only [List.map_cons, List.any_cons, ih, pdO_eqv, List.mem_cons]
    by_cases h : a = q
    · simp [h]
    · have h' : ¬ q = a := fun e => h e.symm
      simp [h, h']
theorem map_some (ds : List D) : ds.map pd = (ds.map some).map pdO := by simp [pdO, Function.comp_def]
section
variable {prog : Program} {w : World} {A : Around} {E : Value → Shared → Prop} {s : Shared} {v u : Value} {r e : Option D} {Q : Value → Shared → Prop} {h₀ : Heap} {L a b : Addr} {m : Str → Option Value} {news Y Y' : List (Addr × Obj)} {o o' : Obj} {vs us : List Value} {k k' : Nat} {ds es : List D} {rs qs : List (Option D)}
theorem mnEqO (hv : OAt s.heap v r) (hu : OAt s.heap u e) (hA : A.units + 64 < cLine) (h : Q (.bool (decide (r = e))) s) : wpAny (model prog w) A (compareOp .Eq v u) Q E s := by
  obtain ⟨as, ra⟩ := hv.reads
  obtain ⟨bs, rb⟩ := hu.reads
  exact eq_dataH ra rb (pdO_shaped r) (pdO_shaped e) hA (by rw [pdO_eqv]; exact h)
/-- a list of the ledger, read as answers -/
def LAt (h : Heap) (a : Addr) (rs : List (Option D)) : Prop := ∃ as, Reads h (.ref a) (.list (rs.map pdO)) as
theorem LAt.of (x : OAll h₀ Y vs rs) (F : Fr h₀ L s.heap m) (N : News h₀ L s.heap news) (sub : ∀ p ∈ Y, p ∈ news) (hm : (a, o) ∈ news) (hc : o.cls = .type "list") (hd : o.data = .seq vs.toArray k) : LAt s.heap a rs := by
  obtain ⟨as, ra⟩ := x.reads F N sub
  exact ⟨_, reads_list_at (N.get hm) hc hd (by simpa using ra)⟩
theorem LAt.ofD (x : DAll h₀ Y vs ds) (F : Fr h₀ L s.heap m) (N : News h₀ L s.heap news) (sub : ∀ p ∈ Y, p ∈ news) (hm : (a, o) ∈ news) (hc : o.cls = .type "list") (hd : o.data = .seq vs.toArray k) : LAt s.heap a (ds.map some) := by
  obtain ⟨as, ra⟩ := x.reads F N sub
  rw [map_some] at ra
  exact ⟨_, reads_list_at (N.get hm) hc hd (by simpa using ra)⟩
theorem mnEqL (ha : LAt s.heap a rs) (hb : LAt s.heap b qs) (hA : A.units + 64 < cLine) (h : Q (.bool (decide (rs = qs))) s) : wpAny (model prog w) A (compareOp .Eq (.ref a) (.ref b)) Q E s := by
  obtain ⟨as, ra⟩ := ha
  obtain ⟨bs, rb⟩ := hb
  exact eq_dataH ra rb (pdL_shaped rs) (pdL_shaped qs) hA (by simp only [PyData.eqv, pdO_eqvAll]; exact h)
theorem mnNeL (ha : LAt s.heap a rs) (hb : LAt s.heap b qs) (hA : A.units + 64 < cLine) (h : Q (.bool (!decide (rs = qs))) s) : wpAny (model prog w) A (compareOp .NotEq (.ref a) (.ref b)) Q E s := by
  obtain ⟨as, ra⟩ := ha
  obtain ⟨bs, rb⟩ := hb
  exact ne_dataH ra rb (pdL_shaped rs) (pdL_shaped qs) hA (by simp only [PyData.eqv, pdO_eqvAll]; exact h)
theorem mnInL (ha : LAt s.heap a rs) (hv : OAt s.heap v r) (hA : A.units + 64 < cLine) (h : Q (.bool (decide (r ∈ rs))) s) : wpAny (model prog w) A (compareOp .In v (.ref a)) Q E s := by
  obtain ⟨as, ra⟩ := ha
  obtain ⟨bs, rb⟩ := hv.reads
  have h1 := pdO_layAll rs
  have h2 := pdO_lay r
  exact SeqAt.in_list_reads ra rb h1.1 h2.1 (by have := Nat.min_le_left (PyData.depthAll (rs.map pdO)) (PyData.depth (pdO r)); omega) (by rw [pdO_any]; exact h)
/-- not in a tuple of two -/
theorem mnNotInT {v1 v2 : Value} {r1 r2 : Option D} (ht : IsTup s.heap a #[v1, v2]) (h1 : OAt s.heap v1 r1) (h2 : OAt s.heap v2 r2) (hv : OAt s.heap v r) (hA : A.units + 64 < cLine) (h : Q (.bool (!decide (r ∈ [r1, r2]))) s) : wpAny (model prog w) A (compareOp .NotIn v (.ref a)) Q E s := by
  obtain ⟨as, ra⟩ := h1.reads
  obtain ⟨bs, rb⟩ := h2.reads
  obtain ⟨cs, rc⟩ := hv.reads
  obtain ⟨o, ho, hc, n, hd⟩ := ht
  have l1 := pdO_layAll [r1, r2]
  have l2 := pdO_lay r
  exact SeqAt.notIn_tuple_reads (xs := [r1, r2].map pdO) (reads_tuple_at ho hc hd (.cons ra (.cons rb .nil))) rc l1.1 l2.1 (by have := Nat.min_le_left (PyData.depthAll ([r1, r2].map pdO)) (PyData.depth (pdO r)); omega) (by rw [pdO_any]; exact h)
end

/-! error.message of the caught refusal -/
section
variable {w : World} {A : Around} {E : Value → Shared → Prop}
theorem lookIn_ns {h : Heap} {dx : Addr} {m : Str → Option Value} {n : Str} {v : Value} (G : h.Ns dx m) (hv : m n = some v) : ∃ o, h.get? dx = some o ∧ lookIn n o = some (some v) := by
  obtain ⟨o, es, ep, ho, hd, _, hf⟩ := G
  refine ⟨o, ho, ?_⟩
  have e := (hf n).trans hv
  unfold nsFind findBy at e
  unfold lookIn
  rw [hd]
  dsimp only
  rw [← Array.find?_toList] at e
  cases q : es.toList.find? (fun x => x.key.isStr n) with
  | none => rw [q] at e; cases e
  | some x => rw [q] at e; cases e; rfl
theorem oga_value (self : Value) (name : Str) (tk : Tok) : ∃ k : Value → Builtin.ObjectAttr.Found → Sem Fin, Builtin.«object.__getattribute__» ⟨[self, .str name tk], []⟩ = (typeOf self >>= fun tp => Builtin.ObjectAttr.find self tp name >>= fun f => k tp f) ∧ (∀ tp v, k tp (.value v) = ret v) := ⟨_, rfl, fun _ _ => rfl⟩
theorem read_msg {s : Shared} {e dx : Addr} {vs : Array Value} {sl : Array (Option Value)} {msg : Str} {expr : Bool} {Q : Value → Shared → Prop} (X : (hd.heap_1 w.params).In s.heap) (he : s.heap.get? e = some ⟨.ref 65, some dx, .fields vs, sl⟩) (hm : MsgAt s.heap dx msg)
    (k : ∀ t, Q (.str msg t) { s with toks := s.toks + 1 }) : wpAny (model PG w) A (getAttr (.ref e) (S "message") expr) Q E s := by
  obtain ⟨m, tk, hn, hv⟩ := hm
  obtain ⟨od, hod, hl⟩ := lookIn_ns hn hv
  obtain ⟨hp, g, d, t, os⟩ := s
  have I : InstAt hp e ⟨.ref 65, some dx, .fields vs, sl⟩ 65 (some od) := ⟨he, rfl, rfl, hod⟩
  have L0 := I.type (M := model PG w)
  have L1 := looks_findIn (M := model PG w) (t := .ref 65) (name := "__getattribute__") (r := some (.builtin "BaseException.__getattribute__")) X (by k_is)
  have L2 := looks_findIn (M := model PG w) (t := .ref 65) (name := "__getattr__") (r := none) X (by k_is)
  have L3 := looks_find (M := model PG w) X I (findObj_own (by k_is) (attr := none) (by k_is) (by k_is) hl)
  have FX := PySem.F.attrBase_Exception
  have hx0 : (expr && onTheHeap (Value.builtin "BaseException.__getattribute__")) = false := by cases expr <;> rfl
  have hx2 : (Value.builtin "BaseException.__getattribute__" == Value.builtin "object.__getattribute__") = false := by decide +kernel
  have hx1 : (onTheHeap (Value.ref 65) && Value.builtin "BaseException.__getattribute__" == Value.builtin "object.__getattribute__") = false := by rw [hx2]; rfl
  have hk : builtinKind "BaseException.__getattribute__" = some .slot := by decide +kernel
  have hsplit : splitId "BaseException.__getattribute__" = some ("BaseException", "__getattribute__") := by decide +kernel
  have sub : Looks (model PG w) hp (isInstance (.ref e) (.type "BaseException")) true := L0.andThen (looks_mroIn X (by k_is))
  unfold getAttr getAttrBy
  refine wpAny_bind (wpAny_mkText (wpAny_holding (wpAny_bind (L0.at (wpAny_bind (L1.at ?_))))))
  dsimp only
  rw [hx1]
  simp only [Bool.false_eq_true, if_false]
  unfold getAttrByItsOwn hookBefore callGetattribute boundAndCalled
  rw [if_pos (show onTheHeap (Value.ref 65) = true from rfl), hx0]
  simp only [Bool.false_eq_true, if_false]
  refine wpAny_bind (L2.at (wpAny_bind (wpAny_attempt (wpAny_holding ?_))))
  rw [FX.ga.bind]
  refine wpAny_bind (wpAny_pure ?_)
  with_reducible show wpAny _ _ (call (.builtin "BaseException.__getattribute__") ([.ref e] ++ [.str (S "message") t])) _ _ _
  rw [List.singleton_append]
  refine wpAny_call ?_
  refine codeAny_call_builtin FX.ga.plain PySem.F.entry_bexc_ga ?_
  refine @check_slot (model PG w) _ _ ⟨hp, g, d, t + 1, os⟩ "BaseException.__getattribute__" "BaseException" "__getattribute__" (.ref e) [.str (S "message") t] [] _ hk hsplit sub (PySem.F.args_bexc_ga _ _) ?_
  obtain ⟨kk, e1, e2⟩ := oga_value (.ref e) (S "message") t
  rw [e1]
  refine wpAny_bind (L0.at (wpAny_bind (L3.at ?_)))
  rw [e2]
  refine wpAny_pure ?_
  dsimp only
  show wpAny _ _ (handedOut _) _ _ _
  rw [handedOut_of rfl]
  exact wpAny_pure (k _)
end

/-! What the law's objects look like: a Vector's dict, the interpreter's dict; the law's own text by its place in the row. -/
@[reducible] def ent (w : World) (k : String) (t : Tok) (v : Value) : DictEntry := { hash := PyData.keyHash w.params (Str.ofString k), key := .str (Str.ofString k) t, val := v }
def lawDef : List Stmt × Scope := match PySem.Challenge.pw_pq1419_01.main.body.getLast? with
  | some (.FunctionDef _ _ b _ _ _ sc _ _ _) => (b, sc)
  | _ => ([], default)
def lawBody : List Stmt := lawDef.1
def lawScope : Scope := lawDef.2
theorem Fr.see {h₀ h : Heap} {L : Addr} {m : Str → Option Value} {x : Str} {v : Value} (F : Fr h₀ L h m) (hx : m x = some v) : Fr h₀ L h (fun y => if y = x then some v else m y) := by
  have e : (fun y => if y = x then some v else m y) = m := funext fun y => by
    by_cases q : y = x
    · rw [if_pos q, q, hx]
    · rw [if_neg q]
  rw [e]; exact F
abbrev fnSc (nm : List (Str × NameKind)) (mo : List (Str × Const)) : Scope := { kind := .function, names := nm, isGenerator := false, isCoroutine := false, more := mo }
theorem as_cons {M : Model} {A : Around} {env : Env} {l r : List Stmt} {a : Stmt} {Q : Flow → Shared → Prop} {E : Value → Shared → Prop} {s : Shared} (e : l = a :: r) (h : wpAny M A (execs (a :: r) env) Q E s) : wpAny M A (execs l env) Q E s := e ▸ h

/-! Objects in the making: a class of the text whose __init__ sets attributes; the dict by what it answers. -/
def AtD (o : Obj) (f : Str → Option Value) (c : Nat) : Prop := ∃ es n, o = dictOf es n ∧ es.any (·.refKey) = false ∧ es.length ≤ c ∧ ∀ x, getL x es = some (f x)
def upf (f : Str → Option Value) (n : Str) (v : Value) (x : Str) : Option Value := if x = n then some v else f x
theorem atD_nil {c : Nat} : AtD (dictOf [] 0) (fun _ => none) c := ⟨[], 0, rfl, rfl, Nat.zero_le _, fun _ => rfl⟩
theorem AtD.cls {o : Obj} {f : Str → Option Value} {c : Nat} (a : AtD o f c) : o.cls = .type "dict" := by
  obtain ⟨es, n, rfl, _⟩ := a; rfl
theorem AtD.look {o : Obj} {f : Str → Option Value} {c : Nat} {x : Str} {r : Option Value} (a : AtD o f c) (e : f x = r) : lookIn x o = some r := by
  obtain ⟨es, n, rfl, _, _, h⟩ := a
  rw [lookIn_dict, h, e]
theorem getL_put {name : Str} {hs : Int} {t : Tok} {v : Value} : ∀ {es : List DictEntry} {x : Str}, es.any (·.refKey) = false → getL x (putL name hs (.str name t) v es) = if x = name then some (some v) else getL x es
  | [], x, _ => by
    unfold putL getL
    by_cases h : x = name
    · subst h; simp [Value.isStr]
    · have : (name == x) = false := beq_eq_false_iff_ne.mpr (Ne.symm h)
      simp [h, Value.isStr, this, DictEntry.refKey]
  | e :: r, x, hr => by
    rw [List.any_cons, Bool.or_eq_false_iff] at hr
    have ih := getL_put (name := name) (hs := hs) (t := t) (v := v) (es := r) (x := x) hr.2
    unfold putL
    by_cases hn : e.key.isStr name = true
    · rw [if_pos hn]
      obtain ⟨s, tk, hk, hs⟩ : ∃ s tk, e.key = .str s tk ∧ s = name := by
        revert hn; cases e.key <;> simp [Value.isStr]
      subst hs
      by_cases h : x = s
      · subst h
        rw [if_pos rfl]
        unfold getL
        rw [List.find?_cons_of_pos (by simp [hk, Value.isStr])]
      · rw [if_neg h]
        have h1 : e.key.isStr x = false := by rw [hk]; exact beq_eq_false_iff_ne.mpr (Ne.symm h)
        unfold getL
        rw [List.find?_cons_of_neg (by simp [h1]), List.find?_cons_of_neg (by simp [h1])]
        rfl
    · rw [if_neg hn]
      unfold getL at ih ⊢
      by_cases h1 : e.key.isStr x = true
      · have h : x ≠ name := fun q => hn (q ▸ h1)
        rw [if_neg h]
        simp only [List.find?_cons, h1]
      · have h1 : e.key.isStr x = false := by simpa using h1
        simp only [List.find?_cons, h1, List.any_cons, hr.1, Bool.false_or]
        exact ih
theorem put_ref {name : Str} {hs : Int} {t : Tok} {v : Value} : ∀ {es : List DictEntry}, es.any (·.refKey) = false → (putL name hs (.str name t) v es).any (·.refKey) = false
  | [], _ => rfl
  | e :: r, hr => by
    rw [List.any_cons, Bool.or_eq_false_iff] at hr
    unfold putL
    split
    · rw [List.any_cons, hr.2, Bool.or_false]; exact hr.1
    · rw [List.any_cons, hr.1, Bool.false_or]; exact put_ref hr.2
theorem put_len {name : Str} {hs : Int} {k v : Value} : ∀ {es : List DictEntry}, (putL name hs k v es).length ≤ es.length + 1
  | [] => Nat.le_refl _
  | e :: r => by
    unfold putL
    split
    · exact Nat.le_succ _
    · exact Nat.succ_le_succ put_len
theorem put_len1 {name : Str} {hs : Int} {k v : Value} : ∀ {es : List DictEntry} {u : Value}, getL name es = some (some u) → (putL name hs k v es).length = es.length
  | [], _, h => by cases h
  | e :: r, u, h => by
    unfold putL
    split
    · rfl
    · rename_i hn
      refine congrArg (· + 1) (put_len1 (u := u) ?_)
      unfold getL at h ⊢
      rw [List.find?_cons_of_neg (by simpa using hn)] at h
      revert h
      cases List.find? (fun x => x.key.isStr name) r with
      | some e' => exact id
      | none => intro h; dsimp only at h; split at h <;> cases h
/-- what a class's attribute asks to be set plainly -/
structure ClsOk (K : Frag) (C : Addr) : Prop where
  hs : findIn K (.ref C) "__setattr__" = some (some (.builtin "object.__setattr__"))
  hp : plainOver K C = true
  hh : hasDictIn K C = true
section
variable {prog : Program} {w : World} {A : Around} {E : Value → Shared → Prop} {s : Shared} {K : Frag} {x C d L : Addr} {h₀ : Heap} {m : Str → Option Value} {name : Str} {v : Value} {R : List (Addr × Obj)} {oD : Obj} {f : Str → Option Value} {c : Nat}
theorem set_at {Q : Unit → Shared → Prop} {news : List (Addr × Obj)} {g : Obj → List (Addr × Obj)} (F : Fr h₀ L s.heap m) (X₀ : K.In h₀) (N : News h₀ L s.heap news) (mi : (x, instObj C d) ∈ news) (U : UpdF d oD news g) (a : AtD oD f c) (hc : c < 1000)
    (k1 : ClsOk K C) (k2 : takerIn K C name = some none)
    (h : ∀ h' oD', AtD oD' (upf f name v) (c + 1) → ((∃ u, f name = some u) → AtD oD' (upf f name v) c) → Fr h₀ L h' m → News h₀ L h' (g oD') → Q () { s with heap := h', toks := s.toks + 2 }) : wpAny (model prog w) A (setAttr (.ref x) name v) Q E s := by
  obtain ⟨pre, post, rfl, hg, n1, n2⟩ := U.split
  obtain ⟨q1, q2, q3⟩ := k1
  obtain ⟨es, n, rfl, hr, hl, hf⟩ := a
  have key : ∀ y, getL y (putL name (PyData.keyHash w.params name) (.str name (s.toks + 1)) v es) = some (upf f name v y) := fun y => by
    rw [getL_put hr, hf]; unfold upf; split <;> rfl
  refine set_dict (es' := putL name (PyData.keyHash w.params name) (.str name (s.toks + 1)) v es) (n' := putN name es n) F X₀ N (InstAt.of_news N mi (List.mem_append_right _ (.head _))) rfl q1 q2 k2 q3 (by rw [hf]; rfl) rfl (news' := g _) ?_ (Nat.le_trans put_len (Nat.le_trans (Nat.succ_le_succ hl) hc)) fun h' F' N' => h h' (dictOf (putL name (PyData.keyHash w.params name) (.str name (s.toks + 1)) v es) (putN name es n)) ⟨_, _, rfl, put_ref hr, Nat.le_trans put_len (Nat.succ_le_succ hl), key⟩ (fun ⟨u, hu⟩ => ⟨_, _, rfl, put_ref hr, Nat.le_trans (Nat.le_of_eq (put_len1 (u := u) (by rw [hf, hu]))) hl, key⟩) F' N'
  rw [hg]
  clear hg U F N mi
  induction pre with
  | nil => exact .head n2
  | cons p r ih => exact .tail (n1 p (.head _)) (ih fun q hq => n1 q (.tail _ hq))
end
/-- what stands to the right in an __init__ -/
inductive Rhs where
  | const (c : Const) | name (y : Str) | list | dict
def Rhs.Is (value : Expr) : Rhs → Prop
  | .const c => ∃ k p, value = .Constant c k p
  | .name y => ∃ p, value = .Name y p ∧ (y == ("__debug__" : Str)) = false
  | .list => ∃ p, value = .List [] p
  | .dict => ∃ p, value = .Dict [] [] p
def Asg (st : Stmt) (x : Str × Rhs) : Prop := ∃ value p1 p2 p3, st = .Assign [.Attribute (.Name (S "self") p1) x.1 p2] value p3 ∧ x.2.Is value
noncomputable def Asgs : List Stmt → List (Str × Rhs) → Prop
  | [], [] => True
  | st :: r, x :: l => Asg st x ∧ Asgs r l
  | _, _ => False
def RVal (w : World) (m : Str → Option Value) (R : List (Addr × Obj)) (r : Rhs) (v : Value) : Prop := match r with
  | .const .none => v = .none
  | .const (.bool b) => v = .bool b
  | .const (.int n) => ∃ t, v = .int n t
  | .const (.str x) => ∃ t, v = .str x t
  | .const _ => False
  | .name y => m y = some v
  | .list => ∃ l, v = .ref l ∧ (l, listOf #[] 0) ∈ R
  | .dict => ∃ l o, v = .ref l ∧ (l, o) ∈ R ∧ o.IsDictOf (PySem.strKind PG w) [] ∧ PyProof.V.FlatPairs PyData.str ([] : List (Str × Value)) [] ∧ (l == sysModules) = false
def RIn (m : Str → Option Value) (scope : Scope) (r : Rhs) : Prop := match r with
  | .name y => scope.names.lookup y = some .local ∧ ∃ v, m y = some v
  | .const .none | .const (.bool _) | .const (.int _) | .const (.str _) => True
  | .const _ => False
  | _ => True
theorem RVal.mono {w : World} {m : Str → Option Value} {R R' : List (Addr × Obj)} {r : Rhs} {v : Value} (h : RVal w m R r v) (k : ∀ p ∈ R, p ∈ R') : RVal w m R' r v := by
  cases r with
  | const c => cases c <;> exact h
  | name y => exact h
  | list => obtain ⟨l, e, hm⟩ := h; exact ⟨l, e, k _ hm⟩
  | dict => obtain ⟨l, o, e, hm, z⟩ := h; exact ⟨l, o, e, k _ hm, z⟩
noncomputable def Puts (w : World) (m : Str → Option Value) (R : List (Addr × Obj)) : (Str → Option Value) → List (Str × Rhs) → (Str → Option Value) → Prop
  | f, [], f' => f' = f
  | f, (n, r) :: l, f' => ∃ v, RVal w m R r v ∧ Puts w m R (upf f n v) l f'
theorem Puts.mono {w : World} {m : Str → Option Value} {R R' : List (Addr × Obj)} (k : ∀ p ∈ R, p ∈ R') : ∀ {l : List (Str × Rhs)} {f f' : Str → Option Value}, Puts w m R f l f' → Puts w m R' f l f'
  | [], _, _, h => h
  | (_, _) :: _, _, _, ⟨v, h, z⟩ => ⟨v, h.mono k, Puts.mono k z⟩
theorem Puts.other {w : World} {m : Str → Option Value} {R : List (Addr × Obj)} {x : Str} : ∀ {l : List (Str × Rhs)} {f f' : Str → Option Value}, Puts w m R f l f' → (l.any fun p => decide (x = p.1)) = false → f' x = f x
  | [], _, _, h, _ => by cases h; rfl
  | (n, _) :: l, f, _, ⟨v, _, z⟩, e => by
    rw [List.any_cons, Bool.or_eq_false_iff] at e
    rw [Puts.other z e.2]
    unfold upf
    rw [if_neg (of_decide_eq_false e.1)]
/-- the last that is put under a name -/
noncomputable def lastOf (x : Str) : List (Str × Rhs) → Option Rhs
  | [] => none
  | (n, r) :: l => match lastOf x l with
    | some r' => some r'
    | none => if x = n then some r else none
theorem lastOf_none {x : Str} : ∀ {l : List (Str × Rhs)}, lastOf x l = none → (l.any fun p => decide (x = p.1)) = false
  | [], _ => rfl
  | (n, r) :: l, h => by
    unfold lastOf at h
    rw [List.any_cons, Bool.or_eq_false_iff]
    cases e : lastOf x l with
    | some r' => rw [e] at h; cases h
    | none =>
      rw [e] at h
      refine ⟨decide_eq_false fun q => ?_, lastOf_none e⟩
      dsimp only at h
      rw [if_pos q] at h; cases h
theorem Puts.get {w : World} {m : Str → Option Value} {R : List (Addr × Obj)} {x : Str} {r : Rhs} : ∀ {l : List (Str × Rhs)} {f f' : Str → Option Value}, Puts w m R f l f' → lastOf x l = some r → ∃ v, RVal w m R r v ∧ f' x = some v
  | [], _, _, _, h => by cases h
  | (n, r') :: l, f, _, ⟨v, hv, z⟩, h => by
    unfold lastOf at h
    cases e : lastOf x l with
    | some r'' => rw [e] at h; cases h; exact Puts.get z e
    | none =>
      rw [e] at h
      dsimp only at h
      split at h
      · rename_i q; cases h
        refine ⟨v, hv, ?_⟩
        rw [Puts.other z (lastOf_none e)]
        unfold upf; rw [if_pos q]
      · cases h
section
variable {w : World} {A : Around} {E : Value → Shared → Prop} {K : Frag} {x C d L fa : Addr} {h₀ : Heap} {m : Str → Option Value} {oD : Obj} {f : Str → Option Value} {q : Str} {scope : Scope} {cd : Value}
theorem three {h h₀ : Heap} {L : Addr} {a b c : Addr × Obj} {R : List (Addr × Obj)} (N : News h₀ L h (a :: b :: c :: R)) : News h₀ L h (b :: c :: ([a] ++ R)) := fun p hp => by
  rcases List.mem_cons.mp hp with rfl | hp
  · exact N _ (.tail _ (.head _))
  · rcases List.mem_cons.mp hp with rfl | hp
    · exact N _ (.tail _ (.tail _ (.head _)))
    · rcases List.mem_cons.mp hp with rfl | hp
      · exact N _ (.head _)
      · exact N _ (.tail _ (.tail _ (.tail _ hp)))
theorem sets_run {K : Frag} (X₀ : K.In h₀) (hbig : h₀.NoLimit) (k1 : ClsOk K C) (hs : m (S "self") = some (.ref x)) (hk : scope.kind = .function) (hx : scope.names.lookup (S "self") = some .local) (hdx : @LT.lt Nat _ d x) {rest : List Stmt} :
    ∀ (body : List Stmt) (l : List (Str × Rhs)) (R : List (Addr × Obj)) (s : Shared) (oD : Obj) (f : Str → Option Value) (c : Nat) (Q : Flow → Shared → Prop), Asgs body l → (∀ p ∈ l, takerIn K C p.1 = some none) → (∀ p ∈ l, RIn m scope p.2) → c + l.length ≤ 1000 →
      Fr h₀ L s.heap m → News h₀ L s.heap ((x, instObj C d) :: (d, oD) :: R) → (∀ p ∈ R, @LT.lt Nat _ x p.1) → AtD oD f c →
      (∀ h' oD' f' R' tk, Fr h₀ L h' m → News h₀ L h' ((x, instObj C d) :: (d, oD') :: (R' ++ R)) → (∀ p ∈ R', @LT.lt Nat _ x p.1) → AtD oD' f' (c + l.length) → Puts w m R' f l f' →
        wpAny (model PG w) A (execs rest (envOf q scope L fa cd)) Q E { s with heap := h', toks := tk }) →
      wpAny (model PG w) A (execs (body ++ rest) (envOf q scope L fa cd)) Q E s
  | [], [], R, s, oD, f, c, Q, _, _, _, _, F, N, _, a, k => k s.heap oD f [] s.toks F N (fun _ h => nomatch h) a rfl
  | [], _ :: _, _, _, _, _, _, _, e, _, _, _, _, _, _, _, _ => e.elim
  | _ :: _, [], _, _, _, _, _, _, e, _, _, _, _, _, _, _, _ => e.elim
  | st :: body, (n, r) :: l, R, s, oD, f, c, Q, e, ok, hn, hc, F, N, lR, a, k => by
    obtain ⟨⟨value, p1, p2, p3, rfl, e1⟩, e2⟩ := e
    rw [List.forall_mem_cons] at ok hn
    obtain ⟨hn1, hn⟩ := hn
    rw [List.length_cons] at hc
    have go : swapsWith value (some (.Attribute (.Name (S "self") p1) n p2)) p3.line (envOf q scope L fa cd) = pure false →
        (∀ Q' : Value → Shared → Prop, (∀ v h' tk R', Fr h₀ L h' m → News h₀ L h' ((x, instObj C d) :: (d, oD) :: (R' ++ R)) → (∀ p ∈ R', @LT.lt Nat _ x p.1) → RVal w m R' r v → Q' v { s with heap := h', toks := tk }) → wpAny (model PG w) A (eval value (envOf q scope L fa cd)) Q' E s) →
        wpAny (model PG w) A (execs (.Assign [.Attribute (.Name (S "self") p1) n p2] value p3 :: (body ++ rest)) (envOf q scope L fa cd)) Q E s := by
      intro hsw hv
      refine wpAny_execs_cons (plainObj_wpAny_Assign_Attribute (hv _ fun v h' tk R' F' N' lR' rv => ?_) hsw)
      refine nameX_L (s := { s with heap := h', toks := tk }) F' hs ?_ hk hx
      have lRR : ∀ p ∈ R' ++ R, @LT.lt Nat _ x p.1 := fun p hp => (List.mem_append.mp hp).elim (lR' p) (lR p)
      refine set_at (s := { s with heap := h', toks := tk }) (g := fun o => (x, instObj C d) :: (d, o) :: (R' ++ R)) F' X₀ N' (.head _) (.tail (Nat.ne_of_gt hdx) (.head fun p hp => Nat.ne_of_gt (Nat.lt_trans hdx (lRR p hp)))) a (Nat.lt_of_lt_of_le (Nat.lt_add_of_pos_right (Nat.succ_pos _)) hc) k1 ok.1 fun h2 oD2 a2 _ F2 N2 => ?_
      refine sets_run (s := { s with heap := h2, toks := tk + 2 }) X₀ hbig k1 hs hk hx hdx body l (R' ++ R) oD2 _ (c + 1) Q e2 ok.2 hn (by rw [Nat.add_assoc, Nat.add_comm 1]; exact hc) F2 N2 lRR a2 fun h3 oD3 f3 R3 tk3 F3 N3 lR3 a3 P3 => ?_
      exact k h3 oD3 f3 (R3 ++ R') tk3 F3 (by rw [List.append_assoc]; exact N3) (fun p hp => (List.mem_append.mp hp).elim (lR3 p) (lR' p)) (by rw [List.length_cons, Nat.add_comm l.length 1, ← Nat.add_assoc]; exact a3) ⟨v, rv.mono fun p hp => List.mem_append_right _ hp, Puts.mono (fun p hp => List.mem_append_left _ hp) P3⟩
    cases r with
    | const c' =>
      obtain ⟨k', p', rfl⟩ := e1
      cases c' with
      | none => exact go rfl fun Q' hQ => wpAny_Constant_none (hQ _ s.heap s.toks [] F N (fun _ h => nomatch h) rfl)
      | bool b => exact go rfl fun Q' hQ => wpAny_Constant_bool (hQ _ s.heap s.toks [] F N (fun _ h => nomatch h) rfl)
      | int i => exact go rfl fun Q' hQ => wpAny_Constant_int (hQ _ s.heap _ [] F N (fun _ h => nomatch h) ⟨_, rfl⟩)
      | str y => exact go rfl fun Q' hQ => wpAny_Constant_str (hQ _ s.heap _ [] F N (fun _ h => nomatch h) ⟨_, rfl⟩)
      | _ => exact hn1.elim
    | name y =>
      obtain ⟨p', rfl, hy⟩ := e1
      obtain ⟨hl, v, hv⟩ := hn1
      exact go rfl fun Q' hQ => nameX_L F hv (hQ v s.heap s.toks [] F N (fun _ h => nomatch h) hv) hk hl hy
    | list =>
      obtain ⟨p', rfl⟩ := e1
      exact go rfl fun Q' hQ => List_ (spliced_nil (newList_K F N (fun l' h' F' N' lt => hQ _ h' s.toks [(l', listOf #[] 0)] F' (three N') (List.forall_mem_cons.mpr ⟨lt _ (.head _), List.forall_mem_nil _⟩) ⟨l', rfl, .head _⟩)))
    | dict =>
      obtain ⟨p', rfl⟩ := e1
      exact go rfl fun Q' hQ => newDict_K F N hbig fun l' h' o F' N' lt lo d1 d2 _ _ => hQ _ h' s.toks [(l', o)] F' (three N') (List.forall_mem_cons.mpr ⟨lt _ (.head _), List.forall_mem_nil _⟩) ⟨l', o, rfl, .head _, d1, d2, lo⟩
theorem sets_take {K : Frag} (n : Nat) {body : List Stmt} {l : List (Str × Rhs)} {R : List (Addr × Obj)} {s : Shared} {oD : Obj} {f : Str → Option Value} {c : Nat} {Q : Flow → Shared → Prop} (X₀ : K.In h₀) (hbig : h₀.NoLimit) (k1 : ClsOk K C) (hs : m (S "self") = some (.ref x)) (hk : scope.kind = .function) (hx : scope.names.lookup (S "self") = some .local) (hdx : @LT.lt Nat _ d x)
    (e : Asgs (body.take n) l) (ok : ∀ p ∈ l, takerIn K C p.1 = some none) (hn : ∀ p ∈ l, RIn m scope p.2) (hc : c + l.length ≤ 1000)
    (F : Fr h₀ L s.heap m) (N : News h₀ L s.heap ((x, instObj C d) :: (d, oD) :: R)) (lR : ∀ p ∈ R, @LT.lt Nat _ x p.1) (a : AtD oD f c)
    (k : ∀ h' oD' f' R' tk, Fr h₀ L h' m → News h₀ L h' ((x, instObj C d) :: (d, oD') :: (R' ++ R)) → (∀ p ∈ R', @LT.lt Nat _ x p.1) → AtD oD' f' (c + l.length) → Puts w m R' f l f' →
        wpAny (model PG w) A (execs (body.drop n) (envOf q scope L fa cd)) Q E { s with heap := h', toks := tk }) :
    wpAny (model PG w) A (execs body (envOf q scope L fa cd)) Q E s := by
  have := sets_run (rest := body.drop n) X₀ hbig k1 hs hk hx hdx (body.take n) l R s oD f c Q e ok hn hc F N lR a k
  rwa [List.take_append_drop] at this
end
theorem under_tc {A : Around} {C : Addr} {pos : List Value} {kw : List (Str × Value)} : (A.under (.builtin "type.__call__" ⟨.ref C :: pos, kw⟩)).frames = A.frames ∧ (A.under (.builtin "type.__call__" ⟨.ref C :: pos, kw⟩)).depth = A.depth + 1 ∧ (A.under (.builtin "type.__call__" ⟨.ref C :: pos, kw⟩)).units = A.units + 1 := by
  refine ⟨?_, ?_, ?_⟩ <;> rfl
/-- what an __init__ leaves -/
def MEnd (g s₀ : Heap) (Q : Shared → Prop) (fl : Flow) (s' : Shared) : Prop := (match fl with | .ret v => v | _ => .none) = .none ∧ ∃ L'' m' news', Fr g L'' s'.heap m' ∧ News g L'' s'.heap news' ∧ (s₀.StaysIn s'.heap → (∀ p ∈ news', s₀.get? p.1 = none ∧ s'.heap.get? p.1 = some p.2) → Q s')
theorem init_back {x : Addr} {R : Result → Shared → Prop} {v : Value} {s' : Shared} (e : v = .none) (h : R (.ok (.ret (.ref x))) s') : InitBack x R (.ok (.ret v)) s' := ⟨e, h⟩
section
variable {prog : Program} {w : World} {A₀ A : Around} {s : Shared} {base h₀ : Heap} {outer : List Env} {L C fI : Addr} {m : Str → Option Value} {env : Env} {news : List (Addr × Obj)} {K : Frag} {p : Program} {loose : List Str} {mean : ExcName → Option Value} {mg mb : Str → Option Value}
  {Q E : Value → Shared → Prop} {name qual : Str} {params : Arguments} {body : List Stmt} {scope : Scope} {dV kV doc pm cdv ct oc : Value} {an od : Option Addr} {osl : Array (Option Value)} {pos : List Value} {kw : List (Str × Value)} {binds : Addr → List (Str × Value)}
/-- a call of a class of the text; what lies there already stays -/
theorem mk_cls (B : Below A₀ base outer h₀) (F : Fr h₀ L s.heap m) (X₀ : K.In h₀) (T : Top p loose mean mg mb h₀) (hA : A.frames = some (env :: outer)) (hf : env.frame = some L) (hke : env.scope.kind = .function)
    (hm : makesIn K C = true) (hi : findIn K (.ref C) "__init__" = some (some (.ref fI))) (hfn : isFn K (.ref fI) = true)
    (ho : K.lookup fI = some ⟨oc, od, .func (fnOf name qual params body scope dV kV doc pm an cdv ct), osl⟩) (hcd : codeIn K cdv qual = true) (hroom : A.depth + 1 < recursionLimit)
    (hbind : ∀ x s', K.In s'.heap → BindsTo s' (fnOf name qual params body scope dV kV doc pm an cdv ct) ⟨.ref x :: pos, kw⟩ (binds x)) (hloc : ∀ x, ∀ y ∈ binds x, scope.names.lookup y.1 = some .local)
    (h : ∀ A' g L' x dx h₁ tk, A'.frames = some (env :: outer) → A'.depth = A.depth + 1 → A'.units = A.units + 1 → Fr g L' h₁ (fun y => (binds x).reverse.lookup y) → News g L' h₁ [(x, instObj C dx), (dx, dictOf [] 0)] → s.heap.objs.size ≤ dx → @LT.lt Nat _ dx x → Below A' base (env :: outer) g → K.In g → Top p loose mean mg mb g →
      wpAny (model prog w) (A'.deeper (envOf qual scope L' fI cdv)) (execs body (envOf qual scope L' fI cdv)) (MEnd g s.heap (Q (.ref x))) (fun _ _ => False) { s with heap := h₁, toks := tk })
    (hco : scope.isCoroutine = false) (hgen : scope.isGenerator = false) (hk : scope.kind = .function)
    (hcell : ∀ x ∈ scope.names, x.2 ≠ .cell) : wpAny (model prog w) A (call (.ref C) pos kw) Q E s := by
  obtain ⟨hh, g, d, t, os⟩ := s
  have X := X₀.keeps F.keep
  refine wpAny_call (make_core (makes_of X hm) (looks_findIn X hi) (fun self => bind_fn X self (beq_iff_eq.mp hfn)) (.inl rfl) ?_)
  obtain ⟨u1, u2, u3⟩ := under_tc (A := A) (C := C) (pos := pos) (kw := kw)
  generalize A.under (.builtin "type.__call__" ⟨.ref C :: pos, kw⟩) = A' at u1 u2 u3 ⊢
  have sk0 : hh.StaysIn ((hh.push emptyDict).push (instObj C hh.objs.size)) := fun b o e => Heap.get?_push_of_some _ (Heap.get?_push_of_some _ e)
  have F' : Fr h₀ L ((hh.push emptyDict).push (instObj C hh.objs.size)) m := (F.push _).push _
  have N2 : News h₀ L ((hh.push emptyDict).push (instObj C hh.objs.size)) [(hh.objs.size + 1, instObj C hh.objs.size), (hh.objs.size, dictOf [] 0)] := by
    have := ((News.nil (h₀ := h₀) (L := L)).push F emptyDict).push (F.push _) (instObj C hh.objs.size)
    rwa [Heap.size_push] at this
  generalize ((hh.push emptyDict).push (instObj C hh.objs.size)) = h' at sk0 F' N2 ⊢
  obtain ⟨FG, BG, st, lv⟩ := groundX (s := ⟨h', g, d, t, os⟩) (R := fun _ _ => True) B F' N2 (A := A') (u1.trans hA) hf hke
  refine codeAny_call_def (s := ⟨h', g, d, t, os⟩) (fd := fnX name qual params body scope [] dV kV doc pm an cdv ct) (body := body) (binds := binds (hh.objs.size + 1)) (u2 ▸ hroom) ((X₀.keeps F'.keep) _ _ ho) rfl (T.nolimit.keeps F'.keep) (codeRec_of (X₀.keeps F'.keep) hcd) rfl (hbind _ _ (X₀.keeps F'.keep)) hcell (hloc _) (fun h₁ hns hk₁ => ?_) hco hgen hk
  have sk : hh.StaysIn (hideAll h' [hh.objs.size + 1, hh.objs.size]) := fun b o e => hideAll_get _ (sk0 _ _ e) fun hb => by
    have := Heap.lt_size e
    rcases List.mem_cons.mp hb with rfl | hb
    · exact absurd this (Nat.not_lt.mpr (Nat.le_succ _))
    · rcases List.mem_cons.mp hb with rfl | hb
      · exact absurd this (Nat.lt_irrefl _)
      · cases hb
  refine wpAny_mono (h A' _ h'.objs.size (hh.objs.size + 1) hh.objs.size h₁ _ (u1.trans hA) u2 u3 ⟨hns, fun b o e => hk₁ b o (of_hideAll _ e), Nat.le_of_eq (hideAll_size _ _)⟩
    (fun p hp => ⟨hk₁ _ _ (N2 p hp).1, Nat.ne_of_lt (Heap.lt_size (N2 p hp).1), hideAll_none _ (List.mem_map_of_mem hp)⟩) (Nat.le_refl _) (Nat.lt_succ_self _) BG (X₀.keeps st) (T.keeps st)) (fun fl s' hl => ?_) fun _ _ z => z.elim
  obtain ⟨e, L', m', news', F2, N3, k⟩ := hl
  refine init_back e (k (fun b o q => F2.keep _ _ (sk b o q)) fun p hp => ⟨?_, (N3 p hp).1⟩)
  cases q : hh.get? p.1 with
  | none => rfl
  | some o => exact absurd ((sk _ _ q).symm.trans (N3 p hp).2.2) (by simp)
end
theorem newsSub {h₀ h : Heap} {L : Addr} {news l : List (Addr × Obj)} (N : News h₀ L h news) (k : ∀ p ∈ l, p ∈ news) : News h₀ L h l := fun p hp => N p (k p hp)
/-- an object and its dict, both new -/
theorem make2 {h₀ h h' : Heap} {L x d : Addr} {m : Str → Option Value} {ox od : Obj} {news : List (Addr × Obj)} (F : Fr h₀ L h m) (N : News h₀ L h news) (lz : h.objs.size ≤ d) (lx : @LT.lt Nat _ d x) (fx : h.get? x = none) (fd : h.get? d = none) (gx : h'.get? x = some ox) (gd : h'.get? d = some od) (k : h.StaysIn h') : Fr h₀ L h' m ∧ News h₀ L h' ((x, ox) :: (d, od) :: news) ∧ (∀ p ∈ news, @LT.lt Nat _ p.1 d) ∧ ∀ p ∈ (d, od) :: news, @LT.lt Nat _ p.1 x := by
  obtain ⟨oL, es, ep, hL, _⟩ := F.ns
  have ne : ∀ {a : Addr} {o : Obj}, h.get? a = none → h'.get? a = some o → h'.get? a = some o ∧ a ≠ L ∧ h₀.get? a = none := by
    intro a o f g
    refine ⟨g, fun e => ?_, ?_⟩
    · rw [e, hL] at f; cases f
    · cases q : h₀.get? a with
      | none => rfl
      | some o' => exact absurd ((F.keep _ _ q).symm.trans f) (by simp)
  exact ⟨F.keeps k, List.forall_mem_cons.mpr ⟨ne fx gx, List.forall_mem_cons.mpr ⟨ne fd gd, N.grown k⟩⟩, fun p hp => Nat.lt_of_lt_of_le (Heap.lt_size (N p hp).1) lz, List.forall_mem_cons.mpr ⟨lx, fun p hp => Nat.lt_trans (Nat.lt_of_lt_of_le (Heap.lt_size (N p hp).1) lz) lx⟩⟩
/-- a Vector's dict: kind k, the items' list l, the attributes av -/
def VecD (w : World) (k : String) (l : Addr) (av : Value) (o : Obj) : Prop := ∃ f c t, AtD o f c ∧ c ≤ 100 ∧ f (S "kind") = some (.str (S k) t) ∧ f (S "items") = some (.ref l) ∧ f (S "attrs") = some av
/-- the interpreter's dict: the warnings' list W -/
def InterpD (w : World) (W : Addr) (o : Obj) : Prop := ∃ f c, AtD o f c ∧ c ≤ 100 ∧ f (S "warnings") = some (.ref W) ∧ f (S "warner") = some .none ∧ f (S "current") = some .none ∧ f (S "visible") = some (.bool true) ∧ f (S "warn_all") = none ∧ f (S "kind") = none
section
variable {w : World} {s : Shared} {h₀ : Heap} {L : Addr} {m : Str → Option Value}
theorem attr_r {A : Around} {E : Value → Shared → Prop} {Q : Value → Shared → Prop} {K : Frag} {x C D : Addr} {oD : Obj} {name : Str} {v : Value} {news : List (Addr × Obj)} {expr : Bool} {attr : Option Value} (F : Fr h₀ L s.heap m) (X₀ : K.In h₀) (N : News h₀ L s.heap news) (hx : (x, instObj C D) ∈ news) (hd : (D, oD) ∈ news) (hl : lookIn name oD = some (some v)) (hg : plainGet K C name = true) (hh : hasDictIn K C = true) (ha : findIn K (.ref C) name = some attr) (hn : noGet K attr = true) (hv : handedIn v = true) (h : Q v { s with toks := s.toks + 1 }) : wpAny (model PG w) A (getAttr (.ref x) name expr) Q E s :=
  get_value (od := some oD) (X₀.keeps F.keep) ⟨(N _ hx).1, rfl, rfl, (N _ hd).1⟩ (plainGet_of hg).1 (findObj_own hh ha hn hl) hv h
theorem method_r {A : Around} {E : Value → Shared → Prop} {Q : Value × List Value → Shared → Prop} {K : Frag} {x C D f : Addr} {oD : Obj} {name : Str} {news : List (Addr × Obj)} {pl : Sem Bool} (F : Fr h₀ L s.heap m) (X₀ : K.In h₀) (N : News h₀ L s.heap news) (hx : (x, instObj C D) ∈ news) (hd : (D, oD) ∈ news) (hl : lookIn name oD = some none) (hg : plainGet K C name = true) (hf : findIn K (.ref C) name = some (some (.ref f))) (ht : isFn K (.ref f) = true) (h : Q (.ref f, [.ref x]) s) : wpAny (model PG w) A (getMethod (.ref x) name pl) Q E s :=
  method_fn (X₀.keeps F.keep) (InstAt.of_news N hx hd) (plainGet_of hg).1 (plainGet_of hg).2 hf (beq_iff_eq.mp ht) (by show (lookIn name oD).map _ = _; rw [hl]; rfl) h
end
theorem vec_interp {w : World} {l W : Addr} {av : Value} {o o' : Obj} {k : String} (z : VecD w k l av o) (y : InterpD w W o') : o ≠ o' := by
  obtain ⟨f, c, t, a, _, e1, _⟩ := z
  obtain ⟨f', c', a', _, _, _, _, _, _, e2⟩ := y
  intro e
  have h := a.look e1
  rw [e, a'.look e2] at h; cases h
theorem VecD.look {w : World} {l : Addr} {av : Value} {o : Obj} {k : String} (z : VecD w k l av o) : ∃ t, lookIn (S "kind") o = some (some (.str (S k) t)) ∧ lookIn (S "items") o = some (some (.ref l)) ∧ lookIn (S "attrs") o = some (some av) := by
  obtain ⟨f, c, t, a, _, e1, e2, e3⟩ := z
  exact ⟨t, a.look e1, a.look e2, a.look e3⟩
theorem VecD.cls {w : World} {l : Addr} {av : Value} {o : Obj} {k : String} (z : VecD w k l av o) : o.cls = .type "dict" := by
  obtain ⟨f, c, t, a, _⟩ := z; exact a.cls
theorem InterpD.cls {w : World} {W : Addr} {o : Obj} (y : InterpD w W o) : o.cls = .type "dict" := by
  obtain ⟨f, c, a, _⟩ := y; exact a.cls
section
variable {w : World} {A₀ A : Around} {s : Shared} {base h₀ : Heap} {outer : List Env} {L : Addr} {m : Str → Option Value} {env : Env} {p : Program} {loose : List Str} {mean : ExcName → Option Value} {mg mb : Str → Option Value} {Q E : Value → Shared → Prop}
theorem c_vec {kd : String} {t : Tok} {l : Addr} (B : Below A₀ base outer h₀) (F : Fr h₀ L s.heap m) (X₀ : (hd.heap_1 w.params).In h₀) (T : Top p loose mean mg mb h₀) (hA : A.frames = some (env :: outer)) (hf : env.frame = some L) (hke : env.scope.kind = .function) (hroom : A.depth + 1 < recursionLimit)
    (k : ∀ x dx oD h' tk, s.heap.objs.size ≤ dx → @LT.lt Nat _ dx x → s.heap.get? x = none → s.heap.get? dx = none → h'.get? x = some (instObj 92 dx) → h'.get? dx = some oD → VecD w kd l .none oD → s.heap.StaysIn h' → Q (.ref x) { s with heap := h', toks := tk }) :
    wpAny (model PG w) A (call (.ref 92) [.str (S kd) t, .ref l]) Q E s := by
  refine' mk_cls (K := hd.heap_1 w.params) (binds := fun x => [(S "self", .ref x), (S "kind", .str (S kd) t), (S "items", .ref l), (S "attrs", .none)]) B F X₀ T hA hf hke ?hm ?hi ?hfn ?ho ?hcd hroom ?hbind ?hloc ?_ ?c2 ?c3 ?c4 ?c5
  case hm => k_is
  case hi => k_is
  case hfn => k_is
  case ho => k_is
  case hcd => k_is
  case hbind => exact fun x s' X => binds_K X rfl (by k_is) rfl rfl rfl
  case hloc => exact fun x => locs rfl
  case c2 => exact rfl
  case c3 => exact rfl
  case c4 => exact rfl
  case c5 => decide
  intro A' g L' x dx h₁ tk uf ud uu F1 N1 lz lx B1 X1 T1
  refine' sets_take (s := { s with heap := h₁, toks := tk }) 5 (C := 92) X1 T1.nolimit ⟨by k_is, by k_is, by k_is⟩ ?a1 ?a2 ?a3 lx (l := [(S "kind", .name (S "kind")), (S "items", .name (S "items")), (S "attrs", .name (S "attrs")), (S "shared", .const (.bool false)), (S "loose", .const (.bool false))]) (R := []) (oD := dictOf [] 0) (f := fun _ => none) (c := 0) ?e ?ok ?n (by decide) F1 N1 (List.forall_mem_nil _) atD_nil ?_
  case a1 => exact rfl
  case a2 => exact rfl
  case a3 => exact rfl
  case e => repeat (first | exact trivial | refine ⟨⟨_, _, _, _, rfl, by first | exact ⟨_, _, rfl⟩ | exact ⟨_, rfl, rfl⟩ | exact ⟨_, rfl⟩⟩, ?_⟩)
  case ok => repeat (first | exact List.forall_mem_nil _ | refine List.forall_mem_cons.mpr ⟨by k_is, ?_⟩)
  case n => repeat (first | exact List.forall_mem_nil _ | refine List.forall_mem_cons.mpr ⟨by first | exact trivial | exact ⟨rfl, _, rfl⟩, ?_⟩)
  intro h' oD f' R' tk' F2 N2 l2 a2 P2
  refine wpAny_execs_nil ⟨rfl, L', _, _, F2, newsSub N2 (l := [(x, instObj 92 dx), (dx, oD)]) fun p hp => List.mem_append_left (R' ++ []) hp, fun ks fr => ?_⟩
  obtain ⟨v1, r1, e1⟩ := P2.get (x := S "kind") rfl
  obtain ⟨v2, r2, e2⟩ := P2.get (x := S "items") rfl
  obtain ⟨v3, r3, e3⟩ := P2.get (x := S "attrs") rfl
  cases r1; cases r2; cases r3
  have fx := fr _ (.head _)
  have fd := fr _ (.tail _ (.head _))
  exact k x dx oD h' tk' lz lx fx.1 fd.1 fx.2 fd.2 ⟨f', _, t, a2, by decide, e1, e2, e3⟩ ks
end

/-! callR, the ground's stay handed on. -/
section
variable {prog : Program} {w : World} {A₀ A : Around} {s : Shared} {base h₀ : Heap} {outer : List Env} {L : Addr} {m : Str → Option Value} {env : Env} {news : List (Addr × Obj)} {K : Frag} {p : Program} {loose : List Str} {mean : ExcName → Option Value} {mg mb : Str → Option Value}
  {R : Result → Shared → Prop} {name qual : Str} {params : Arguments} {body : List Stmt} {scope : Scope} {dV kV doc pm cdv ct oc : Value} {an od : Option Addr} {osl : Array (Option Value)} {f : Addr} {args : Args} {binds : List (Str × Value)} {P : Prop} {msg : Str}
theorem callR2 (B : Below A₀ base outer h₀) (F : Fr h₀ L s.heap m) (X₀ : K.In h₀) (N : News h₀ L s.heap news) (T : Top p loose mean mg mb h₀) (hA : A.frames = some (env :: outer)) (hf : env.frame = some L) (hke : env.scope.kind = .function)
    (ho : K.lookup f = some ⟨oc, od, .func (fnOf name qual params body scope dV kV doc pm an cdv ct), osl⟩) (hcd : codeIn K cdv qual = true) (hroom : A.depth < recursionLimit)
    (hbind : BindsTo s (fnOf name qual params body scope dV kV doc pm an cdv ct) args binds) (hloc : ∀ y ∈ binds, scope.names.lookup y.1 = some .local)
    (h : ∀ g L' h₁, g = hideAll s.heap (news.map (·.1)) → L' = s.heap.objs.size → Fr h₀ L g m → Fr g L' h₁ (fun y => binds.reverse.lookup y) → News g L' h₁ news → Below A base (env :: outer) g → K.In g → Top p loose mean mg mb g → (∀ p ∈ news, p.1 < L') → s.heap.StaysIn h₁ → s.heap.FunFrames {} (env :: outer) →
      wpAny (model prog w) (A.deeper (envOf qual scope L' f cdv)) (execs body (envOf qual scope L' f cdv))
        (fun fl s' => LeaveK h₀ L m g (fun r s' => g.StaysIn s'.heap → R r s') (match fl with | .ret v => v | _ => .none) s')
        (RzE P s s.heap (envOf qual scope L' f cdv :: env :: outer) msg)
        { s with heap := h₁, toks := s.toks + binds.length })
    (hE : P → ∀ e h' tk, Rz s.heap (env :: outer) msg e h' → R (.error (.ref e)) { s with heap := h', toks := tk })
    (hco : scope.isCoroutine = false) (hgen : scope.isGenerator = false) (hk : scope.kind = .function)
    (hcell : ∀ x ∈ scope.names, x.2 ≠ .cell) : codeAny (model prog w) A (.call (.ref f) args) R s := by
  obtain ⟨FG, BG, st, lv⟩ := groundX (R := R) B F N hA hf hke
  have B₁ := pushX B F hf hke
  have hff : s.heap.FunFrames {} (env :: outer) := funFrames_empty B₁.frames
  refine codeAny_call_def (fd := fnX name qual params body scope [] dV kV doc pm an cdv ct) (body := body) (binds := binds) hroom ((X₀.keeps F.keep) _ _ ho) rfl (T.nolimit.keeps F.keep) (codeRec_of (X₀.keeps F.keep) hcd) rfl hbind hcell hloc (fun h₁ hns hk₁ => ?_) hco hgen hk
  refine wpAny_mono (h _ s.heap.objs.size h₁ rfl rfl FG ⟨hns, fun b o e => hk₁ b o (of_hideAll _ e), Nat.le_of_eq (hideAll_size _ _)⟩
    (fun p hp => ⟨hk₁ _ _ (N p hp).1, Nat.ne_of_lt (Heap.lt_size (N p hp).1), hideAll_none _ (List.mem_map_of_mem hp)⟩) BG (X₀.keeps st) (T.keeps st) (fun p hp => Heap.lt_size (N p hp).1) hk₁ hff) (fun fl s' hl => ?_) ?_
  · obtain ⟨L', m', news', F', N', k⟩ := hl
    exact lv _ _ ⟨L', m', news', F', N', fun a b => k a b F'.keep⟩
  · rintro ev s' ⟨hP, e, h', tk, rfl, rfl, x⟩
    exact rz_leave (s := { s with heap := h', toks := tk }) (Around.frames_deeper hA) rfl (Heap.get?_none_of_le (Nat.le_refl _)) x fun h'' x' => hE hP e h'' tk x'
end
section
variable {prog : Program} {w : World} {A₀ A : Around} {s : Shared} {base h₀ : Heap} {outer : List Env} {L : Addr} {m : Str → Option Value} {env : Env} {news : List (Addr × Obj)} {K : Frag} {p : Program} {loose : List Str} {mean : ExcName → Option Value} {mg mb : Str → Option Value}
  {Q E : Value → Shared → Prop} {name qual : Str} {params : Arguments} {body : List Stmt} {scope : Scope} {dV kV doc pm cdv ct oc : Value} {an od : Option Addr} {osl : Array (Option Value)} {f : Addr} {vs : List Value} {binds : List (Str × Value)}
/-- what a call's body leaves -/
def CEnd (g : Heap) (Q : Value → Shared → Prop) (fl : Flow) (s' : Shared) : Prop := ∃ L'' m' news', Fr g L'' s'.heap m' ∧ News g L'' s'.heap news' ∧ (g.StaysIn s'.heap → News g L'' s'.heap news' → Q (match fl with | .ret v => v | _ => .none) s')
/-- a call of a def whose names are closed over; nothing is raised; what lies outside the ledger stays -/
theorem callC2 (B : Below A₀ base outer h₀) (F : Fr h₀ L s.heap m) (X₀ : K.In h₀) (N : News h₀ L s.heap news) (T : Top p loose mean mg mb h₀) (hA : A.frames = some (env :: outer)) (hf : env.frame = some L) (hke : env.scope.kind = .function)
    (ho : K.lookup f = some ⟨oc, od, .func (fnOf name qual params body scope dV kV doc pm an cdv ct), osl⟩) (hcd : codeIn K cdv qual = true) (hroom : A.depth < recursionLimit)
    (hbind : BindsTo s (fnOf name qual params body scope dV kV doc pm an cdv ct) ⟨vs, []⟩ binds)
    (hkind : ∀ n, ∀ x ∈ binds, scope.names.lookup x.1 = some .local ∨ (scope.names.lookup x.1 = some .cell ∧ ((cellsFrom n scope.names []).lookup x.1).isSome = true))
    (hnd : ((cellsFrom 0 scope.names []).map (·.1)).Nodup)
    (h : ∀ g L' h₁ tk cells, g = hideAll s.heap (news.map (·.1)) → L' = s.heap.objs.size → Fr g L' h₁ (bindL (envOfC qual scope L' f cdv).kindOf binds fun _ => none) → News g L' h₁ (cells ++ news) →
      CellsAre (bindC (envOfC qual scope L' f cdv).kindOf binds fun _ => none) (cellsFrom (L' + 1) scope.names []) cells → Below A base (env :: outer) g → K.In g → Top p loose mean mg mb g → (∀ p ∈ news, p.1 < L') →
      wpAny (model prog w) (A.deeper (envOfC qual scope L' f cdv)) (execs body (envOfC qual scope L' f cdv))
        (fun fl s' => CEnd g Q fl s')
        (fun _ _ => False)
        { s with heap := h₁, toks := tk })
    (hco : scope.isCoroutine = false) (hgen : scope.isGenerator = false) (hk : scope.kind = .function) : wpAny (model prog w) A (call (.ref f) vs) Q E s := by
  obtain ⟨FG, BG, st, lv⟩ := groundX (R := fun _ _ => True) B F N hA hf hke
  refine wpAny_call (codeAny_call_function hroom ((X₀.keeps F.keep) _ _ ho) rfl hco hgen rfl (codeRec_of (X₀.keeps F.keep) hcd) (hbind _ _ _ _ ?_))
  refine wpAny_newFunctionEnv_cells hk (hkind _) fun env' he s' x => ?_
  subst he
  refine ⟨(T.nolimit.keeps F.keep).keeps x.toInCall.keep, codeAny_func ?_⟩
  obtain ⟨h₁, tk, rfl, _⟩ := x.done
  have kp := x.toInCall.keep
  obtain ⟨cells, NC, Y⟩ := Cl.news (h₀ := s.heap) (Nat.le_refl _) fun n c hm => ⟨x.cell n c (lookup_of_mem_nodup (cellsFrom_names scope.names 0 (s.heap.objs.size + 1) [] [] rfl ▸ hnd) hm), x.above n c hm⟩
  have Nn : News (hideAll s.heap (news.map (·.1))) s.heap.objs.size h₁ (cells ++ news) := fun p hp => by
    rcases List.mem_append.mp hp with hp | hp
    · refine ⟨(NC p hp).1, (NC p hp).2.1, ?_⟩
      cases q : (hideAll s.heap (news.map (·.1))).get? p.1 with
      | none => rfl
      | some o => have := of_hideAll _ q; rw [(NC p hp).2.2] at this; cases this
    · exact ⟨kp _ _ (N p hp).1, Nat.ne_of_lt (Heap.lt_size (N p hp).1), hideAll_none _ (List.mem_map_of_mem hp)⟩
  refine wpAny_mono (h _ s.heap.objs.size h₁ tk cells rfl rfl ⟨x.toInCall.ns, fun b o e => kp b o (of_hideAll _ e), Nat.le_of_eq (hideAll_size _ _)⟩ Nn Y BG (X₀.keeps st) (T.keeps st) (fun p hp => Heap.lt_size (N p hp).1)) (fun fl s' hl => ?_) fun _ _ z => z.elim
  obtain ⟨_, _, _, F', N', k⟩ := hl
  exact k F'.keep N'
end
/-- all of the elder heap stays where the ground does and the ledger's objects do -/
theorem stays_all {s : Heap} {h : Heap} {news : List (Addr × Obj)} {g : Heap} (hg : g = hideAll s (news.map (·.1))) (hs : ∀ p ∈ news, s.get? p.1 = some p.2) (k : g.StaysIn h) (hn : ∀ p ∈ news, h.get? p.1 = some p.2) : s.StaysIn h := by
  intro b o e
  by_cases hb : b ∈ news.map (·.1)
  · obtain ⟨p, hp, rfl⟩ := List.mem_map.mp hb
    have := (hs p hp).symm.trans e
    cases this
    exact hn p hp
  · subst hg
    exact k b o (hideAll_get _ e hb)
/-- the ground under a call: all but the ledger -/
def GroundOf (g s : Heap) (news : List (Addr × Obj)) : Prop := g = hideAll s (news.map (·.1)) ∧ ∀ p ∈ news, s.get? p.1 = some p.2
theorem GroundOf.stays {g s h : Heap} {news : List (Addr × Obj)} (x : GroundOf g s news) (k : g.StaysIn h) (hn : ∀ p ∈ news, h.get? p.1 = some p.2) : s.StaysIn h := stays_all x.1 x.2 k hn

/-! Matching's methods (take's own class), for the formals x, base and the arguments (None, x), ("base", base). -/
/-- one object of a ledger that lies below a fresh address -/
theorem lt_at {x a : Addr} {o : Obj} {l : List (Addr × Obj)} (h : ∀ p ∈ l, p.1 < x) (m : (a, o) ∈ l) : @LT.lt Nat _ a x := h _ m
/-- set where the facts on fresh addresses stay whole -/
def LtHere : Prop := True
local macro_rules | `(tactic| k_lt $h:ident) => `(tactic| (rename LtHere => lt9))
local macro_rules | `(tactic| k_ne) => `(tactic| first | exact Nat.ne_of_lt (lt_at (by with_reducible assumption) (by k_mem)) | exact Nat.ne_of_gt (lt_at (by with_reducible assumption) (by k_mem)) | with_reducible assumption | exact Ne.symm (by with_reducible assumption))
theorem said_34 : True := by
  (k_with "CompRest" => (with_unfolding_all first | (refine LCg.CompRest.succ ?_; intro v' I' oI' C' oC' D' m' h' tk' E' hv' hC' hx' F' N' off' ne'; (first | lcg_open hv' | (obtain ⟨t9', hv9'⟩ := hv'; subst hv9'))) | refine LCg.CompRest.zero ?_))
  (k_with "CompEnd" => (k_here; (rename Fr _ _ _ _ => F8); (rename News _ _ _ _ => N8); (rename LCg.Off3 _ _ _ _ => o8); refine LCg.CompEnd.intro F8 N8 _ ?sub_r69 o8 ?hS_r69 ?_; (case sub_r69 => lcg_sub); (case hS_r69 => lcg_src)))
  (k_with "CompRestT" => (with_unfolding_all first | (refine LCt.CompRestT.succ ?_; intro v' I' oI' C' oC' D' m' h' tk' E' hv' hC' hx' F' N' off' ne'; (first | lcg_open hv' | (obtain ⟨t9', hv9'⟩ := hv'; subst hv9'))) | refine LCt.CompRestT.zero ?_))
  (k_with "FinE" => ((unfold LCg.FinE); intro D' h' tk' F' N' o1'; (try simp only [List.nil_append, List.cons_append] at N'); (try dsimp only)))
  (k_with "mine sweep" => ((rename Fr _ _ _ _ => F8); (rename News _ _ _ _ => N8); (revert F8 N8); (repeat (rename Fr _ _ _ _ => Fz; clear Fz)); (repeat (rename News _ _ _ _ => Nz; clear Nz)); intro F8 N8))
  (k_with "execs cons" => (k_here; walk_at "mine sweep"; refine gen_toks fun tk9 => ?_; (try dsimp only); (try (rename News _ _ _ _ => N8; dsimp only at N8)); walk_at "mine aim"; refine wpAny_execs_cons ?_))
  (k_with "callWith ref" => (k_here; (with_reducible show wpAny _ _ (callWith _ _ _ (backTo _ (starEach [] _)) _) _ _ _); (rename Fr _ _ _ _ => F8); k_dflt (refine' callWith_K0 ?k1_r74 ?k2_r74 ?_; (case k1_r74 => exact Frag.In.keeps (by with_reducible assumption) F8.keep); (case k2_r74 => k_is))))
  trivial
theorem GroundOf.but {g s h : Heap} {news : List (Addr × Obj)} {as : List Addr} (x : GroundOf g s news) (k : g.StaysIn h) (hn : ∀ p ∈ news, p.1 ∉ as → h.get? p.1 = some p.2) : (hideAll s as).StaysIn h := by
  obtain ⟨rfl, hs⟩ := x
  intro b o e
  have ha : b ∉ as := fun q => by rw [hideAll_none as q] at e; cases e
  have e' := of_hideAll as e
  by_cases hb : b ∈ news.map (·.1)
  · obtain ⟨p, hp, rfl⟩ := List.mem_map.mp hb
    have := (hs p hp).symm.trans e'
    cases this
    exact hn p hp ha
  · exact k b o (hideAll_get _ e' hb)
theorem off1_all {D : Addr} : ∀ {l : List (Addr × Obj)}, LCg.Off1 D l → ∀ p ∈ l, p.1 ≠ D
  | [], _, _, h => nomatch h
  | _ :: _, x, p, h => by
    rcases List.mem_cons.mp h with rfl | h
    · exact x.1
    · exact off1_all x.2 p h
theorem lt_all2 {d x : Addr} {l : List (Addr × Obj)} (h : ∀ p ∈ l, p.1 < d) (h2 : @LT.lt Nat _ d x) : ∀ p ∈ l, p.1 ≠ x := fun p hp => Nat.ne_of_lt (Nat.lt_trans (h p hp) h2)
/-- what is off the ledger and not in the ground is not in the elder heap -/
theorem hide_out {g s : Heap} {news : List (Addr × Obj)} {a : Addr} (x : GroundOf g s news) (e : g.get? a = none) (h : ∀ p ∈ news, p.1 ≠ a) : s.get? a = none := by
  obtain ⟨rfl, _⟩ := x
  cases q : s.get? a with
  | none => rfl
  | some o =>
    rw [hideAll_get _ q fun hm => ?_] at e
    · cases e
    · obtain ⟨p, hp, hpa⟩ := List.mem_map.mp hm
      exact h p hp hpa
/-- what a Matching's dict answers -/
structure MatchD (o : Obj) (Fo Tg Us Pl : Addr) : Prop where
  fo : lookIn (S "formals") o = some (some (.ref Fo))
  tg : lookIn (S "tags") o = some (some (.ref Tg))
  us : lookIn (S "used") o = some (some (.ref Us))
  pl : lookIn (S "places") o = some (some (.ref Pl))
  m1 : lookIn (S "exact") o = some none
  m2 : lookIn (S "partial") o = some none
  m3 : lookIn (S "partial_of") o = some none
  m4 : lookIn (S "positional") o = some none
  m5 : lookIn (S "is_free") o = some none
  m6 : lookIn (S "rest") o = some none
theorem said_35 : True := by
  (k_with "mine md" => first | exact MatchD.fo (by assumption) | exact MatchD.tg (by assumption) | exact MatchD.us (by assumption) | exact MatchD.pl (by assumption) | exact MatchD.m1 (by assumption) | exact MatchD.m2 (by assumption) | exact MatchD.m3 (by assumption) | exact MatchD.m4 (by assumption) | exact MatchD.m5 (by assumption) | exact MatchD.m6 (by assumption))
  (k_with "getAttr ref" => (k_here; (rename MatchD _ _ _ _ _ => mD9); (rename Fr _ _ _ _ => F8); (rename News _ _ _ _ => N8); k_dflt (refine' attr_r (K := Mine.hd.heap_1 _) F8 ?X_r76 N8 ?m1_r76 ?m2_r76 ?l_r76 ?k5_r76 ?k6_r76 ?k7_r76 ?k8_r76 ?k9_r76 ?_; (case X_r76 => k_asm); (case m1_r76 => k_mem); (case m2_r76 => k_mem); (case l_r76 => walk_at "mine md"); (case k5_r76 => k_is); (case k6_r76 => k_is); (case k7_r76 => k_is); (case k8_r76 => k_is); (case k9_r76 => exact rfl))))
  (k_with "getMethod ref" => (k_here; (rename MatchD _ _ _ _ _ => mD9); (rename Fr _ _ _ _ => F8); (rename News _ _ _ _ => N8); k_dflt (refine' method_r (K := Mine.hd.heap_1 _) F8 ?X_r77 N8 ?m1_r77 ?m2_r77 ?l_r77 ?k5_r77 ?k6_r77 ?k7_r77 ?_; (case X_r77 => k_asm); (case m1_r77 => k_mem); (case m2_r77 => k_mem); (case l_r77 => walk_at "mine md"); (case k5_r77 => k_is); (case k6_r77 => k_is); (case k7_r77 => k_is))))
  trivial
section
variable {w : World} {s : Shared} {Q E : Value → Shared → Prop} {pv : Program} {loose : List Str} {mean : ExcName → Option Value} {mg mb : Str → Option Value} {base h₀ : Heap} {L : Addr} {m : Str → Option Value} {e1 e2 e3 e4 : Env}
theorem c_exact {Pl Us x d Tg Fo : Addr} {oP : Obj} {tb tx ty t1 t2 : Tok} {oM : Obj} {n c : Nat}
    (X₀ : (hd.heap_1 w.params).In h₀) (T : Top pv loose mean mg mb h₀) (B : Below (((callerA.deeper e1).deeper e2).deeper e3) base [e3, e2, e1] h₀) (he : e4.frame = some L) (hk : e4.scope.kind = .function) (F : Fr h₀ L s.heap m)
    (N : News h₀ L s.heap [(Pl, oP), (Us, listOf #[.int 0 t1, .int 0 t2] c), (x, instObj 175 d), (d, oM), (Tg, LCg.lst [.none, .str (S "base") tb]), (Fo, listOf #[.str (S "x") tx, .str (S "base") ty] n)]) (hM : MatchD oM Fo Tg Us Pl)
    (hd : oP.IsDictOf (PySem.strKind PG w) []) (hf : PyProof.V.FlatPairs PyData.str ([] : List (Str × Value)) []) (lo : (Pl == sysModules) = false)
    (n1 : @Ne Nat Pl Us) (n2 : @Ne Nat Pl x) (n3 : @Ne Nat Pl d) (n4 : @Ne Nat Pl Tg) (n5 : @Ne Nat Pl Fo) (o2 : @Ne Nat Us x) (o3 : @Ne Nat Us d) (o4 : @Ne Nat Us Tg) (o5 : @Ne Nat Us Fo)
    (k : ∀ h' tk oP' t2' tp, (hideAll s.heap [Pl, Us]).StaysIn h' → h'.get? Pl = some oP' → h'.get? Us = some (listOf #[.int 0 t1, .int 2 t2'] c) → oP'.IsDictOf (PySem.strKind PG w) [(S "base", .int 1 tp)] → PyProof.V.FlatPairs PyData.str [(S "base", Value.int 1 tp)] [(.str (S "base"), .int 1)] → Q .none { s with heap := h', toks := tk }) :
    wpAny (model PG w) ((((callerA.deeper e1).deeper e2).deeper e3).deeper e4) (call (.ref 139) [.ref x]) Q E s := by
  have am9 : AimHere := trivial
  have lt9 : LtHere := trivial
  refine' callC2 (binds := [(S "self", .ref x)]) B F X₀ N T rfl he hk ?ho ?hcd ?hroom ?hbind ?hkind ?hnd ?_ ?c1 ?c2 ?c3
  case ho => k_is
  case hcd => k_is
  case hbind => exact BindsTo.of_eq rfl
  case hnd => decide
  case c1 => exact rfl
  case c2 => exact rfl
  case c3 => exact rfl
  case hroom => exact of_decide_eq_true (by with_unfolding_all rfl)
  case hkind => exact kindsX rfl
  intro g L' h₁ tk cells hg hL' FG N' Y Bg Xg Tg lg
  have gs : GroundOf g s.heap _ := ⟨hg, fun p hp => (N p hp).1⟩
  clear F N X₀ T B hg
  obtain rfl : cells = [] := by cases Y; rfl
  clear Y
  (try k_lt lg)
  (try simp only [List.cons_append, List.nil_append] at N')
  (try dsimp only)
  (try k_lift Bg)
  (try k_fold)
  w_top off
  w_strict k_steps
  all_goals (try dsimp only)
  all_goals (rename Fr _ _ _ _ => Fz; rename News _ _ _ _ => Nz; rename Obj.IsDictOf _ _ _ => hd9; rename PyProof.V.FlatPairs _ _ _ => hf9)
  all_goals refine ⟨_, _, _, Fz, Nz, fun ks Nn => k _ _ _ _ _ (gs.but ks (List.forall_mem_cons.mpr ⟨fun q => absurd (List.Mem.head _) q, List.forall_mem_cons.mpr ⟨fun q => absurd (List.Mem.tail _ (List.Mem.head _)) q, fun p hp _ => (Nz p (.tail _ (.tail _ hp))).1⟩⟩)) (Nz.get (.head _)) (Nz.get (.tail _ (.head _))) hd9 hf9⟩
theorem c_partial_of {Pl Us x d Tg Fo : Addr} {oP : Obj} {tb tx ty t1 t2 tp : Tok} {oM : Obj} {n c : Nat} {e5 : Env} {t : Tok}
    (X₀ : (hd.heap_1 w.params).In h₀) (T : Top pv loose mean mg mb h₀) (B : Below ((((callerA.deeper e1).deeper e2).deeper e3).deeper e4) base [e4, e3, e2, e1] h₀) (he : e5.frame = some L) (hk : e5.scope.kind = .function) (F : Fr h₀ L s.heap m)
    (N : News h₀ L s.heap [(Pl, oP), (Us, listOf #[.int 0 t1, .int 2 t2] c), (x, instObj 175 d), (d, oM), (Tg, LCg.lst [.none, .str (S "base") tb]), (Fo, listOf #[.str (S "x") tx, .str (S "base") ty] n)]) (hM : MatchD oM Fo Tg Us Pl)
    (hd : oP.IsDictOf (PySem.strKind PG w) [(S "base", .int 1 tp)]) (hf : PyProof.V.FlatPairs PyData.str [(S "base", Value.int 1 tp)] [(.str (S "base"), .int 1)]) (lo : (Pl == sysModules) = false)
    (k : ∀ h' tk, s.heap.StaysIn h' → Q .none { s with heap := h', toks := tk }) :
    wpAny (model PG w) (((((callerA.deeper e1).deeper e2).deeper e3).deeper e4).deeper e5) (call (.ref 153) [.ref x, .str (S "x") t]) Q E s := by
  have am9 : AimHere := trivial
  have lt9 : LtHere := trivial
  refine' callC2 (binds := [(S "self", .ref x), (S "name", .str (S "x") t)]) B F X₀ N T rfl he hk ?ho ?hcd ?hroom ?hbind ?hkind ?hnd ?_ ?c1 ?c2 ?c3
  case ho => k_is
  case hcd => k_is
  case hbind => exact BindsTo.of_eq rfl
  case hnd => decide
  case c1 => exact rfl
  case c2 => exact rfl
  case c3 => exact rfl
  case hroom => exact of_decide_eq_true (by with_unfolding_all rfl)
  case hkind => exact kindsX rfl
  intro g L' h₁ tk cells hg hL' FG N' Y Bg Xg Tg lg
  have gs : GroundOf g s.heap _ := ⟨hg, fun p hp => (N p hp).1⟩
  clear F N X₀ T B hg
  obtain rfl : cells = [] := by cases Y; rfl
  clear Y
  (try k_lt lg)
  (try simp only [List.cons_append, List.nil_append] at N')
  (try dsimp only)
  (try k_lift Bg)
  (try k_fold)
  w_top off
  w_strict k_steps
  all_goals (try dsimp only)
  all_goals (rename Fr _ _ _ _ => Fz; rename News _ _ _ _ => Nz)
  all_goals exact ⟨_, _, _, Fz, Nz, fun ks Nn => k _ _ (gs.stays ks fun p hp => (Nz p hp).1)⟩
theorem said_36 : True := by
  (k_with "call ref" => (k_here; (with_reducible show wpAny _ _ (call (Value.ref 153) [_, _]) _ _ _); (rename Fr _ _ _ _ => F8); (rename News _ _ _ _ => N8); k_dflt (refine' c_partial_of ?X_r78 ?T_r78 ?B_r78 rfl rfl F8 (fun p hp => N8 p (List.Mem.tail _ hp)) ?hM_r78 ?d_r78 ?f_r78 ?l_r78 ?_; (case hM_r78 => assumption); (case X_r78 => assumption); (case T_r78 => assumption); (case B_r78 => assumption); (case d_r78 => assumption); (case f_r78 => assumption); (case l_r78 => assumption)); (intro h9 tk9 ks9); (have F9 := mnFr F8 ks9); (have N9 := mnNews N8 ks9); (clear ks9 F8 N8); (try dsimp only)))
  trivial
theorem c_partial {Pl Us x d Tg Fo : Addr} {oP : Obj} {tb tx ty t1 t2 tp : Tok} {oM : Obj} {n c : Nat}
    (X₀ : (hd.heap_1 w.params).In h₀) (T : Top pv loose mean mg mb h₀) (B : Below (((callerA.deeper e1).deeper e2).deeper e3) base [e3, e2, e1] h₀) (he : e4.frame = some L) (hk : e4.scope.kind = .function) (F : Fr h₀ L s.heap m)
    (N : News h₀ L s.heap [(Pl, oP), (Us, listOf #[.int 0 t1, .int 2 t2] c), (x, instObj 175 d), (d, oM), (Tg, LCg.lst [.none, .str (S "base") tb]), (Fo, listOf #[.str (S "x") tx, .str (S "base") ty] n)]) (hM : MatchD oM Fo Tg Us Pl)
    (hd : oP.IsDictOf (PySem.strKind PG w) [(S "base", .int 1 tp)]) (hf : PyProof.V.FlatPairs PyData.str [(S "base", Value.int 1 tp)] [(.str (S "base"), .int 1)]) (lo : (Pl == sysModules) = false)
    (k : ∀ h' tk, s.heap.StaysIn h' → Q .none { s with heap := h', toks := tk }) :
    wpAny (model PG w) ((((callerA.deeper e1).deeper e2).deeper e3).deeper e4) (call (.ref 146) [.ref x]) Q E s := by
  have am9 : AimHere := trivial
  have lt9 : LtHere := trivial
  refine' callC2 (binds := [(S "self", .ref x)]) B F X₀ N T rfl he hk ?ho ?hcd ?hroom ?hbind ?hkind ?hnd ?_ ?c1 ?c2 ?c3
  case ho => k_is
  case hcd => k_is
  case hbind => exact BindsTo.of_eq rfl
  case hnd => decide
  case c1 => exact rfl
  case c2 => exact rfl
  case c3 => exact rfl
  case hroom => exact of_decide_eq_true (by with_unfolding_all rfl)
  case hkind => exact kindsX rfl
  intro g L' h₁ tk cells hg hL' FG N' Y Bg Xg Tg lg
  have gs : GroundOf g s.heap _ := ⟨hg, fun p hp => (N p hp).1⟩
  clear F N X₀ T B hg
  obtain rfl : cells = [] := by cases Y; rfl
  clear Y
  (try k_lt lg)
  (try simp only [List.cons_append, List.nil_append] at N')
  (try dsimp only)
  (try k_lift Bg)
  (try k_fold)
  w_top off
  w_strict k_steps
  all_goals (try dsimp only)
  all_goals (rename Fr _ _ _ _ => Fz; rename News _ _ _ _ => Nz)
  all_goals exact ⟨_, _, _, Fz, Nz, fun ks Nn => k _ _ (gs.stays ks fun p hp => (Nz p hp).1)⟩
end

/-! positional. -/
section
variable {w : World} {s : Shared} {Q E : Value → Shared → Prop} {pv : Program} {loose : List Str} {mean : ExcName → Option Value} {mg mb : Str → Option Value} {base h₀ : Heap} {L : Addr} {m : Str → Option Value} {e1 e2 e3 e4 : Env}
theorem c_positional {Pl Us x d Tg Fo : Addr} {oP : Obj} {tb tx ty t1 t2 tp : Tok} {oM : Obj} {n c : Nat}
    (X₀ : (hd.heap_1 w.params).In h₀) (T : Top pv loose mean mg mb h₀) (B : Below (((callerA.deeper e1).deeper e2).deeper e3) base [e3, e2, e1] h₀) (he : e4.frame = some L) (hk : e4.scope.kind = .function) (F : Fr h₀ L s.heap m)
    (N : News h₀ L s.heap [(Pl, oP), (Us, listOf #[.int 0 t1, .int 2 t2] c), (x, instObj 175 d), (d, oM), (Tg, LCg.lst [.none, .str (S "base") tb]), (Fo, listOf #[.str (S "x") tx, .str (S "base") ty] n)]) (hM : MatchD oM Fo Tg Us Pl)
    (hd : oP.IsDictOf (PySem.strKind PG w) [(S "base", .int 1 tp)]) (hf : PyProof.V.FlatPairs PyData.str [(S "base", Value.int 1 tp)] [(.str (S "base"), .int 1)]) (lo : (Pl == sysModules) = false)
    (n1 : @Ne Nat Pl Us) (n2 : @Ne Nat Pl x) (n3 : @Ne Nat Pl d) (n4 : @Ne Nat Pl Tg) (n5 : @Ne Nat Pl Fo) (o2 : @Ne Nat Us x) (o3 : @Ne Nat Us d) (o4 : @Ne Nat Us Tg) (o5 : @Ne Nat Us Fo)
    (k : ∀ h' tk oP' t1' tq, (hideAll s.heap [Pl, Us]).StaysIn h' → h'.get? Pl = some oP' → h'.get? Us = some (listOf #[.int 2 t1', .int 2 t2] c) → oP'.IsDictOf (PySem.strKind PG w) [(S "base", .int 1 tp), (S "x", .int 0 tq)] → PyProof.V.FlatPairs PyData.str [(S "base", Value.int 1 tp), (S "x", .int 0 tq)] [(.str (S "base"), .int 1), (.str (S "x"), .int 0)] → Q .none { s with heap := h', toks := tk }) :
    wpAny (model PG w) ((((callerA.deeper e1).deeper e2).deeper e3).deeper e4) (call (.ref 160) [.ref x]) Q E s := by
  have am9 : AimHere := trivial
  have lt9 : LtHere := trivial
  refine' callC2 (binds := [(S "self", .ref x)]) B F X₀ N T rfl he hk ?ho ?hcd ?hroom ?hbind ?hkind ?hnd ?_ ?c1 ?c2 ?c3
  case ho => k_is
  case hcd => k_is
  case hbind => exact BindsTo.of_eq rfl
  case hnd => decide
  case c1 => exact rfl
  case c2 => exact rfl
  case c3 => exact rfl
  case hroom => exact of_decide_eq_true (by with_unfolding_all rfl)
  case hkind => exact kindsX rfl
  intro g L' h₁ tk cells hg hL' FG N' Y Bg Xg Tg lg
  have gs : GroundOf g s.heap _ := ⟨hg, fun p hp => (N p hp).1⟩
  clear F N X₀ T B hg
  obtain rfl : cells = [] := by cases Y; rfl
  clear Y
  (try k_lt lg)
  (try simp only [List.cons_append, List.nil_append] at N')
  (try dsimp only)
  (try k_lift Bg)
  (try k_fold)
  w_top off
  w_strict k_steps
  all_goals (try dsimp only)
  all_goals (rename Fr _ _ _ _ => Fz; rename News _ _ _ _ => Nz; rename Obj.IsDictOf _ _ _ => hd9; rename PyProof.V.FlatPairs _ _ _ => hf9)
  all_goals refine ⟨_, _, _, Fz, Nz, fun ks Nn => k _ _ _ _ _ (gs.but ks (List.forall_mem_cons.mpr ⟨fun q => absurd (List.Mem.head _) q, List.forall_mem_cons.mpr ⟨fun q => absurd (List.Mem.tail _ (List.Mem.head _)) q, fun p hp _ => (Nz p (.tail _ (.tail _ hp))).1⟩⟩)) (Nz.get (.head _)) (Nz.get (.tail _ (.head _))) hd9 hf9⟩
theorem c_rest {Pl Us x d Tg Fo : Addr} {oP : Obj} {tb tx ty t1 t2 : Tok} {oM : Obj} {n c : Nat}
    (X₀ : (hd.heap_1 w.params).In h₀) (T : Top pv loose mean mg mb h₀) (B : Below (((callerA.deeper e1).deeper e2).deeper e3) base [e3, e2, e1] h₀) (he : e4.frame = some L) (hk : e4.scope.kind = .function) (F : Fr h₀ L s.heap m)
    (N : News h₀ L s.heap [(Pl, oP), (Us, listOf #[.int 2 t1, .int 2 t2] c), (x, instObj 175 d), (d, oM), (Tg, LCg.lst [.none, .str (S "base") tb]), (Fo, listOf #[.str (S "x") tx, .str (S "base") ty] n)]) (hM : MatchD oM Fo Tg Us Pl)
    (k : ∀ r h' tk n, s.heap.get? r = none → h'.get? r = some (listOf #[] n) → s.heap.StaysIn h' → Q (.ref r) { s with heap := h', toks := tk }) :
    wpAny (model PG w) ((((callerA.deeper e1).deeper e2).deeper e3).deeper e4) (call (.ref 172) [.ref x]) Q E s := by
  have am9 : AimHere := trivial
  have lt9 : LtHere := trivial
  refine' callC2 (binds := [(S "self", .ref x)]) B F X₀ N T rfl he hk ?ho ?hcd ?hroom ?hbind ?hkind ?hnd ?_ ?c1 ?c2 ?c3
  case ho => k_is
  case hcd => k_is
  case hbind => exact BindsTo.of_eq rfl
  case hnd => decide
  case c1 => exact rfl
  case c2 => exact rfl
  case c3 => exact rfl
  case hroom => exact of_decide_eq_true (by with_unfolding_all rfl)
  case hkind => exact kindsX rfl
  intro g L' h₁ tk cells hg hL' FG N' Y Bg Xg Tg lg
  have gs : GroundOf g s.heap _ := ⟨hg, fun p hp => (N p hp).1⟩
  clear F N X₀ T B hg
  (try k_lt lg)
  obtain ⟨oC, rfl, dC⟩ := CellsAre.one (show CellsAre _ [(S "self", L' + 1)] cells by with_unfolding_all exact Y)
  replace dC : oC.data = .cell (some (.ref x)) := by with_unfolding_all exact dC
  clear Y
  (try simp only [List.cons_append, List.nil_append] at N')
  (try dsimp only)
  (try k_lift Bg)
  (try k_fold)
  w_top off
  w_strict k_steps
  all_goals (try dsimp only)
  all_goals (rename Fr _ _ _ _ => Fz; rename News _ _ _ _ => Nz)
  all_goals (rename LCg.Off1 _ _ => o9)
  all_goals exact ⟨_, _, _, Fz, Nz, fun ks Nn => k _ _ _ _ (hide_out gs (Nz (_, _) (.head _)).2.2 fun p hp => off1_all o9 p (.tail _ hp)) (Nz.get (.head _)) (gs.stays ks fun p hp => (Nz p (.tail _ (.tail _ hp))).1)⟩
end

/-! match_names: the places of x and base; take: a fresh list of both values. -/
theorem back2 {h₀ h h' : Heap} {L a b : Addr} {m : Str → Option Value} {oa ob oa' ob' : Obj} {R : List (Addr × Obj)} (F : Fr h₀ L h m) (N : News h₀ L h ((a, oa) :: (b, ob) :: R)) (hab : @Ne Nat a b) (ha : ∀ p ∈ R, p.1 ≠ a) (hb : ∀ p ∈ R, p.1 ≠ b) (st : (hideAll h [a, b]).StaysIn h') (ga : h'.get? a = some oa') (gb : h'.get? b = some ob') :
    Fr h₀ L h' m ∧ News h₀ L h' ((a, oa') :: (b, ob') :: R) := by
  have na := N (a, oa) (.head _)
  have nb := N (b, ob) (.tail _ (.head _))
  have kp : ∀ c x, c ≠ a → c ≠ b → h.get? c = some x → h'.get? c = some x := fun c x h1 h2 e => st _ _ (hideAll_get _ e fun q => by
    rcases List.mem_cons.mp q with q | q
    · exact h1 q
    · exact h2 (List.mem_singleton.mp q))
  obtain ⟨oL, es, ep, hL, r⟩ := F.ns
  refine ⟨⟨⟨oL, es, ep, kp _ _ (Ne.symm na.2.1) (Ne.symm nb.2.1) hL, r⟩, fun c x e => kp c x (fun q => ?_) (fun q => ?_) (F.keep _ _ e), F.above⟩, fun p hp => ?_⟩
  · rw [q, na.2.2] at e; cases e
  · rw [q, nb.2.2] at e; cases e
  · rcases List.mem_cons.mp hp with rfl | hp
    · exact ⟨ga, na.2⟩
    · rcases List.mem_cons.mp hp with rfl | hp
      · exact ⟨gb, nb.2⟩
      · have := N p (.tail _ (.tail _ hp))
        exact ⟨kp _ _ (ha p hp) (hb p hp) this.1, this.2⟩
theorem news_obj {P : Obj → Prop} {h₀ h : Heap} {L d : Addr} {a b c e : Addr × Obj} {o : Obj} {R : List (Addr × Obj)} (N : News h₀ L h (a :: b :: c :: e :: (d, o) :: R)) (hp : P o) : ∃ o', P o' ∧ News h₀ L h (a :: b :: c :: e :: (d, o') :: R) := ⟨o, hp, N⟩
theorem sub_cm {a b z c d e f : Addr × Obj} {R : List (Addr × Obj)} : ∀ p ∈ [a, b, c, d, e, f], p ∈ a :: b :: z :: c :: d :: e :: f :: R := List.forall_mem_cons.mpr ⟨.head _, List.forall_mem_cons.mpr ⟨.tail _ (.head _), fun p hp => .tail _ (.tail _ (.tail _ (List.mem_append_left R hp)))⟩⟩
theorem allNe_ne {d : Addr} {l : List (Addr × Obj)} (x : AllNe d l) : ∀ p ∈ l, p.1 ≠ d := by
  induction l with
  | nil => intro p h; cases h
  | cons a l ih =>
    intro p h
    rcases List.mem_cons.mp h with rfl | h
    · exact x.1
    · exact ih x.2 p h
section
variable {w : World} {s : Shared} {Q E : Value → Shared → Prop} {pv : Program} {loose : List Str} {mean : ExcName → Option Value} {mg mb : Str → Option Value} {base h₀ : Heap} {L : Addr} {m : Str → Option Value} {e1 e2 e3 e4 : Env}
def Stop1 (P : Prop) : Prop := P
theorem of_stop1 {P : Prop} (h : Stop1 P) : P := h
theorem said_37 : True := by
  (k_with "call ref" => (k_here; (with_reducible show wpAny _ _ (call (Value.ref 139) _) _ _ _); (refine of_stop1 ?_)))
  (k_with "call ref" => (k_here; (with_reducible show wpAny _ _ (call (Value.ref 146) _) _ _ _); (refine of_stop1 ?_)))
  (k_with "call ref" => (k_here; (with_reducible show wpAny _ _ (call (Value.ref 160) _) _ _ _); (refine of_stop1 ?_)))
  (k_with "call ref" => (k_here; (with_reducible show wpAny _ _ (call (Value.ref 172) _) _ _ _); (refine of_stop1 ?_)))
  trivial
theorem c_match {Ar p1 p2 Ix Ib Fo : Addr} {tb tx ty : Tok} {n : Nat}
    (X₀ : (hd.heap_1 w.params).In h₀) (T : Top pv loose mean mg mb h₀) (B : Below ((callerA.deeper e1).deeper e2) base [e2, e1] h₀) (he : e3.frame = some L) (hk : e3.scope.kind = .function) (F : Fr h₀ L s.heap m)
    (N : News h₀ L s.heap [(Fo, listOf #[.str (S "x") tx, .str (S "base") ty] n), (Ar, listOf #[.ref p1, .ref p2] 0), (p2, { cls := .type "tuple", data := .seq #[.str (S "base") tb, .ref Ib] }), (p1, { cls := .type "tuple", data := .seq #[.none, .ref Ix] })])
    (k : ∀ Tp Pl Rt h' tk oP tp tq n, s.heap.get? Tp = none → s.heap.get? Pl = none → s.heap.get? Rt = none → h'.get? Tp = some { cls := .type "tuple", data := .seq #[.ref Pl, .ref Rt] } → h'.get? Pl = some oP → h'.get? Rt = some (listOf #[] n) →
      oP.IsDictOf (PySem.strKind PG w) [(S "base", .int 1 tp), (S "x", .int 0 tq)] → PyProof.V.FlatPairs PyData.str [(S "base", Value.int 1 tp), (S "x", .int 0 tq)] [(.str (S "base"), .int 1), (.str (S "x"), .int 0)] → (Pl == sysModules) = false → s.heap.StaysIn h' → Q (.ref Tp) { s with heap := h', toks := tk }) :
    wpAny (model PG w) (((callerA.deeper e1).deeper e2).deeper e3) (call (.ref 211) [.ref Fo, .ref Ar, .ref 200]) Q E s := by
  have am9 : AimHere := trivial
  have lt9 : LtHere := trivial
  refine' callC2 (binds := [(S "formals", .ref Fo), (S "args", .ref Ar), (S "show", .ref 200)]) B F X₀ N T rfl he hk ?ho ?hcd ?hroom ?hbind ?hkind ?hnd ?_ ?c1 ?c2 ?c3
  case ho => k_is
  case hcd => k_is
  case hbind => exact binds_K (X₀.keeps F.keep) rfl (by k_is) rfl rfl rfl
  case hnd => decide
  case c1 => exact rfl
  case c2 => exact rfl
  case c3 => exact rfl
  case hroom => exact of_decide_eq_true (by with_unfolding_all rfl)
  case hkind => exact kindsX rfl
  intro g L' h₁ tk cells hg hL' FG N' Y Bg Xg Tg lg
  have gs : GroundOf g s.heap _ := ⟨hg, fun p hp => (N p hp).1⟩
  clear F N X₀ T B hg
  obtain rfl : cells = [] := by cases Y; rfl
  clear Y
  (try k_lt lg)
  (try simp only [List.cons_append, List.nil_append] at N')
  (try dsimp only)
  (try k_lift Bg)
  (try k_fold)
  w_top off
  w_strict k_steps
  all_goals (unfold Stop1; rename Fr _ _ _ _ => Fz; rename News _ _ _ _ => Nz)
  rename Obj.IsDictOf (PySem.strKind _ _) _ _ => hd9
  rename PyProof.V.FlatPairs PyData.str _ _ => hf9
  obtain ⟨oM, hM, Nq⟩ := news_obj (P := fun o => MatchD o _ _ _ _) Nz ⟨rfl, rfl, rfl, rfl, rfl, rfl, rfl, rfl, rfl, rfl⟩
  clear Nz
  rename News _ _ _ _ => Nz
  refine c_exact Xg Tg Bg rfl rfl Fz (newsSub Nz sub_cm) (by assumption) hd9 hf9 (by assumption) (by k_ne) (by k_ne) (by k_ne) (by k_ne) (by k_ne) (by k_ne) (by k_ne) (by k_ne) (by k_ne) ?_
  intro h2 tk2 oP2 t2' tp st gP gU hd2 hf2
  obtain ⟨F2, N2⟩ := back2 Fz Nz (by k_ne) (by first | k_all | fail) (by first | k_all | fail) st gP gU
  clear Fz Nz st gP gU hd9 hf9
  w_strict k_steps
  all_goals (unfold Stop1; rename Fr _ _ _ _ => Fz; rename News _ _ _ _ => Nz)
  refine c_partial Xg Tg Bg rfl rfl Fz (newsSub Nz sub_cm) (by assumption) hd2 hf2 (by assumption) ?_
  intro h3 tk3 ks
  have F3 := mnFr Fz ks
  have N3 := mnNews Nz ks
  clear Fz Nz ks
  w_strict k_steps
  all_goals (unfold Stop1; rename Fr _ _ _ _ => Fz; rename News _ _ _ _ => Nz)
  refine c_positional Xg Tg Bg rfl rfl Fz (newsSub Nz sub_cm) (by assumption) hd2 hf2 (by assumption) (by k_ne) (by k_ne) (by k_ne) (by k_ne) (by k_ne) (by k_ne) (by k_ne) (by k_ne) (by k_ne) ?_
  intro h4 tk4 oP4 t1' tq st gP gU hd4 hf4
  obtain ⟨F4, N4⟩ := back2 Fz Nz (by k_ne) (by first | k_all | fail) (by first | k_all | fail) st gP gU
  clear Fz Nz st gP gU hd2 hf2
  w_strict k_steps
  all_goals (unfold Stop1; rename Fr _ _ _ _ => Fz; rename News _ _ _ _ => Nz)
  refine c_rest Xg Tg Bg rfl rfl Fz (newsSub Nz sub_cm) (by assumption) ?_
  intro Rt h5 tk5 n5 fR gR ks
  obtain ⟨F5, N5, aR⟩ := ledger_add Fz Nz ks fR gR
  clear Fz Nz ks
  w_strict k_steps
  all_goals (try dsimp only)
  all_goals (rename Fr _ _ _ _ => Fz; rename News _ _ _ _ => Nz)
  have xT := Nz (_, _) (.head _)
  have xR := Nz (_, _) (.tail _ (.head _))
  have xP := Nz (_, _) (.tail _ (.tail _ (.head _)))
  have oT := hide_out gs xT.2.2 (by first | k_all | fail)
  have oP := hide_out gs xP.2.2 (by first | k_all | fail)
  have oR := hide_out gs xR.2.2 (fun p hp => allNe_ne aR p (.tail _ (.tail _ (.tail _ (.tail _ (.tail _ (.tail _ hp)))))))
  refine ⟨_, _, _, Fz, Nz, fun ks Nn => ?_⟩
  refine k _ _ _ _ _ _ _ _ _ oT oP oR xT.1 xP.1 xR.1 hd4 hf4 ?_ ?_
  · assumption
  · exact gs.stays ks fun p hp => (Nz p (.tail _ (.tail _ (.tail _ (.tail _ (.tail _ (.tail _ (.tail _ (.tail _ hp))))))))).1
/-- three fresh objects of a callee -/
theorem ledger_add3 {h₀ h h' : Heap} {L a b c : Addr} {m : Str → Option Value} {oa ob oc : Obj} {news : List (Addr × Obj)} (F : Fr h₀ L h m) (N : News h₀ L h news) (k : h.StaysIn h') (fa : h.get? a = none) (fb : h.get? b = none) (fc : h.get? c = none) (ga : h'.get? a = some oa) (gb : h'.get? b = some ob) (gc : h'.get? c = some oc) : Fr h₀ L h' m ∧ News h₀ L h' ((c, oc) :: (b, ob) :: (a, oa) :: news) ∧ True := by
  have x := fun (a : Addr) (o : Obj) (f : h.get? a = none) (g : h'.get? a = some o) => (ledger_add F N k f g).2.1 (a, o) (.head _)
  exact ⟨F.keeps k, List.forall_mem_cons.mpr ⟨x c oc fc gc, List.forall_mem_cons.mpr ⟨x b ob fb gb, List.forall_mem_cons.mpr ⟨x a oa fa ga, N.grown k⟩⟩⟩, trivial⟩
theorem sub_skip {a b : Addr × Obj} {x y z v : Addr × Obj} : ∀ p ∈ [a, x, y, z], p ∈ [a, b, v, x, y, z] := fun p hp => by
  rcases List.mem_cons.mp hp with rfl | hp
  · exact .head _
  · exact .tail _ (.tail _ (.tail _ hp))
theorem said_38 : True := by
  (k_with "call ref" => (k_here; (with_reducible show wpAny _ _ (call (Value.ref 211) _) _ _ _); (refine of_stop1 ?_)))
  trivial
section
variable {w : World} {s : Shared} {Q E : Value → Shared → Prop} {pv : Program} {loose : List Str} {mean : ExcName → Option Value} {mg mb : Str → Option Value} {base h₀ : Heap} {L L₁ fa f₂ : Addr} {m : Str → Option Value} {nm nm₂ : List (Str × NameKind)} {mo mo₂ : List (Str × Const)} {cd cd₂ : Value}
theorem c_take {Ar p1 p2 Ix Ib Fo : Addr} {tb tx ty : Tok} {n : Nat} {q : Str} 
    (X₀ : (hd.heap_1 w.params).In h₀) (T : Top pv loose mean mg mb h₀) (B : Below (callerA.deeper (envOfC (S "law") (fnSc nm mo) L₁ fa cd)) base [envOfC (S "law") (fnSc nm mo) L₁ fa cd] h₀) (F : Fr h₀ L s.heap m)
    (N : News h₀ L s.heap [(Fo, listOf #[.str (S "x") tx, .str (S "base") ty] n), (Ar, listOf #[.ref p1, .ref p2] 0), (p2, { cls := .type "tuple", data := .seq #[.str (S "base") tb, .ref Ib] }), (p1, { cls := .type "tuple", data := .seq #[.none, .ref Ix] })])
    (l1 : @LT.lt Nat _ Ar Fo) (l2 : @LT.lt Nat _ p2 Ar) (l3 : @LT.lt Nat _ p1 p2)
    (k : ∀ r h' tk n, s.heap.get? r = none → h'.get? r = some (listOf #[.ref Ix, .ref Ib] n) → s.heap.StaysIn h' → Q (.ref r) { s with heap := h', toks := tk }) :
    wpAny (model PG w) ((callerA.deeper (envOfC (S "law") (fnSc nm mo) L₁ fa cd)).deeper (envOf q (fnSc nm₂ mo₂) L f₂ cd₂)) (call (.ref 224) [.ref Ar, .ref Fo]) Q E s := by
  have am9 : AimHere := trivial
  have lt9 : LtHere := trivial
  refine' callC2 (binds := [(S "args", .ref Ar), (S "formals", .ref Fo), (S "show", .none)]) B F X₀ N T rfl rfl rfl ?ho ?hcd ?hroom ?hbind ?hkind ?hnd ?_ ?c1 ?c2 ?c3
  case ho => k_is
  case hcd => k_is
  case hbind => exact binds_K (X₀.keeps F.keep) rfl (by k_is) rfl rfl rfl
  case hnd => decide
  case c1 => exact rfl
  case c2 => exact rfl
  case c3 => exact rfl
  case hroom => exact of_decide_eq_true (by with_unfolding_all rfl)
  case hkind => exact kindsX rfl
  intro g L' h₁ tk cells hg hL' FG N' Y Bg Xg Tg lg
  have gs : GroundOf g s.heap _ := ⟨hg, fun p hp => (N p hp).1⟩
  clear F N X₀ T B hg
  (try k_lt lg)
  obtain ⟨oC, rfl, dC⟩ := CellsAre.one (show CellsAre _ [(S "args", L' + 1)] cells by with_unfolding_all exact Y)
  replace dC : oC.data = .cell (some (.ref Ar)) := by with_unfolding_all exact dC
  clear Y
  (try simp only [List.cons_append, List.nil_append] at N')
  (try dsimp only)
  (try k_lift Bg)
  (try k_fold)
  w_top off
  w_strict k_steps
  all_goals (unfold Stop1; rename Fr _ _ _ _ => Fz; rename News _ _ _ _ => Nz)
  refine c_match Xg Tg Bg rfl rfl Fz (newsSub Nz sub_skip) ?_
  intro Tp Pl Rt h2 tk2 oP tp tq n2 fT fP fR gT gP gR hdP hfP loP ks
  obtain ⟨F2, N2, aR⟩ := ledger_add3 Fz Nz ks fR fP fT gR gP gT
  clear Fz Nz ks fT fP fR gT gP gR
  w_strict k_steps
  all_goals (try dsimp only)
  all_goals (rename Fr _ _ _ _ => Fz; rename News _ _ _ _ => Nz)
  all_goals refine ⟨_, _, _, Fz, Nz, fun ks Nn => k _ _ _ _ ?_ (Nz.get (by k_mem)) (gs.stays ks fun p hp => (Nz p ((?sub : ∀ p ∈ _, p ∈ _) p hp)).1)⟩
  case sub => k_allIn
  all_goals exact Heap.get?_none_of_le (hL' ▸ Nat.le_of_lt (Nat.lt_of_succ_lt (lt_at (a := L' + 1) (by with_reducible assumption) (by k_mem))))
end
end

/-! The refusal caught in the law's own frame. -/
section
variable {w : World} {A : Around} {E : Value → Shared → Prop} {s : Shared}
theorem matches_refusal {e : Addr} {oe : Obj} {Q : Bool → Shared → Prop} (X : (hd.heap_1 w.params).In s.heap) (he : s.heap.get? e = some oe) (hcls : oe.cls = .ref 65) (hq : Q true s) : wpAny (model PG w) A (excMatches (.ref e) (.ref 65)) Q E s := by
  obtain ⟨hp, g, d, tk, os⟩ := s
  have hC := X 65 _ (by k_is)
  have hcB : ([.ref 65, .ref 45, .type "Exception", .type "BaseException", .type "object"] : List Value).contains (.type "BaseException") = true := by decide
  have hcC : ([.ref 65, .ref 45, .type "Exception", .type "BaseException", .type "object"] : List Value).contains (.ref 65) = true := by decide
  have f := tc_notTuple
  unfold excMatches
  repeat (first | (with_reducible refine wpAny_loadPart_at he ?_; rw [hcls]) | with_reducible refine wpAny_loadPart_at hC ?_ | (with_reducible refine wpAny_isSubtype_exc hC ?_; first | rw [hcB] | rw [hcC]) | wp_step)
  exact hq
theorem rz_back {H h' h₀ : Heap} {L e : Addr} {m : Str → Option Value} {news : List (Addr × Obj)} {env : Env} {msg : Str} {fl : Value} (hf : env.frame = some L) (F : Fr h₀ L H m) (N : News h₀ L H news) (x : RzT H [env] msg fl e h') :
    Fr h₀ L h' m ∧ News h₀ L h' news ∧ ∃ dx sl vs, h'.get? e = some ⟨.ref 65, some dx, .fields vs, sl⟩ ∧ MsgAt h' dx msg := by
  obtain ⟨dx, sl, vs, x, _⟩ := x
  have hfr : frs [env] = [L] := by simp [frs, hf]
  have keep : ∀ b o, H.get? b = some o → b ≠ L → h'.get? b = some o := fun b o hb hn => x.keep b o hb (by rw [hfr]; simpa using hn)
  refine ⟨⟨?_, fun b o hb => ?_, F.above⟩, fun p hp => ⟨keep _ _ (N p hp).1 (N p hp).2.1, (N p hp).2⟩, dx, sl, vs, x.here, x.msg⟩
  · obtain ⟨o, es, ep, ho, hd, r⟩ := F.ns
    obtain ⟨sl', hs⟩ := x.slot _ _ ho
    exact ⟨_, es, ep, hs, hd, r⟩
  · refine keep b o (F.keep b o hb) fun z => ?_
    have h1 : ∀ o, h₀.get? L ≠ some o := fun o q => absurd (Heap.lt_size q) (Nat.not_lt_of_le F.above)
    exact h1 o (z ▸ hb)
theorem ns_same {h : Heap} {a : Addr} {m m' : Str → Option Value} (x : h.Ns a m) (y : h.Ns a m') (n : Str) : m n = m' n := by
  obtain ⟨o, es, ep, ho, hd, _, hf⟩ := x
  obtain ⟨o', es', ep', ho', hd', _, hf'⟩ := y
  rw [ho] at ho'; cases ho'
  rw [hd] at hd'; cases hd'
  rw [← hf, ← hf']
theorem caught_rz {H h₀ : Heap} {L e : Addr} {m : Str → Option Value} {news : List (Addr × Obj)} {env : Env} {msg x n : Str} {np pos : Pos} {b₀ : Stmt} {suite : List Stmt} {rest : List ExceptHandler} {Q : Flow → Shared → Prop}
    (hfr : A.frames = some [env]) (hf : env.frame = some L) (hl : env.locals = L) (X : (hd.heap_1 w.params).In h₀) (F : Fr h₀ L H m) (N : News h₀ L H news) (z : Rz H [env] msg e s.heap)
    (hmm : m (S "message") = none) (hlo : env.kindOf n = some .local) (hk : (env.scope.kind == .class || (env.scope.kind == .module && env.locals != env.globals)) = false)
    (hev : ∀ (A' : Around) (Q' : Value → Shared → Prop) (E' : Value → Shared → Prop) (s' : Shared), Fr h₀ L s'.heap m → Q' (.ref 65) s' → wpAny (model PG w) A' (eval (.Name x np) env) Q' E' s')
    (k : ∀ h₃ dx sl vs E', Fr h₀ L h₃ (fun y => if y = n then some (.ref e) else m y) → News h₀ L h₃ news → h₃.get? e = some ⟨.ref 65, some dx, .fields vs, sl⟩ → MsgAt h₃ dx msg →
      wpAny (model PG w) (A.mark (some (.ref e))) (execs (b₀ :: suite) env) (fun f s₄ => (∃ m', s₄.heap.Ns env.locals m') ∧ h₀.StaysIn s₄.heap ∧ ∀ h tk, h₀.StaysIn h → Q f { s₄ with heap := h, toks := tk }) E' { s with heap := h₃, toks := s.toks + 1 }) :
    wpAny (model PG w) A (noteFrame (.ref e) env)
      (fun _ s₂ => wpAny (model PG w) A (setFlight (.ref e) none) (fun _ s₃ =>
        wpAny (model PG w) A (handleBy (.ref e) env (.ExceptHandler (some (.Name x np)) (some n) (b₀ :: suite) pos :: rest)) Q E s₃) E s₂) E s := by
  refine rz_note hfr hf z fun h₁ z₁ => ?_
  refine rz_mark z₁ fun h₂ z₂ => ?_
  obtain ⟨F₂, N₂, _, _, _, he₂, _⟩ := rz_back hf F N z₂
  refine wpAny_handleBy_cons (codeAny_handlers_test (hev _ _ _ _ F₂ ?_)) (by intro q; cases q)
  refine matches_refusal (X.keeps F₂.keep) he₂ rfl (codeAny_handlers_suite_as ?_)
  refine rz_mark z₂ fun h₃ z₃ => ?_
  obtain ⟨F₃, N₃, dx, sl, vs, he₃, ms⟩ := rz_back hf F N z₃
  refine wpAny_storeName_local hlo (hl ▸ F₃.ns) (fun h' hn hs => ?_) hk
  rw [hl] at hn hs
  have hne : e ≠ L := fun q => by
    obtain ⟨o, es, ep, ho, hd, _⟩ := F₃.ns
    rw [← q, he₃] at ho; cases ho; cases hd
  have hdx : dx ≠ L := fun q => by
    obtain ⟨m', t, hn', hm'⟩ := ms
    have := ns_same F₃.ns (q ▸ hn') (S "message")
    rw [hmm, hm'] at this; cases this
  have F₄ := F₃.set hn hs
  have N₄ := N₃.set hs
  have h4 : h'.get? e = some ⟨.ref 65, some dx, .fields vs, sl⟩ := (hs.2 e hne).trans he₃
  have ms₄ : MsgAt h' dx msg := by
    obtain ⟨m', t, ⟨o, es, ep, ho, r⟩, hm'⟩ := ms
    exact ⟨m', t, ⟨o, es, ep, (hs.2 dx hdx).trans ho, r⟩, hm'⟩
  refine wpAny_mono (k h' dx sl vs _ F₄ N₄ h4 ms₄) (fun f s₄ h5 => ?_) fun _ _ y => y
  obtain ⟨⟨m', hm'⟩, h0, h6⟩ := h5
  refine wpAny_nameGoes hlo hm' hk fun h7 m7 _ hs7 => h6 h7 _ fun b o eb => ?_
  rw [hl] at hs7
  exact (hs7.2 b fun q => absurd (Heap.lt_size eb) (Nat.not_lt_of_le (q ▸ F.above))).trans (h0 b o eb)
end

/-! Pairs by their place; both answers agree. -/
theorem rz_elder {H₀ H h : Heap} {l : List Env} {msg : Str} {e : Addr} (k : H₀.StaysIn H) (x : Rz H l msg e h) : Rz H₀ l msg e h := by
  have nn : ∀ {a : Addr}, H.get? a = none → H₀.get? a = none := fun {a} q => by
    cases q' : H₀.get? a with
    | none => rfl
    | some o => rw [k _ _ q'] at q; cases q
  obtain ⟨dx, sl, vs, f, t⟩ := x
  refine ⟨dx, sl, vs, ⟨fun b o hb hn => f.keep b o (k _ _ hb) hn, fun b o hb => f.slot b o (k _ _ hb), f.frames, nn f.new, f.here, f.msg, f.size⟩, ?_⟩
  rcases t with t | ⟨T, oT, ts, h1, hTe, hHT, r⟩ | ⟨env', r, L', q, hf', T, oT, ts, h1, hTe, hHT, r'⟩
  · exact .inl t
  · exact .inr (.inl ⟨T, oT, ts, h1, hTe, nn hHT, r⟩)
  · exact .inr (.inr ⟨env', r, L', q, hf', T, oT, ts, h1, hTe, nn hHT, r'⟩)
def atD (l : List D) (i : Nat) : D := (l[i % l.length]?).getD none
theorem atD_get {l : List D} {i : Nat} (hl : 0 < l.length) : l[i % l.length]? = some (atD l i) := by
  have h := Nat.mod_lt i hl
  unfold atD
  rw [List.getElem?_eq_getElem h]; rfl
theorem atD_ent {l : List D} {i : Nat} (h : ∀ d ∈ l, Ent d) (hl : 0 < l.length) : Ent (atD l i) := h _ (List.mem_of_getElem? (atD_get hl))
theorem agree {xs bs : List D} {rs : List (Option D)} {ds : List D} (eb : ∀ d ∈ bs, Ent d) (hb : 0 < bs.length) (hl : rs.length = ds.length) (h1 : ∀ i r, rs[i]? = some r → Spec (atD xs i) (atD bs i) r) (h2 : ∀ i d, ds[i]? = some d → Spec (atD xs i) (atD bs i) (some d)) : rs = ds.map some := by
  apply List.ext_getElem?
  intro i
  rw [List.getElem?_map]
  by_cases hi : i < rs.length
  · have hj : i < ds.length := hl ▸ hi
    rw [List.getElem?_eq_getElem hi, List.getElem?_eq_getElem hj]
    exact congrArg some (spec_one (atD_ent eb hb) (h1 i _ (List.getElem?_eq_getElem hi)) (h2 i _ (List.getElem?_eq_getElem hj)))
  · rw [List.getElem?_eq_none (by omega), List.getElem?_eq_none (by omega)]; rfl
/-- one place refused: it is refused in the due list -/
theorem refused_in {xs bs : List D} {rs : List (Option D)} {i : Nat} (eb : ∀ d ∈ bs, Ent d) (hb : 0 < bs.length) (hi : i < rs.length) (h1 : ∀ i r, rs[i]? = some r → Spec (atD xs i) (atD bs i) r) (h2 : Spec (atD xs i) (atD bs i) none) : none ∈ rs := by
  have h := h1 i _ (List.getElem?_eq_getElem hi)
  have e := spec_one (atD_ent eb hb) h h2
  exact e ▸ List.getElem_mem hi
/-- NaN that comes of no NaN, among the first n -/
abbrev nanD : D := some (0, 0)
def freshAt (xs bs : List D) (rs : List (Option D)) (i : Nat) : Bool := decide (rs[i]? = some (some nanD)) && (!decide (atD xs i = nanD) && !decide (atD bs i = nanD))
noncomputable def Fresh (xs bs : List D) (rs : List (Option D)) : Nat → Bool
  | 0 => false
  | n + 1 => Fresh xs bs rs n || freshAt xs bs rs n
theorem Fresh.append {xs bs : List D} {rs qs : List (Option D)} : ∀ {n : Nat}, n ≤ rs.length → Fresh xs bs (rs ++ qs) n = Fresh xs bs rs n
  | 0, _ => rfl
  | n + 1, h => by
    have e : freshAt xs bs (rs ++ qs) n = freshAt xs bs rs n := by
      unfold freshAt; rw [List.getElem?_append_left (by omega)]
    show (Fresh xs bs (rs ++ qs) n || _) = _
    rw [Fresh.append (by omega), e]; rfl
theorem Fresh.next {xs bs : List D} {ds : List D} {d : D} : Fresh xs bs ((ds ++ [d]).map some) (ds.length + 1) = (Fresh xs bs (ds.map some) ds.length || (decide (d = nanD) && (!decide (atD xs ds.length = nanD) && !decide (atD bs ds.length = nanD)))) := by
  show (Fresh _ _ _ _ || freshAt _ _ _ _) = _
  rw [List.map_append, Fresh.append (by simp)]
  unfold freshAt
  have e : (List.map some ds ++ List.map some [d])[ds.length]? = some (some d) := by simp
  rw [e]; simp

/-! The law's loops: due, and whether a fresh NaN is in it. -/
/-! Counts, each said once. -/
theorem cnt_4 {n m : Nat} (h4 : n ≤ 4) (hb : 0 < m ∧ m ≤ 2) : (if n = 0 then 0 else max n m) ≤ 4 := by split <;> omega
theorem cnt_pos {i n m : Nat} (hi : i < (if n = 0 then 0 else max n m)) : 0 < n := by split at hi <;> omega
theorem cnt_int {k : Nat} (h : k ≤ 4) : 0 ≤ (k : Int) ∧ (k : Int) ≤ 4 := ⟨Int.natCast_nonneg _, by omega⟩
theorem cnt_nat (k : Nat) : ((k : Int) - 0).toNat = k := by rw [Int.sub_zero]; rfl
theorem small_04 {b : Int} (h : 0 ≤ b ∧ b ≤ 4) : Builtin.Range.small 0 b 1 = true := small_one (by omega) (by omega) (by omega) (by omega)
theorem le_up {n a b : Nat} (h : n ≤ a) (hb : Nat.ble a b = true) : n ≤ b := Nat.le_trans h (Nat.le_of_ble_eq_true hb)
theorem le_upA {n a b c : Nat} (h : c < n ∧ n ≤ a) (hb : Nat.ble a b = true) : n ≤ b := le_up h.2 hb
theorem in_up {n a b c : Nat} (h : c < n ∧ n ≤ a) (hb : Nat.ble a b = true) : c < n ∧ n ≤ b := ⟨h.1, le_up h.2 hb⟩
theorem int_no {n a : Nat} (h : 0 < n ∧ n ≤ a) : ¬ (n : Int) = 0 := by omega
theorem int_no2 {c : Int} {n a : Nat} (e : c = n) (h : 0 < n ∧ n ≤ a) : ¬ c = 0 := by omega
theorem le_eq {n m a b : Nat} (e : m = n) (h : n ≤ a) (hb : Nat.ble a b = true) : m ≤ b := e ▸ le_up h hb
theorem le_eqA {n m a b c : Nat} (e : m = n) (h : c < n ∧ n ≤ a) (hb : Nat.ble a b = true) : m ≤ b := e ▸ le_up h.2 hb
theorem said_39 : True := by
  (k_with "mine om" => first | assumption | exact And.left (by assumption) | exact in_up (by assumption) rfl | exact le_upA (by assumption) rfl | exact le_up (by assumption) rfl | exact int_no (by assumption) | exact int_no2 (by assumption) (by assumption) | exact le_eq (by assumption) (by assumption) rfl | exact le_eqA (by assumption) (by assumption) rfl | omega)
  trivial
section
variable {prog : Program} {w : World} {A : Around} {E : Value → Shared → Prop} {s : Shared} {h₀ : Heap} {L a : Addr} {m : Str → Option Value} {news R : List (Addr × Obj)} {o : Obj} {vs : List Value} {n : Nat} {k : Int} {t : Tok} {Q : Value → Shared → Prop} {value slice : Expr} {ds : List D}
theorem absorbO {h : Heap} {v : Value} {r : Option D} (F : Fr h₀ L h m) (N : News h₀ L h news) (x : OAt h v r) : ∃ extra, News h₀ L h (news ++ extra) ∧ TupsOnly extra ∧ OIn h₀ extra v r := by
  cases r with
  | none => exact ⟨[], by simpa using N, TupsOnly.nil, x⟩
  | some d => exact absorb F N x
theorem len_D {Z : List (Addr × Obj)} (N : News h₀ L s.heap news) (hm : (a, listOf vs.toArray n) ∈ news) (dx : DAll h₀ Z vs ds) (hfit : ds.length ≤ 4096) (h : Q (.int (ds.length : Nat) (s.toks + 1)) { s with toks := s.toks + 1 + 1 }) : wpAny (model prog w) A (call (.builtin "len") [.ref a]) Q E s := by
  have hl := dx.length
  refine PyProof.Rows.len_list (items := vs.toArray) ⟨_, (N _ hm).1, rfl, _, rfl⟩ (by rw [List.size_toArray]; omega) ?_
  rw [List.size_toArray, hl]; exact h
end
theorem said_40 : True := by
  (k_with "mine in" => first | assumption | exact List.Mem.head _ | (refine List.Mem.tail _ ?_; walk_at "mine in") | (refine List.mem_append_left _ ?_; walk_at "mine in") | (refine List.mem_append_right _ ?_; walk_at "mine in"))
  (k_with "call builtin:len" => (k_here; (with_reducible show wpAny _ _ (call (Value.builtin "len") [Value.ref _]) _ _ _); (rename News _ _ _ _ => N8); k_dflt (refine' len_D N8 ?m_r86 ?d_r86 ?f_r86 ?_; (case m_r86 => walk_at "mine in"); (case d_r86 => assumption); (case f_r86 => walk_at "mine om"))))
  trivial
def Stop (P : Prop) : Prop := P
theorem of_stop {P : Prop} (h : Stop P) : P := h
def StopHere : Prop := True
local macro_rules | `(tactic| k_all) => `(tactic| first | assumption | ((with_reducible refine List.forall_mem_append.mpr ⟨?_, ?_⟩) <;> k_all))
theorem said_41 : True := by
  (k_with "call type:range" => (k_here; (rename StopHere => sh9); (rename Fr _ _ _ _ => F8); (rename News _ _ _ _ => N8); (with_unfolding_all refine' range1_rows F8 N8 ?_); (clear F8 N8); (intro h9 tk9 t9 u9 v9 rg9 F9 N9 ks9); clear ks9))
  (k_with "exec For Name Call cons nil" => (k_here; (rename StopHere => sh9); (rename Fr _ _ _ _ => lF'); (with_unfolding_all refine' For_invVF lF' ?k1_r88 ?k2_r88 ?_; (case k1_r88 => exact rfl); (case k2_r88 => exact rfl); k_whole)))
  (k_with "pyIter ref" => (k_here; (rename StopHere => sh9); (with_reducible show wpAny _ _ (pyIter (Value.ref _)) _ _ _); (refine of_stop ?_)))
  (k_with "mine ent" => exact atD_ent (by assumption) (by walk_at "mine om"))
  (k_with "call ref" => (k_here; (with_reducible show wpAny _ _ (call (Value.ref 700) [_, _]) _ _ _); (with_unfolding_all refine' c_lq ?X_r91 ?T_r91 ?v_r91 ?v2_r91 ?r_r91 ?u_r91 ?p1_r91 ?p2_r91 ?_); (case X_r91 => exact mnIn (by assumption) (by assumption)); (case T_r91 => exact mnTop (by assumption) (by assumption)); (case v_r91 => assumption); (case v2_r91 => assumption); (case r_r91 => walk_at "mine deep"); (case u_r91 => walk_at "mine deep"); (case p1_r91 => walk_at "mine ent"); (case p2_r91 => walk_at "mine ent"); (intro r9 sp9 v9 h9 tk9 ks9 oa9); (rename Fr _ _ _ _ => F8); (rename News _ _ _ _ => N8); (have F9 := F8.keeps ks9); (have N9 := mnNews N8 ks9); (obtain ⟨ex9, N7, tx9, oi9⟩ := absorbO F9 N9 oa9); (clear oa9 ks9 N9 F8 N8); (try simp only [List.nil_append, List.cons_append, List.append_assoc] at N7); (try k_sweep); (try k_fold)))
  trivial
theorem fmod_nat (i n : Nat) : (0 + (i : Int)).fmod (n : Int) = ((i % n : Nat) : Int) := by
  rw [Int.zero_add, Int.fmod_eq_emod_of_nonneg _ (Int.natCast_nonneg _)]; rfl
section
variable {prog : Program} {w : World} {A : Around} {E : Value → Shared → Prop} {s : Shared} {h₀ : Heap} {L a : Addr} {m : Str → Option Value} {news R : List (Addr × Obj)} {vs : List Value} {n i : Nat} {t : Tok} {Q : Value → Shared → Prop} {value slice : Expr} {ds : List D}
theorem item_at {Z : List (Addr × Obj)} (F : Fr h₀ L s.heap m) (N : News h₀ L s.heap news) (hm : (a, listOf vs.toArray n) ∈ news) (dx : DAll h₀ Z vs ds) (sub : ∀ p ∈ Z, p ∈ news) {k : Int} (hk : k = (0 + (i : Int)).fmod (ds.length : Int)) (hl : 0 < ds.length ∧ ds.length ≤ 4096) (h : ∀ v, DAt s.heap v (atD ds i) → DIn h₀ Z v (atD ds i) → Q v s)
    (hs : subscripted slice false (.ref a) (.int k t) = operate [.ref a, .int k t] (getItem (.ref a) (.int k t)) := by with_unfolding_all rfl) (hg : ∀ r, letTemporaryGo value (.ref a) r = pure () := by intro _; with_unfolding_all rfl) :
    wpAny (model prog w) A (subscriptTail value slice (.ref a) (.int k t)) Q E s := by
  rw [fmod_nat] at hk
  have hlt := Nat.mod_lt i hl.1
  subst hk
  obtain ⟨v, hv, dv⟩ := dx.get hlt
  have e : ds[i % ds.length] = atD ds i := by
    have := atD_get (l := ds) (i := i) hl.1
    rw [List.getElem?_eq_getElem hlt] at this
    exact Option.some.inj this
  rw [e] at dv
  exact kim_list N hm rfl rfl (by omega) (by omega) hv (h v (dv.at F N sub) dv) hs hg
end
theorem said_42 : True := by
  (k_with "mine sub" => (intro p9 hp9; walk_at "mine in"))
  (k_with "subscriptTail" => (k_here; (with_reducible show wpAny _ _ (subscriptTail _ _ (Value.ref _) (Value.int (Int.fmod _ _) _)) _ _ _); (rename Fr _ _ _ _ => F8); (rename News _ _ _ _ => N8); (with_unfolding_all refine' item_at ?F_r93 ?N_r93 ?m_r93 ?d_r93 ?sub_r93 ?k_r93 ?l_r93 ?_ ?hs_r93 ?hg_r93); (case F_r93 => exact F8); (case N_r93 => exact N8); (case hs_r93 => with_unfolding_all rfl); (case hg_r93 => (intro _; with_unfolding_all rfl)); (case m_r93 => walk_at "mine in"); (case d_r93 => assumption); (case sub_r93 => walk_at "mine sub"); (case k_r93 => first | exact rfl | exact congrArg _ (by assumption)); (case l_r93 => walk_at "mine om"); (intro v9 dv9 di9)))
  (k_with "mine fits" => (rw [PySem.sizeLine_eq, List.size_toArray]; walk_at "mine om"))
  (k_with "call builtin:list.append" => (k_here; (with_reducible show wpAny _ _ (call (Value.builtin _) [Value.ref _, _]) _ _ _); (rename Fr _ _ _ _ => F8); (rename News _ _ _ _ => N8); k_dflt (refine' append_K ?k1_r95 ?k2_r95 ?k3_r95 ?_ ?z_r95; (case k1_r95 => exact F8); (case k2_r95 => exact N8); (case k3_r95 => k_upd); (case z_r95 => walk_at "mine fits"); k_whole); (clear F8 N8); intro h' F' N'; (try simp only [List.push_toArray, List.cons_append, List.nil_append] at N')))
  trivial
theorem due_next {ds bs : List D} {rs : List (Option D)} {r : Option D} {i : Nat} (hl : rs.length = i) (hs : ∀ j r, rs[j]? = some r → Spec (atD ds j) (atD bs j) r) (sp : Spec (atD ds i) (atD bs i) r) : ∀ j r', (rs ++ [r])[j]? = some r' → Spec (atD ds j) (atD bs j) r' := by
  intro j r' h
  rw [List.getElem?_append] at h
  split at h
  · exact hs j r' h
  · have e : j = i := by
      cases q : j - rs.length with
      | zero => omega
      | succ n => rw [q] at h; cases h
    subst e
    rw [hl, Nat.sub_self] at h
    cases h
    exact sp
@[reducible] def mD (Du Db De : Addr) (c : Int) (tc : Tok) (u : Str → Option Value) : Str → Option Value := fun y => if y = S "due" then some (.ref Du) else if y = S "bases" then some (.ref Db) else if y = S "entries" then some (.ref De) else if y = S "count" then some (.int c tc) else u y
def dueBody : List Stmt := match lawBody[11]? with | some (Stmt.For _ _ b _ _) => b | _ => []
abbrev DueS := List Value × Nat × List (Addr × Obj) × List (Option D)
@[reducible] def dueLed (Du : Addr) (R : List (Addr × Obj)) (c : DueS) : List (Addr × Obj) := (Du, listOf c.1.toArray c.2.1) :: (R ++ c.2.2.1)
def DueP (h₀ : Heap) (ds bs : List D) (i : Nat) (c : DueS) : Prop := c.2.2.2.length = i ∧ (∀ j r, c.2.2.2[j]? = some r → Spec (atD ds j) (atD bs j) r) ∧ OAll h₀ c.2.2.1 c.1 c.2.2.2 ∧ TupsOnly c.2.2.1
theorem cls_off {h₀ h : Heap} {L a : Addr} {o : Obj} {news Y : List (Addr × Obj)} {T : Value} (x : ∀ p ∈ Y, p.2.cls = T) (N : News h₀ L h news) (k : ∀ p ∈ Y, p ∈ news) (hm : (a, o) ∈ news) (hc : ¬ o.cls = T) : ∀ p ∈ Y, p.1 ≠ a := fun p hp e => by
  have h1 := (N _ (k _ hp)).1
  have h2 := (N _ hm).1
  rw [e] at h1
  have := Option.some.inj (h1.symm.trans h2)
  exact hc ((congrArg (·.cls) this).symm.trans (x p hp))
section
variable {w : World} {s : Shared} {Q : Flow → Shared → Prop} {pv : Program} {loose : List Str} {mean : ExcName → Option Value} {mg mb : Str → Option Value} {h₀ : Heap} {L fa : Addr} {cd : Value} {u : Str → Option Value}
theorem due_turn {Du Db De : Addr} {c : Int} {tc t : Tok} {i n1 n2 : Nat} {R own : List (Addr × Obj)} {ys zs : List Value} {ds bs : List D} {σ : DueS}
    (X₀ : (hd.heap_1 w.params).In h₀) (T : Top pv loose mean mg mb h₀)
    (hu : ∀ p ∈ R, p.1 ≠ Du) (me : (De, listOf ys.toArray n1) ∈ R) (mb' : (Db, listOf zs.toArray n2) ∈ R) (dx : DAll h₀ R ys ds) (db : DAll h₀ R zs bs) (ex : ∀ d ∈ ds, Ent d) (eb : ∀ d ∈ bs, Ent d)
    (hc : c = ds.length) (h4 : 0 < ds.length ∧ ds.length ≤ 4) (hb : 0 < bs.length ∧ bs.length ≤ 2) (hi : i < 4)
    (p : DueP h₀ ds bs i σ) (ho : ∀ p ∈ own, p.2.cls = .type "range_iterator")
    (F : Fr h₀ L s.heap (fun y => if y = S "spot" then some (.int (0 + (i : Int)) t) else mD Du Db De c tc u y)) (N : News h₀ L s.heap (dueLed Du R σ ++ own)) :
    wpAny (model PG w) (callerA.deeper (envOfC (S "law") lawScope L fa cd)) (execs dueBody (envOfC (S "law") lawScope L fa cd)) (TurnS h₀ L (S "spot") (dueLed Du R) (fun _ _ => mD Du Db De c tc u) (DueP h₀ ds bs (i + 1)) own s Q) (fun _ _ => False) s := by
  obtain ⟨us, n, Y, rs⟩ := σ
  obtain ⟨hl, hs, oa, tY⟩ := p
  dsimp only at hl hs oa tY
  refine as_cons (by with_unfolding_all rfl) ?_
  dsimp only [dueLed] at N
  have hY : ∀ p ∈ Y, p.1 ≠ Du := tup_off tY N (by grind) (List.Mem.head _) (by simp)
  have hO : ∀ p ∈ own, p.1 ≠ Du := cls_off ho N (by grind) (List.Mem.head _) (by simp)
  simp only [List.cons_append, List.append_assoc] at N
  have hlu := oa.length
  w_top off
  w_strict (k_steps)
  all_goals (rename Fr _ _ _ _ => Fz; rename News _ _ _ _ => Nz; rename OIn _ _ _ _ => oi; rename Spec _ _ _ => sp; rename TupsOnly _ => tx)
  all_goals exact ⟨_, _, _, (us ++ [_], n + 1, Y ++ _, rs ++ [_]), u, rfl, Fz, fun p hp => Nz p (by dsimp only [dueLed] at hp; simp only [List.mem_append, List.mem_cons] at hp ⊢; grind), ⟨by simp [hl], due_next hl hs sp, (oa.mono fun p hp => List.mem_append_left _ hp).append (.cons (oi.mono fun p hp => List.mem_append_right _ hp) .nil), tY.append tx⟩, fun z hz => if_neg hz⟩
theorem due_len {c : Int} {n k : Nat} (hc : c = n) (h0 : c ≠ 0) : (if (k : Int) > c then (k : Int) else c) = ((if n = 0 then 0 else max n k : Nat) : Int) := by
  subst hc
  have h1 : n ≠ 0 := by omega
  rw [if_neg h1]
  split
  · rw [Nat.max_eq_right (by omega)]
  · rw [Nat.max_eq_left (by omega)]
theorem due_len0 {c : Int} {n k : Nat} (hc : c = n) (h0 : c = 0) : (0 : Int) = ((if n = 0 then 0 else max n k : Nat) : Int) := by
  have h1 : n = 0 := by omega
  rw [if_pos h1]; rfl
theorem due_loop {Q' : Flow → Shared → Prop} {r Du Db De : Addr} {c b : Int} {tc t₀ u₀ v₀ : Tok} {R : List (Addr × Obj)} {ys zs : List Value} {n1 n2 n3 : Nat} {ds bs : List D}
    (X₀ : (hd.heap_1 w.params).In h₀) (T : Top pv loose mean mg mb h₀) (hr : IsRange s.heap r 0 b 1 t₀ u₀ v₀)
    (F : Fr h₀ L s.heap (mD Du Db De c tc u))
    (N : News h₀ L s.heap ((Du, listOf #[] n3) :: R)) (hu : ∀ p ∈ R, p.1 ≠ Du) (hri : ∀ p ∈ R, p.2.cls ≠ .type "range_iterator")
    (me : (De, listOf ys.toArray n1) ∈ R) (mb' : (Db, listOf zs.toArray n2) ∈ R) (dx : DAll h₀ R ys ds) (db : DAll h₀ R zs bs) (ex : ∀ d ∈ ds, Ent d) (eb : ∀ d ∈ bs, Ent d)
    (hc : c = ds.length) (h4 : ds.length ≤ 4) (hb : 0 < bs.length ∧ bs.length ≤ 2) (hbb : b = ((if ds.length = 0 then 0 else max ds.length bs.length : Nat) : Int))
    (k : ∀ us rs n Y (v : Str → Option Value) h' tk, rs.length = (if ds.length = 0 then 0 else max ds.length bs.length) → (∀ i r, rs[i]? = some r → Spec (atD ds i) (atD bs i) r) → OAll h₀ Y us rs → TupsOnly Y →
      Fr h₀ L h' (fun y => if y = S "spot" then v y else mD Du Db De c tc u y) → News h₀ L h' ((Du, listOf us.toArray n) :: (R ++ Y)) → Q' .next { s with heap := h', toks := tk }) :
    wpAny (model PG w) (callerA.deeper (envOfC (S "law") lawScope L fa cd)) (pyIter (.ref r)) (fun it s₂ => LoopAtV PG w (callerA.deeper (envOfC (S "law") lawScope L fa cd)) h₀ (envOfC (S "law") lawScope L fa cd) (S "spot") dueBody Q' (fun _ _ => False) it s₂) (fun _ _ => False) s := by
  have b4 : 0 ≤ b ∧ b ≤ 4 := hbb ▸ cnt_int (cnt_4 h4 hb)
  have hN : (b - 0).toNat = (if ds.length = 0 then 0 else max ds.length bs.length : Nat) := by rw [hbb]; exact cnt_nat _
  refine range_S (σ := DueS) (dueLed Du R) (fun _ _ => mD Du Db De c tc u) (DueP h₀ ds bs) ([], n3, [], []) u rfl hr (small_04 b4) (rangeSize_nat _ _) F N ?_ ?_ ?_ (fun _ _ => rfl) ?_ ?_
  · rintro i ⟨us, n, Y, rs⟩ ⟨hl, hs, oa, tY⟩ p hp
    rcases List.mem_cons.mp hp with rfl | hp
    · simp
    rcases List.mem_append.mp hp with hp | hp
    · exact hri p hp
    · rw [tY p hp]; simp
  · intro p hp; simpa using hp
  · exact ⟨rfl, fun j r h => (by cases h), .nil, TupsOnly.nil⟩
  · intro i t σ u' h tk own hi p ho F' N'
    have hd0 : 0 < ds.length := cnt_pos (hN ▸ hi)
    have hi4 : i < 4 := Nat.lt_of_lt_of_le (hN ▸ hi) (cnt_4 h4 hb)
    exact due_turn (s := { s with heap := h, toks := tk }) X₀ T hu me mb' dx db ex eb hc ⟨hd0, h4⟩ hb hi4 p ho F' N'
  · rintro ⟨us, n, Y, rs⟩ u' v h tk ⟨hl, hs, oa, tY⟩ F' N'
    exact k us rs n Y v h tk (hl.trans hN) hs oa tY F' N'
theorem law_due {Du Db De : Addr} {c : Int} {tc : Tok} {R : List (Addr × Obj)} {ys zs : List Value} {n1 n2 n3 : Nat} {ds bs : List D}
    (X₀ : (hd.heap_1 w.params).In h₀) (T : Top pv loose mean mg mb h₀)
    (F : Fr h₀ L s.heap (mD Du Db De c tc u))
    (N : News h₀ L s.heap ((Du, listOf #[] n3) :: R)) (hu : ∀ p ∈ R, p.1 ≠ Du) (hr : ∀ p ∈ R, p.2.cls ≠ .type "range_iterator")
    (me : (De, listOf ys.toArray n1) ∈ R) (mb' : (Db, listOf zs.toArray n2) ∈ R) (dx : DAll h₀ R ys ds) (db : DAll h₀ R zs bs) (ex : ∀ d ∈ ds, Ent d) (eb : ∀ d ∈ bs, Ent d)
    (hc : c = ds.length) (h4 : ds.length ≤ 4) (hb : 0 < bs.length ∧ bs.length ≤ 2)
    (k : ∀ us rs n Y (v : Str → Option Value) h' tk, rs.length = (if ds.length = 0 then 0 else max ds.length bs.length) → (∀ i r, rs[i]? = some r → Spec (atD ds i) (atD bs i) r) → OAll h₀ Y us rs → TupsOnly Y →
      Fr h₀ L h' (fun y => if y = S "spot" then v y else mD Du Db De c tc u y) → News h₀ L h' ((Du, listOf us.toArray n) :: (R ++ Y)) →
      wpAny (model PG w) (callerA.deeper (envOfC (S "law") lawScope L fa cd)) (execs (lawBody.drop 12) (envOfC (S "law") lawScope L fa cd)) Q (fun _ _ => False) { s with heap := h', toks := tk }) :
    wpAny (model PG w) (callerA.deeper (envOfC (S "law") lawScope L fa cd)) (execs (lawBody.drop 11) (envOfC (S "law") lawScope L fa cd)) Q (fun _ _ => False) s := by
  refine as_cons (show lawBody.drop 11 = _ :: lawBody.drop 12 by with_unfolding_all rfl) ?_
  generalize lawBody.drop 12 = rest at k ⊢
  have sh : StopHere := trivial
  w_top off
  w_strict k_steps
  all_goals (unfold Stop; rename Fr _ _ _ _ => Fz; rename News _ _ _ _ => Nz; rename IsRange _ _ _ _ _ _ _ _ => rg)
  all_goals (refine due_loop X₀ T rg Fz Nz hu hr me mb' dx db ex eb hc h4 hb (by first | exact due_len hc (by assumption) | exact due_len0 hc (by assumption)) ?_)
  all_goals exact fun us rs n Y v h' tk hl hs oa tY F' N' => k us rs n Y v h' tk hl hs oa tY F' N'
end

/-! The law's second loop. -/
section
variable {prog : Program} {w : World} {A : Around} {E : Value → Shared → Prop} {s : Shared} {h₀ : Heap} {L a : Addr} {m : Str → Option Value} {news R : List (Addr × Obj)} {vs : List Value} {n i : Nat} {t : Tok} {Q : Value → Shared → Prop} {value slice : Expr} {rs : List (Option D)}
theorem item_O {Z : List (Addr × Obj)} (F : Fr h₀ L s.heap m) (N : News h₀ L s.heap news) (hm : (a, listOf vs.toArray n) ∈ news) (dx : OAll h₀ Z vs rs) (sub : ∀ p ∈ Z, p ∈ news) {k : Int} (hk : k = (i : Int)) (hl : i < rs.length ∧ rs.length ≤ 4096) (h : ∀ v r, rs[i]? = some r → OIn h₀ Z v r → Q v s)
    (hs : subscripted slice false (.ref a) (.int k t) = operate [.ref a, .int k t] (getItem (.ref a) (.int k t)) := by with_unfolding_all rfl) (hg : ∀ r, letTemporaryGo value (.ref a) r = pure () := by intro _; with_unfolding_all rfl) :
    wpAny (model prog w) A (subscriptTail value slice (.ref a) (.int k t)) Q E s := by
  subst hk
  obtain ⟨v, hv, dv⟩ := dx.get hl.1
  exact kim_list N hm rfl rfl (by omega) (by omega) hv (h v _ (List.getElem?_eq_getElem hl.1) dv) hs hg
theorem len_O {Z : List (Addr × Obj)} (N : News h₀ L s.heap news) (hm : (a, listOf vs.toArray n) ∈ news) (dx : OAll h₀ Z vs rs) (hfit : rs.length ≤ 4096) (h : Q (.int (rs.length : Nat) (s.toks + 1)) { s with toks := s.toks + 1 + 1 }) : wpAny (model prog w) A (call (.builtin "len") [.ref a]) Q E s := by
  have hl := dx.length
  refine PyProof.Rows.len_list (items := vs.toArray) ⟨_, (N _ hm).1, rfl, _, rfl⟩ (by rw [List.size_toArray]; omega) ?_
  rw [List.size_toArray, hl]; exact h
end
theorem said_43 : True := by
  (k_with "mine un" => exact of_decide_eq_true (by with_unfolding_all rfl))
  (k_with "call builtin:len" => (k_here; (with_reducible show wpAny _ _ (call (Value.builtin "len") [Value.ref _]) _ _ _); (rename News _ _ _ _ => N8); k_dflt (refine' len_O N8 ?m_r97 ?d_r97 ?f_r97 ?_; (case m_r97 => walk_at "mine in"); (case d_r97 => assumption); (case f_r97 => walk_at "mine om"))))
  (k_with "subscriptTail" => (k_here; (with_reducible show wpAny _ _ (subscriptTail _ _ (Value.ref _) (Value.int _ _)) _ _ _); (rename Fr _ _ _ _ => F8); (rename News _ _ _ _ => N8); (with_unfolding_all refine' item_O ?F_r98 ?N_r98 ?m_r98 ?d_r98 ?sub_r98 ?k_r98 ?l_r98 ?_ ?hs_r98 ?hg_r98); (case F_r98 => exact F8); (case N_r98 => exact N8); (case hs_r98 => with_unfolding_all rfl); (case hg_r98 => (intro _; with_unfolding_all rfl)); (case m_r98 => walk_at "mine in"); (case d_r98 => assumption); (case sub_r98 => walk_at "mine sub"); (case k_r98 => exact Int.zero_add _); (case l_r98 => walk_at "mine om"); (intro v9 r9 hr9 dv9)))
  (k_with "compareOp Eq" => (k_here; (with_reducible show wpAny _ _ (compareOp CmpOp.Eq _ (Value.ref _)) _ _ _); (rename Fr _ _ _ _ => F8); (rename News _ _ _ _ => N8); (rename OIn _ _ _ _ => oi8); (with_unfolding_all refine' mnEqO (e := some (some (0, 0))) ?v_r99 ?v2_r99 ?u_r99 ?_); (case v_r99 => exact OIn.at oi8 F8 N8 (by walk_at "mine sub")); (case v2_r99 => exact DAt.some (N8.isTup (by k_mem))); (case u_r99 => walk_at "mine un")))
  (k_with "compareOp NotIn ref ref" => (k_here; (with_reducible show wpAny _ _ (compareOp CmpOp.NotIn (Value.ref _) (Value.ref _)) _ _ _); (rename Fr _ _ _ _ => F8); (rename News _ _ _ _ => N8); (with_unfolding_all refine' mnNotInT (r := some (some (0, 0))) (r1 := some (atD _ _)) (r2 := some (atD _ _)) ?t_r100 ?v1_r100 ?v2_r100 ?v_r100 ?u_r100 ?_); (case t_r100 => exact N8.isTup (by k_mem)); (case v1_r100 => exact DIn.at (by assumption) F8 N8 (by walk_at "mine sub")); (case v2_r100 => exact DIn.at (by assumption) F8 N8 (by walk_at "mine sub")); (case v_r100 => exact DAt.some (N8.isTup (by k_mem))); (case u_r100 => walk_at "mine un")))
  trivial
@[reducible] def mF (Du Db De : Addr) (c : Int) (tc : Tok) (u : Str → Option Value) (b : Bool) (pr : Str → Option Value) : Str → Option Value := fun y => if y = S "pair" then pr y else if y = S "fresh_nan" then some (.bool b) else mD Du Db De c tc u y
theorem fresh_no1 {ds bs : List D} {rs : List (Option D)} {i : Nat} (h : some nanD ∈ [some (atD ds i), some (atD bs i)]) : Fresh ds bs rs (i + 1) = Fresh ds bs rs i := by
  have e : freshAt ds bs rs i = false := by
    simp only [List.mem_cons, Option.some.injEq, List.not_mem_nil, or_false] at h
    unfold freshAt
    rcases h with h | h <;> simp [← h]
  show (_ || _) = _
  rw [e, Bool.or_false]
theorem fresh_no2 {ds bs : List D} {rs : List (Option D)} {i : Nat} {r : Option D} (hr : rs[i]? = some r) (h : ¬ r = some nanD) : Fresh ds bs rs (i + 1) = Fresh ds bs rs i := by
  have e : freshAt ds bs rs i = false := by unfold freshAt; rw [hr]; simp [h]
  show (_ || _) = _
  rw [e, Bool.or_false]
theorem fresh_yes {ds bs : List D} {rs : List (Option D)} {i : Nat} {r : Option D} (hr : rs[i]? = some r) (h : r = some nanD) (h2 : ¬ some nanD ∈ [some (atD ds i), some (atD bs i)]) : Fresh ds bs rs (i + 1) = true := by
  have e : freshAt ds bs rs i = true := by
    simp only [List.mem_cons, Option.some.injEq, List.not_mem_nil, or_false, not_or] at h2
    unfold freshAt; rw [hr, h]
    simp [Ne.symm h2.1, Ne.symm h2.2]
  show (_ || _) = _
  rw [e, Bool.or_true]
theorem mF_end {Du Db De : Addr} {c : Int} {tc : Tok} {u m' : Str → Option Value} {b : Bool} (h : ∀ z, z ≠ S "spot" → z ≠ S "pair" → m' z = if z = S "fresh_nan" then some (.bool b) else mD Du Db De c tc u z) : ∀ z, z ≠ S "spot" → m' z = mF Du Db De c tc u b m' z := by
  intro z hz
  by_cases hp : z = S "pair"
  · simp only [mF, if_pos hp]
  · simp only [mF, if_neg hp]; exact h z hz hp
def freshBody : List Stmt := match lawBody[13]? with | some (Stmt.For _ _ b _ _) => b | _ => []
section
variable {w : World} {s : Shared} {Q : Flow → Shared → Prop} {pv : Program} {loose : List Str} {mean : ExcName → Option Value} {mg mb : Str → Option Value} {h₀ : Heap} {L fa : Addr} {cd : Value} {u pr : Str → Option Value}
theorem fresh_turn {Du Db De : Addr} {c : Int} {tc t : Tok} {i n1 n2 n3 : Nat} {R own : List (Addr × Obj)} {ys zs us : List Value} {ds bs : List D} {rs : List (Option D)} {σ : Bool}
    (X₀ : (hd.heap_1 w.params).In h₀) (T : Top pv loose mean mg mb h₀)
    (me : (De, listOf ys.toArray n1) ∈ R) (mb' : (Db, listOf zs.toArray n2) ∈ R) (md : (Du, listOf us.toArray n3) ∈ R) (dx : DAll h₀ R ys ds) (db : DAll h₀ R zs bs) (ou : OAll h₀ R us rs)
    (hc : c = ds.length) (h4 : 0 < ds.length ∧ ds.length ≤ 4) (hb : 0 < bs.length ∧ bs.length ≤ 2) (hi : i < rs.length) (hl4 : rs.length ≤ 4)
    (p : σ = Fresh ds bs rs i) (ho : ∀ p ∈ own, p.2.cls = .type "range_iterator")
    (F : Fr h₀ L s.heap (fun y => if y = S "spot" then some (.int (0 + (i : Int)) t) else mF Du Db De c tc u σ pr y)) (N : News h₀ L s.heap (R ++ own)) :
    wpAny (model PG w) (callerA.deeper (envOfC (S "law") lawScope L fa cd)) (execs freshBody (envOfC (S "law") lawScope L fa cd)) (TurnS h₀ L (S "spot") (fun _ => R) (fun b pr => mF Du Db De c tc u b pr) (fun b => b = Fresh ds bs rs (i + 1)) own s Q) (fun _ _ => False) s := by
  refine as_cons (by with_unfolding_all rfl) ?_
  have hlu := ou.length
  w_top off
  w_strict k_steps
  all_goals (rename Fr _ _ _ _ => Fz; rename News _ _ _ _ => Nz)
  all_goals first
    | refine ⟨_, _, _, σ, _, rfl, Fz, fun p hp => Nz p (by simp only [List.mem_append, List.mem_cons] at hp ⊢; grind), p.trans (fresh_no1 (by assumption)).symm, mF_end fun z hz hp => ?_⟩
    | refine ⟨_, _, _, σ, _, rfl, Fz, fun p hp => Nz p (by simp only [List.mem_append, List.mem_cons] at hp ⊢; grind), p.trans (fresh_no2 (by assumption) (by assumption)).symm, mF_end fun z hz hp => ?_⟩
    | refine ⟨_, _, _, true, _, rfl, Fz, fun p hp => Nz p (by simp only [List.mem_append, List.mem_cons] at hp ⊢; grind), (fresh_yes (by assumption) (by assumption) (by assumption)).symm, mF_end fun z hz hp => ?_⟩
  all_goals (by_cases hq : z = S "fresh_nan")
  all_goals first
    | (subst hq; rfl)
    | (simp only [mF]; simp [hz, hp, hq])
theorem fresh_loop {Q' : Flow → Shared → Prop} {r Du Db De : Addr} {c b : Int} {tc t₀ u₀ v₀ : Tok} {n1 n2 n3 : Nat} {R : List (Addr × Obj)} {ys zs us : List Value} {ds bs : List D} {rs : List (Option D)} {m : Str → Option Value}
    (X₀ : (hd.heap_1 w.params).In h₀) (T : Top pv loose mean mg mb h₀) (hr : IsRange s.heap r 0 b 1 t₀ u₀ v₀) (F : Fr h₀ L s.heap m) (N : News h₀ L s.heap R) (hm : ∀ z, z ≠ S "spot" → m z = mF Du Db De c tc u false m z)
    (hri : ∀ p ∈ R, p.2.cls ≠ .type "range_iterator")
    (me : (De, listOf ys.toArray n1) ∈ R) (mb' : (Db, listOf zs.toArray n2) ∈ R) (md : (Du, listOf us.toArray n3) ∈ R) (dx : DAll h₀ R ys ds) (db : DAll h₀ R zs bs) (ou : OAll h₀ R us rs)
    (hc : c = ds.length) (h4 : ds.length ≤ 4) (hb : 0 < bs.length ∧ bs.length ≤ 2) (hl : rs.length = (if ds.length = 0 then 0 else max ds.length bs.length)) (hbb : b = (rs.length : Nat))
    (k : ∀ (v pr : Str → Option Value) h' tk, Fr h₀ L h' (fun y => if y = S "spot" then v y else mF Du Db De c tc u (Fresh ds bs rs rs.length) pr y) → News h₀ L h' R → Q' .next { s with heap := h', toks := tk }) :
    wpAny (model PG w) (callerA.deeper (envOfC (S "law") lawScope L fa cd)) (pyIter (.ref r)) (fun it s₂ => LoopAtV PG w (callerA.deeper (envOfC (S "law") lawScope L fa cd)) h₀ (envOfC (S "law") lawScope L fa cd) (S "spot") freshBody Q' (fun _ _ => False) it s₂) (fun _ _ => False) s := by
  have hl4 : rs.length ≤ 4 := hl ▸ cnt_4 h4 hb
  have hN : (b - 0).toNat = rs.length := by rw [hbb]; exact cnt_nat _
  refine range_S (σ := Bool) (fun _ => R) (fun b pr => mF Du Db De c tc u b pr) (fun i b => b = Fresh ds bs rs i) false m rfl hr (small_04 (hbb ▸ cnt_int hl4)) (rangeSize_nat _ _) F N ?_ ?_ rfl hm ?_ ?_
  · intro i c _ p hp; exact hri p hp
  · intro p hp; exact hp
  · intro i t σ pr h tk own hi p ho F' N'
    rw [hN] at hi
    have hd0 : 0 < ds.length := cnt_pos (hl ▸ hi)
    exact fresh_turn (s := { s with heap := h, toks := tk }) X₀ T me mb' md dx db ou hc ⟨hd0, h4⟩ hb hi hl4 p ho F' N'
  · intro σ pr v h tk p F' N'
    rw [hN] at p
    exact k v pr h tk (p ▸ F') N'
theorem law_fresh {Du Db De : Addr} {c : Int} {tc : Tok} {n1 n2 n3 : Nat} {R : List (Addr × Obj)} {ys zs us : List Value} {ds bs : List D} {rs : List (Option D)} {v : Str → Option Value}
    (X₀ : (hd.heap_1 w.params).In h₀) (T : Top pv loose mean mg mb h₀) (F : Fr h₀ L s.heap (fun y => if y = S "spot" then v y else mD Du Db De c tc u y)) (N : News h₀ L s.heap R)
    (hri : ∀ p ∈ R, p.2.cls ≠ .type "range_iterator")
    (me : (De, listOf ys.toArray n1) ∈ R) (mb' : (Db, listOf zs.toArray n2) ∈ R) (md : (Du, listOf us.toArray n3) ∈ R) (dx : DAll h₀ R ys ds) (db : DAll h₀ R zs bs) (ou : OAll h₀ R us rs)
    (hc : c = ds.length) (h4 : ds.length ≤ 4) (hb : 0 < bs.length ∧ bs.length ≤ 2) (hl : rs.length = (if ds.length = 0 then 0 else max ds.length bs.length))
    (k : ∀ (v pr : Str → Option Value) h' tk, Fr h₀ L h' (fun y => if y = S "spot" then v y else mF Du Db De c tc u (Fresh ds bs rs rs.length) pr y) → News h₀ L h' R →
      wpAny (model PG w) (callerA.deeper (envOfC (S "law") lawScope L fa cd)) (execs (lawBody.drop 14) (envOfC (S "law") lawScope L fa cd)) Q (fun _ _ => False) { s with heap := h', toks := tk }) :
    wpAny (model PG w) (callerA.deeper (envOfC (S "law") lawScope L fa cd)) (execs (lawBody.drop 12) (envOfC (S "law") lawScope L fa cd)) Q (fun _ _ => False) s := by
  refine as_cons (show lawBody.drop 12 = _ :: _ :: lawBody.drop 14 by with_unfolding_all rfl) ?_
  generalize lawBody.drop 14 = rest at k ⊢
  have hl4 : rs.length ≤ 4 := hl ▸ cnt_4 h4 hb
  have sh : StopHere := trivial
  w_top off
  w_strict k_steps
  all_goals (unfold Stop; rename Fr _ _ _ _ => Fz; rename News _ _ _ _ => Nz; rename IsRange _ _ _ _ _ _ _ _ => rg)
  all_goals (refine fresh_loop (tc := tc) (u := u) X₀ T rg Fz Nz (mF_end fun z hz hp => ?hm) hri me mb' md dx db ou hc h4 hb hl rfl ?_; (case hm => (by_cases hq : z = S "fresh_nan" <;> first | (subst hq; rfl) | simp [hz, hp, hq])))
  all_goals exact fun v pr h' tk F' N' => k v pr h' tk F' N'
end

/-! b_log's loop. -/
def fnText (i : Nat) : List Stmt × Scope := match PySem.Challenge.pw_pq1419_01.main.body[i]? with
  | some (.FunctionDef _ _ b _ _ _ sc _ _ _) => (b, sc)
  | _ => ([], default)
def blogBody : List Stmt := (fnText 60).1
def blogTurn : List Stmt := match blogBody[9]? with | some (Stmt.For _ _ b _ _) => b | _ => []
abbrev envLaw (L fa : Addr) (cd : Value) : Env := envOfC (S "law") lawScope L fa cd
abbrev envBlog (L : Addr) (cd : Value) : Env := envOf (S "b_log") (fnText 60).2 L 441 cd
abbrev nansV (t : Tok) (b : Bool) : List Value := if b then [.str (S "NaNs produced") t] else []
section
variable {prog : Program} {w : World} {A : Around} {E : Value → Shared → Prop} {s : Shared} {h₀ : Heap} {L a : Addr} {m : Str → Option Value} {news R : List (Addr × Obj)} {vs : List Value} {v : Value} {n i : Nat} {t : Tok} {Q : Value → Shared → Prop} {value slice : Expr}
theorem item_last (N : News h₀ L s.heap news) (hm : (a, listOf (vs ++ [v]).toArray n) ∈ news) {k : Int} (hk : k = (i : Int)) (hl : vs.length = i ∧ i ≤ 4096) (h : Q v s)
    (hs : subscripted slice false (.ref a) (.int k t) = operate [.ref a, .int k t] (getItem (.ref a) (.int k t)) := by with_unfolding_all rfl) (hg : ∀ r, letTemporaryGo value (.ref a) r = pure () := by intro _; with_unfolding_all rfl) :
    wpAny (model prog w) A (subscriptTail value slice (.ref a) (.int k t)) Q E s := by
  subst hk
  refine kim_list N hm rfl rfl (by omega) (by omega) ?_ h hs hg
  have e : ((i : Int)).toNat = i := Int.toNat_natCast _
  rw [e, ← hl.1]; simp
end
theorem truthy_N {prog : Program} {w : World} {A : Around} {E : Value → Shared → Prop} {s : Shared} {h₀ : Heap} {L a : Addr} {news : List (Addr × Obj)} {vs : List Value} {n : Nat} {Q : Bool → Shared → Prop} (N : News h₀ L s.heap news) (hm : (a, listOf vs.toArray n) ∈ news) (hz : vs.length ≤ 4096) (h : Q (!vs.isEmpty) { s with toks := s.toks + 1 + 1 }) : wpAny (model prog w) A (truthy (.ref a)) Q E s := by
  refine wpAny_truthy_list (items := vs.toArray) ⟨_, (N _ hm).1, rfl, _, rfl⟩ (by rw [List.size_toArray]; omega) ?_
  have e : vs.toArray.isEmpty = vs.isEmpty := by cases vs <;> simp
  rw [e]; exact h
theorem said_44 : True := by
  (k_with "truthy ref" => (k_here; (with_reducible show wpAny _ _ (truthy (Value.ref _)) _ _ _); (rename News _ _ _ _ => N8); k_dflt (refine' truthy_N ?N_r101 ?m_r101 ?z_r101 ?_; (case N_r101 => exact N8); (case m_r101 => walk_at "mine in"); (case z_r101 => first | exact Nat.le_of_ble_eq_true rfl | omega)); (try simp only [List.isEmpty_cons, List.isEmpty_nil, Bool.not_false, Bool.not_true])))
  (k_with "mine dat" => exact DIn.at (by assumption) (by assumption) (by assumption) (by walk_at "mine sub"))
  (k_with "subscriptTail" => (k_here; (with_reducible show wpAny _ _ (subscriptTail _ _ (Value.ref _) (Value.int _ _)) _ _ _); (rename News _ _ _ _ => N8); (with_unfolding_all refine' item_last ?N_r103 ?m_r103 ?k_r103 ?l_r103 ?_ ?hs_r103 ?hg_r103); (case N_r103 => exact N8); (case hs_r103 => with_unfolding_all rfl); (case hg_r103 => (intro _; with_unfolding_all rfl)); (case m_r103 => walk_at "mine in"); (case k_r103 => exact Int.zero_add _); (case l_r103 => walk_at "mine om")))
  (k_with "call ref" => (k_here; (with_reducible show wpAny _ _ (call (Value.ref 270) [_]) _ _ _); k_dflt ((with_unfolding_all refine' c_is_nan ?X_r104 ?T_r104 ?v_r104 ?r_r104 ?u_r104 ?_); (case X_r104 => exact mnIn (by assumption) (by assumption)); (case T_r104 => exact mnTop (by assumption) (by assumption)); (case v_r104 => walk_at "mine dat"); (case r_r104 => walk_at "mine un"); (case u_r104 => walk_at "mine un"); (intro h9 tk9 ks9); (rename Fr _ _ _ _ => F8); (rename News _ _ _ _ => N8); (have F9 := F8.keeps ks9); (have N9 := mnNews N8 ks9); (clear ks9); (try k_sweep); (try k_fold))))
  (k_with "call ref" => (k_here; (with_reducible show wpAny _ _ (call (Value.ref 434) [_, _]) _ _ _); k_dflt ((rename Fr _ _ _ _ => F8); (rename News _ _ _ _ => N8); (with_unfolding_all refine' c_lb ?X_r105 ?T_r105 ?hl_r105 ?v_r105 ?v2_r105 ?r_r105 ?u_r105 ?p1_r105 ?p2_r105 ?_ ?kE_r105); (case X_r105 => exact mnIn (by assumption) F8); (case T_r105 => exact mnTop (by assumption) F8); (case hl_r105 => exact funFrames_empty (pushX (by assumption) F8 rfl rfl).frames); (case v_r105 => walk_at "mine dat"); (case v2_r105 => walk_at "mine dat"); (case r_r105 => walk_at "mine un"); (case u_r105 => walk_at "mine un"); (case p1_r105 => walk_at "mine ent"); (case p2_r105 => walk_at "mine ent"); (case kE_r105 => (intro why9 e9 h9 tk9 rz9; walk_at "mine flew")); (intro d9 sp9 r9 h9 tk9 ks9 dr9); (have F9 := F8.keeps ks9); (have N9 := mnNews N8 ks9); (obtain ⟨ex9, N7, tx9, di9⟩ := absorb F9 N9 dr9); (clear dr9 ks9 N9 F8 N8); (try simp only [List.nil_append, List.cons_append, List.append_assoc] at N7); (try k_sweep); (try k_fold))))
  (k_with "mine flew" => ((rename Fr _ _ _ _ => F7); (rename News _ _ _ _ => N7); (rename Rz _ _ _ _ _ => z7); (rename Spec _ _ _ => y7); (rename GroundOf _ _ _ => g7); refine ⟨⟨_, by assumption, y7⟩, _, _, _, rfl, rfl, rz_elder ?_ z7⟩; exact GroundOf.stays g7 (mnKeep F7) (fun p hp => (N7 p (by have q8 := ‹∀ p ∈ _, p ∈ _› p hp; walk_at "mine in")).1)))
  (k_with "mine fits" => (rw [PySem.sizeLine_eq, List.size_toArray]; walk_at "mine om"))
  trivial
@[reducible] def mB (Fd Bb Gv Nt Ix Ii : Addr) (u : Str → Option Value) : Str → Option Value := fun y => if y = S "found" then some (.ref Fd) else if y = S "bases" then some (.ref Bb) else if y = S "given" then some (.ref Gv) else if y = S "notes" then some (.ref Nt) else if y = S "x" then some (.ref Ix) else if y = S "interp" then some (.ref Ii) else u y
theorem mB_end {Fd Bb Gv Nt Ix Ii : Addr} {m' : Str → Option Value} (h1 : m' (S "found") = some (.ref Fd)) (h2 : m' (S "bases") = some (.ref Bb)) (h3 : m' (S "given") = some (.ref Gv)) (h4 : m' (S "notes") = some (.ref Nt)) (h5 : m' (S "x") = some (.ref Ix)) (h6 : m' (S "interp") = some (.ref Ii)) : ∀ z, z ≠ S "i" → m' z = mB Fd Bb Gv Nt Ix Ii m' z := by
  intro z _
  simp only [mB]
  by_cases q1 : z = S "found"
  · rw [if_pos q1, q1, h1]
  rw [if_neg q1]
  by_cases q2 : z = S "bases"
  · rw [if_pos q2, q2, h2]
  rw [if_neg q2]
  by_cases q3 : z = S "given"
  · rw [if_pos q3, q3, h3]
  rw [if_neg q3]
  by_cases q4 : z = S "notes"
  · rw [if_pos q4, q4, h4]
  rw [if_neg q4]
  by_cases q5 : z = S "x"
  · rw [if_pos q5, q5, h5]
  rw [if_neg q5]
  by_cases q6 : z = S "interp"
  · rw [if_pos q6, q6, h6]
  rw [if_neg q6]
theorem isNan_eq (d : D) : isNan d = decide (d = nanD) := by
  rcases d with _ | ⟨p, q⟩
  · rfl
  · simp [isNan, nanD]
theorem blog_flag {ds bs rs : List D} {d : D} {i : Nat} {b : Bool} (hl : rs.length = i) (hf : Fresh ds bs (rs.map some) rs.length = b) (sp : Spec (atD ds i) (atD bs i) (some d)) :
    Fresh ds bs ((rs ++ [d]).map some) (rs ++ [d]).length = (b || (isNan d && (!isNan (atD ds i) && !isNan (atD bs i)))) := by
  have e := Fresh.next (xs := ds) (bs := bs) (ds := rs) (d := d)
  rw [hf, hl] at e
  have e2 : (rs ++ [d]).length = i + 1 := by simp [hl]
  rw [e2, e, isNan_eq, isNan_eq, isNan_eq]
theorem blog_next {ds bs rs : List D} {d : D} {i : Nat} (hl : rs.length = i) (hs : ∀ j d, rs[j]? = some d → Spec (atD ds j) (atD bs j) (some d)) (sp : Spec (atD ds i) (atD bs i) (some d)) : ∀ j d', (rs ++ [d])[j]? = some d' → Spec (atD ds j) (atD bs j) (some d') := by
  intro j d' h
  rw [List.getElem?_append] at h
  split at h
  · exact hs j d' h
  · have e : j = i := by
      cases q : j - rs.length with
      | zero => omega
      | succ n => rw [q] at h; cases h
    subst e
    rw [hl, Nat.sub_self] at h
    cases h
    exact sp
theorem led_perm {x y p : Addr × Obj} {R Y ex own : List (Addr × Obj)} (h : p ∈ x :: y :: (R ++ (Y ++ ex)) ++ own) : p ∈ x :: y :: (R ++ (Y ++ (own ++ ex))) := by
  simp only [List.mem_append, List.mem_cons, List.cons_append] at h ⊢
  grind
abbrev BlogS := List Value × Nat × List (Addr × Obj) × List D × Nat × Tok
@[reducible] noncomputable def blogLed (Fd Nt : Addr) (R : List (Addr × Obj)) (xs bs : List D) (c : BlogS) : List (Addr × Obj) := (Fd, listOf c.1.toArray c.2.1) :: (Nt, listOf (nansV c.2.2.2.2.2 (Fresh xs bs (c.2.2.2.1.map some) c.2.2.2.1.length)).toArray c.2.2.2.2.1) :: (R ++ c.2.2.1)
def BlogP (h₀ : Heap) (xs bs : List D) (i : Nat) (c : BlogS) : Prop := c.2.2.2.1.length = i ∧ (∀ j d, c.2.2.2.1[j]? = some d → Spec (atD xs j) (atD bs j) (some d)) ∧ DAll h₀ c.2.2.1 c.1 c.2.2.2.1 ∧ TupsOnly c.2.2.1
/-- the place at which log_beside refuses -/
def NoAt (xs bs : List D) (n : Nat) : Prop := ∃ i, i < n ∧ Spec (atD xs i) (atD bs i) none
section
variable {w : World} {s s₀ : Shared} {Q : Flow → Shared → Prop} {pv : Program} {loose : List Str} {mean : ExcName → Option Value} {mg mb : Str → Option Value} {h₀ : Heap} {L L₁ fa : Addr} {cd cd₂ : Value} {u : Str → Option Value}
theorem blog_turn {Fd Nt Gv Bb Ix Ii : Addr} {t : Tok} {i nt n1 n2 : Nat} {R Rc own : List (Addr × Obj)} {ys zs : List Value} {ds bs : List D} {σ : BlogS}
    (X₀ : (hd.heap_1 w.params).In h₀) (T : Top pv loose mean mg mb h₀) (B : Below (callerA.deeper (envLaw L₁ fa cd)) {} [envLaw L₁ fa cd] h₀) (gs : GroundOf h₀ s₀.heap Rc) (gr : ∀ p ∈ Rc, p ∈ R)
    (hu : ∀ p ∈ R, p.1 ≠ Fd) (hv : ∀ p ∈ R, p.1 ≠ Nt) (hfn : @Ne Nat Fd Nt) (me : (Gv, listOf ys.toArray n1) ∈ R) (mb' : (Bb, listOf zs.toArray n2) ∈ R) (dx : DAll h₀ R ys ds) (db : DAll h₀ R zs bs) (ex : ∀ d ∈ ds, Ent d) (eb : ∀ d ∈ bs, Ent d)
    (h4 : 0 < ds.length ∧ ds.length ≤ 4) (hb : 0 < bs.length ∧ bs.length ≤ 2) (hi : i < nt) (ht : nt ≤ 4)
    (p : BlogP h₀ ds bs i σ) (ho : ∀ p ∈ own, p.2.cls = .type "range_iterator") (hs0 : ∃ h tk, s = { s₀ with heap := h, toks := tk })
    (F : Fr h₀ L s.heap (fun y => if y = S "i" then some (.int (0 + (i : Int)) t) else mB Fd Bb Gv Nt Ix Ii u y)) (N : News h₀ L s.heap (blogLed Fd Nt R ds bs σ ++ own)) :
    wpAny (model PG w) ((callerA.deeper (envLaw L₁ fa cd)).deeper (envBlog L cd₂)) (execs blogTurn (envBlog L cd₂)) (TurnS h₀ L (S "i") (blogLed Fd Nt R ds bs) (fun _ u => mB Fd Bb Gv Nt Ix Ii u) (BlogP h₀ ds bs (i + 1)) own s Q) (RzE (NoAt ds bs nt) s₀ s₀.heap [envBlog L cd₂, envLaw L₁ fa cd] rmsg) s := by
  obtain ⟨us, n, Y, rs, kn, tn⟩ := σ
  obtain ⟨hl, hs, oa, tY⟩ := p
  obtain ⟨h, tk, rfl⟩ := hs0
  dsimp only at hl hs oa tY
  refine as_cons (by with_unfolding_all rfl) ?_
  dsimp only [blogLed] at N
  have hlu := oa.length
  have hY : ∀ p ∈ Y, p.1 ≠ Fd := tup_off tY N (by grind) (List.Mem.head _) (by simp)
  have hO : ∀ p ∈ own, p.1 ≠ Fd := cls_off ho N (by grind) (List.Mem.head _) (by simp)
  have hY' : ∀ p ∈ Y, p.1 ≠ Nt := tup_off tY N (by grind) (List.Mem.tail _ (List.Mem.head _)) (by simp)
  have hO' : ∀ p ∈ own, p.1 ≠ Nt := cls_off ho N (by grind) (List.Mem.tail _ (List.Mem.head _)) (by simp)
  simp only [List.cons_append, List.append_assoc] at N
  cases hfb : Fresh ds bs (rs.map some) rs.length
  all_goals (simp only [hfb, nansV, if_true, if_false, Bool.false_eq_true] at N)
  w_top off
  all_goals w_strict k_steps
  all_goals (rename Fr _ _ _ _ => Fz; rename News _ _ _ _ => Nz; rename DIn _ _ _ _ => di; rename Spec _ _ _ => sp; rename TupsOnly _ => tx)
  all_goals (have e := blog_flag hl hfb sp; simp only [*, Bool.true_and, Bool.false_and, Bool.not_true, Bool.not_false, Bool.or_false, Bool.or_true, Bool.false_or, Bool.true_or, Bool.and_false, Bool.and_true] at e)
  all_goals first
    | refine ⟨_, _, _, (us ++ [_], n + 1, Y ++ _, rs ++ [_], kn, tn), _, rfl, Fz, (by dsimp only [blogLed]; rw [e]; exact fun p hp => Nz p (led_perm hp)), ⟨by simp [hl], blog_next hl hs sp, (oa.mono fun p hp => List.mem_append_left _ hp).append (.cons (di.mono fun p hp => List.mem_append_right _ hp) .nil), tY.append tx⟩, mB_end rfl rfl rfl rfl rfl rfl⟩
    | refine ⟨_, _, _, (us ++ [_], n + 1, Y ++ _, rs ++ [_], kn + 1, _), _, rfl, Fz, (by dsimp only [blogLed]; rw [e]; exact fun p hp => Nz p (led_perm hp)), ⟨by simp [hl], blog_next hl hs sp, (oa.mono fun p hp => List.mem_append_left _ hp).append (.cons (di.mono fun p hp => List.mem_append_right _ hp) .nil), tY.append tx⟩, mB_end rfl rfl rfl rfl rfl rfl⟩
theorem blog_loop {Q' : Flow → Shared → Prop} {r Fd Nt Gv Bb Ix Ii : Addr} {b : Int} {t₀ u₀ v₀ : Tok} {n1 n2 n3 n4 : Nat} {R Rc : List (Addr × Obj)} {ys zs : List Value} {ds bs : List D} {m : Str → Option Value}
    (X₀ : (hd.heap_1 w.params).In h₀) (T : Top pv loose mean mg mb h₀) (B : Below (callerA.deeper (envLaw L₁ fa cd)) {} [envLaw L₁ fa cd] h₀) (gs : GroundOf h₀ s₀.heap Rc) (gr : ∀ p ∈ Rc, p ∈ R)
    (hr : IsRange s.heap r 0 b 1 t₀ u₀ v₀) (F : Fr h₀ L s.heap m) (hm : ∀ z, z ≠ S "i" → m z = mB Fd Bb Gv Nt Ix Ii m z) (N : News h₀ L s.heap ((Fd, listOf #[] n3) :: (Nt, listOf #[] n4) :: R)) (hri : ∀ p ∈ R, p.2.cls ≠ .type "range_iterator")
    (hu : ∀ p ∈ R, p.1 ≠ Fd) (hv : ∀ p ∈ R, p.1 ≠ Nt) (hfn : @Ne Nat Fd Nt) (me : (Gv, listOf ys.toArray n1) ∈ R) (mb' : (Bb, listOf zs.toArray n2) ∈ R) (dx : DAll h₀ R ys ds) (db : DAll h₀ R zs bs) (ex : ∀ d ∈ ds, Ent d) (eb : ∀ d ∈ bs, Ent d)
    (h4 : ds.length ≤ 4) (hb : 0 < bs.length ∧ bs.length ≤ 2) (hs0 : ∃ h tk, s = { s₀ with heap := h, toks := tk }) (hbb : b = ((if ds.length = 0 then 0 else max ds.length bs.length : Nat) : Int))
    (k : ∀ us n Y rs kn tn (v u : Str → Option Value) h' tk, rs.length = (if ds.length = 0 then 0 else max ds.length bs.length) → (∀ j d, rs[j]? = some d → Spec (atD ds j) (atD bs j) (some d)) → DAll h₀ Y us rs → TupsOnly Y →
      Fr h₀ L h' (fun y => if y = S "i" then v y else mB Fd Bb Gv Nt Ix Ii u y) → News h₀ L h' ((Fd, listOf us.toArray n) :: (Nt, listOf (nansV tn (Fresh ds bs (rs.map some) rs.length)).toArray kn) :: (R ++ Y)) → Q' .next { s with heap := h', toks := tk }) :
    wpAny (model PG w) ((callerA.deeper (envLaw L₁ fa cd)).deeper (envBlog L cd₂)) (pyIter (.ref r)) (fun it s₂ => LoopAtV PG w ((callerA.deeper (envLaw L₁ fa cd)).deeper (envBlog L cd₂)) h₀ (envBlog L cd₂) (S "i") blogTurn Q' (RzE (NoAt ds bs (if ds.length = 0 then 0 else max ds.length bs.length)) s₀ s₀.heap [envBlog L cd₂, envLaw L₁ fa cd] rmsg) it s₂) (RzE (NoAt ds bs (if ds.length = 0 then 0 else max ds.length bs.length)) s₀ s₀.heap [envBlog L cd₂, envLaw L₁ fa cd] rmsg) s := by
  have b4 : 0 ≤ b ∧ b ≤ 4 := hbb ▸ cnt_int (cnt_4 h4 hb)
  have hN : (b - 0).toNat = (if ds.length = 0 then 0 else max ds.length bs.length : Nat) := by rw [hbb]; exact cnt_nat _
  refine range_S (σ := BlogS) (blogLed Fd Nt R ds bs) (fun _ u => mB Fd Bb Gv Nt Ix Ii u) (BlogP h₀ ds bs) ([], n3, [], [], n4, 0) m rfl hr (small_04 b4) (rangeSize_nat _ _) F N ?_ ?_ ?_ hm ?_ ?_
  · rintro i ⟨us, n, Y, rs, kn, tn⟩ ⟨hl, hs, oa, tY⟩ p hp
    rcases List.mem_cons.mp hp with rfl | hp
    · simp
    rcases List.mem_cons.mp hp with rfl | hp
    · simp
    rcases List.mem_append.mp hp with hp | hp
    · exact hri p hp
    · rw [tY p hp]; simp
  · intro p hp; simpa [blogLed, Fresh, nansV] using hp
  · exact ⟨rfl, fun j r h => (by cases h), .nil, TupsOnly.nil⟩
  · intro i t σ u' h tk own hi p ho F' N'
    rw [hN] at hi
    have hd0 : 0 < ds.length := cnt_pos hi
    have ht : (if ds.length = 0 then 0 else max ds.length bs.length) ≤ 4 := cnt_4 h4 hb
    refine blog_turn (s := { s with heap := h, toks := tk }) X₀ T B gs gr hu hv hfn me mb' dx db ex eb ⟨hd0, h4⟩ hb hi ht p ho ?_ F' N'
    obtain ⟨h1, tk1, rfl⟩ := hs0
    exact ⟨h, tk, rfl⟩
  · rintro ⟨us, n, Y, rs, kn, tn⟩ u' v h tk ⟨hl, hs, oa, tY⟩ F' N'
    exact k us n Y rs kn tn v u' h tk (hl.trans hN) hs oa tY F' N'
end

/-! The attributes' dict: none, or a dict of one key whose Vector holds the names. -/
def HasH (h : Heap) (x C : Addr) (name : Str) (v : Value) : Prop := ∃ D oD, h.get? x = some (instObj C D) ∧ h.get? D = some oD ∧ lookIn name oD = some (some v)
theorem HasH.keeps {h h' : Heap} {x C : Addr} {name : Str} {v : Value} (z : HasH h x C name v) (k : h.StaysIn h') : HasH h' x C name v := by
  obtain ⟨D, oD, a, b, c⟩ := z
  exact ⟨D, oD, k _ _ a, k _ _ b, c⟩
inductive AttrsH (w : World) (h : Heap) : Value → Option (Str × Addr × Addr) → Prop
  | none : AttrsH w h .none none
  | some {A V Lv : Addr} {key : Str} : h.DictOf (PySem.strKind PG w) A [(key, .ref V)] → (A == sysModules) = false → HasH h V 92 (S "items") (.ref Lv) → AttrsH w h (.ref A) (some (key, V, Lv))
theorem AttrsH.keeps {w : World} {h h' : Heap} {v : Value} {q : Option (Str × Addr × Addr)} (z : AttrsH w h v q) (k : h.StaysIn h') : AttrsH w h' v q := by
  cases z with
  | none => exact .none
  | some a b c => exact .some (a.at fun o e => k _ _ e) b (c.keeps k)
def seenOf : Option (Str × Addr × Addr) → List (Str × Value)
  | none => []
  | some (key, _, Lv) => [(key, .ref Lv)]
section
variable {w : World} {A : Around} {E : Value → Shared → Prop} {s : Shared} {h₀ : Heap} {L : Addr} {m : Str → Option Value} {K : Frag} {Q : Value → Shared → Prop} {env : Env}
theorem attr_h {x C : Addr} {name : Str} {v : Value} {expr : Bool} {attr : Option Value} (F : Fr h₀ L s.heap m) (X₀ : K.In h₀) (z : HasH h₀ x C name v) (hg : plainGet K C name = true) (hh : hasDictIn K C = true) (ha : findIn K (.ref C) name = some attr) (hn : noGet K attr = true) (hv : handedIn v = true) (h : Q v { s with toks := s.toks + 1 }) : wpAny (model PG w) A (getAttr (.ref x) name expr) Q E s := by
  obtain ⟨D, oD, a, b, c⟩ := z
  exact get_value (od := some oD) (X₀.keeps F.keep) ⟨F.keep _ _ a, rfl, rfl, F.keep _ _ b⟩ (plainGet_of hg).1 (findObj_own hh ha hn c) hv h
theorem item_d {d : Addr} {key : Str} {y kv : Value} {value slice : Expr} (hd : s.heap.DictOf (PySem.strKind PG w) d [(key, y)]) (hk : (PySem.strKind PG w).is key kv = true) (h : Q y { s with toks := s.toks + 1 })
    (hs : subscripted slice false (.ref d) kv = operate [.ref d, kv] (getItem (.ref d) kv)) (hg : ∀ r, letTemporaryGo value (.ref d) r = pure ()) : wpAny (model PG w) A (subscriptTail value slice (.ref d) kv) Q E s :=
  subscriptTail_builtin hd.typeIs PySem.slot_dict_getitem.lookup (wpAny_getItem_of hk hd.mapOf (show valueAt [(key, y)] key = some y by unfold valueAt; rw [List.find?_cons_of_pos (by exact decide_eq_true rfl)]; rfl) h) hs hg
theorem newDict_acc {M : Model} {A : Around} {E : Value → Shared → Prop} {s : Shared} {F F' : Value → Shared → Prop} (h : wpAny M A newDict F E s) (k : ∀ s', F (.ref s.heap.objs.size) s' → F' (.ref s.heap.objs.size) s') : wpAny M A newDict F' E s := fun Γ p hΓ => by
  have h := h Γ p hΓ
  exact k _ h
def DcPost (w : World) (A : Around) (Q : Value → Shared → Prop) (kx vx : Expr) (x : Str) (scope : Scope) (cl : List (Str × Addr)) (env : Env) (xv : Value) (s₁ : Shared) : Prop :=
  ∃ Ad key y u, xv = .ref Ad ∧ (Ad == sysModules) = false ∧ s₁.heap.DictOf (PySem.strKind PG w) Ad [(key, y)] ∧
      (∀ C kv s₃ m₃ E', (PySem.strKind PG w).is key kv = true → s₃.heap.Ns C m₃ → m₃ x = some kv → s₁.heap.StaysIn s₃.heap → wpAny (model PG w) A (eval kx (compEnvC scope cl C env)) (fun k' s₄ => (PySem.strKind PG w).is key k' = true ∧ Keeps s₃ s₄) E' s₃) ∧
      (∀ C kv s₃ m₃ E', (PySem.strKind PG w).is key kv = true → s₃.heap.Ns C m₃ → m₃ x = some kv → s₁.heap.StaysIn s₃.heap → wpAny (model PG w) A (eval vx (compEnvC scope cl C env)) (fun y' s₄ => y' = u ∧ Keeps s₃ s₄) E' s₃) ∧
      sysModules < s₁.heap.objs.size ∧ (∀ D h' tk, s₁.heap.get? D = none → (D == sysModules) = false → h'.DictOf (PySem.strKind PG w) D [(key, u)] → s₁.heap.StaysIn h' → Q (.ref D) { s₁ with heap := h', toks := tk })
theorem dc_one {kx vx iter : Expr} {x : Str} {px : Pos} {scope : Scope} {cl : List (Str × Addr)} {pos : Pos}
    (hh : A.handled = none) (hclos : closureFor scope env = pure cl) (hcell : ∀ y ∈ scope.names, y.2 ≠ .cell) (hkind : scope.kind = .function)
    (hnames : ∀ y ∈ scope.names, y.2 = .local → scope.names.lookup y.1 = some .local) (hx : scope.names.lookup x = some .local) (hs : ∀ x, foldedSetIterable iter env x = pure x)
    (h : wpAny (model PG w) A (eval iter env) (DcPost w A Q kx vx x scope cl env) E s) :
    wpAny (model PG w) A (eval (.DictComp kx vx [⟨.Name x px, iter, [], 0⟩] scope pos) env) Q E s := by
  rw [arm_eval_DictComp]
  refine wpAny_comprehension_free (use := none) rfl hs hclos hkind hnames (wpAny_mono h (fun xv s₁ (h₁ : DcPost w A Q kx vx x scope cl env xv s₁) => ?_) fun _ _ e => e)
  obtain ⟨Ad, key, y, u, rfl, lo, hd, hkey, hval, hbig, hQ⟩ := h₁
  obtain ⟨ep, hda⟩ := hd.dictAt
  have hlt : Ad < s₁.heap.objs.size := hda.lt_size
  refine wpAny_pyIter_dict lo hda ?_
  have up : ∀ (h₃ : Heap), (∀ b o, b ∉ [s₁.heap.objs.size] → (s₁.heap.push { cls := .type "dict_keyiterator", data := .fields #[.ref Ad, .int 0 0, .int ([(key, y)] : List (Str × Value)).length 0, .int ep 0] }).get? b = some o → h₃.get? b = some o) → s₁.heap.StaysIn h₃ :=
    fun h₃ hk b o e => hk b o (fun hm => by rcases List.mem_cons.mp hm with rfl | hm; exact Nat.lt_irrefl _ (Heap.lt_size e); cases hm) (Heap.get?_push_of_some _ e)
  have isk : ∀ (i : Nat) (v : Value), (∃ (k : Str) (z : Value), ([(key, y)] : List (Str × Value))[i]? = some (k, z) ∧ (PySem.strKind PG w).is k v = true) → (PySem.strKind PG w).is key v = true := by
    rintro i v ⟨k, z, hi, hv⟩
    cases i with
    | zero => cases hi; exact hv
    | succ i => cases hi
  refine newDict_acc (comp_block_walkCD (knd := PySem.strKind PG w) (RR := fun acc C r s' => acc = .ref (s₁.heap.objs.size + 1) → compPost (model PG w) A E none Q acc C r s') (Walks.dictKeys hh s₁.heap.objs.size Ad (Nat.ne_of_lt hlt) [(key, y)] ep) (by rw [PySem.sizeLine_eq]; exact Nat.le_of_ble_eq_true rfl) (fun _ => true)
    (fun v k => k = key) (fun v z => z = u) hcell hkind hx ⟨⟨_, Heap.get?_push_size _ rfl, rfl, rfl⟩, hda.push _⟩ ?_ ⟨?_, ?_, ?_⟩ ?_) (fun s' h => wpAny_mono h (fun cenv s₄ h4 => codeAny_mono h4 fun r s5 hr => hr (by simp [Heap.size_push])) fun _ _ e => e)
  · intro b hb
    show b < (s₁.heap.push _).objs.size
    rw [Heap.size_push]
    rcases List.mem_cons.mp hb with rfl | hb
    · exact Nat.lt_succ_self _
    · rcases List.mem_cons.mp hb with rfl | hb
      · exact Nat.lt_succ_of_lt hlt
      · cases hb
  · intro C i v s₃ m₃ E' hP hn hm hk
    exact wpAny_pure ⟨rfl, _, _, rfl, fun _ _ e => e⟩
  · intro C i v s₃ m₃ E' hP _ hn hm hk
    exact wpAny_mono (hkey C v s₃ m₃ E' (isk i v hP) hn hm (up _ hk)) (fun k' s₄ h₄ => ⟨⟨key, h₄.1, rfl⟩, h₄.2⟩) fun _ _ e => e
  · intro C i v s₃ m₃ E' hP _ hn hm hk
    exact hval C v s₃ m₃ E' (isk i v hP) hn hm (up _ hk)
  · intro D C h' tk m' kvs vs hD hC hDC hnC hlD hlen hP hF hk eD
    have eD : D = s₁.heap.objs.size + 1 := by cases eD; rfl
    have lD : (D == sysModules) = false := beq_eq_false_iff_ne.mpr (Nat.ne_of_gt (by rw [eD]; exact Nat.lt_succ_of_lt hbig))
    have st : s₁.heap.StaysIn h' := up _ hk
    have hDs : s₁.heap.get? D = none := by
      cases e : s₁.heap.get? D with
      | none => rfl
      | some o' => rw [Heap.get?_push_of_some _ e] at hD; cases hD
    have ekv : kvs = [(key, u)] := by
      obtain ⟨v, rfl⟩ := List.length_eq_one_iff.mp (show vs.length = 1 from hlen)
      have hF' : StoredAll (fun v k => k = key) (fun v z => z = u) [v] kvs := hF
      have h1 := hF'.length_le
      generalize hl : [v] = l at hF' 
      cases hF' with
      | nil => cases hl
      | @snoc l' kvs' v' k' y' h1' hk' hy' =>
        subst hk'; subst hy'
        have e1 : l' = [] := by
          have := congrArg List.length hl
          simp at this
          exact this
        subst e1
        have := h1'.length_le
        cases kvs' with
        | nil => rfl
        | cons a b => simp at this
    subst ekv
    refine ⟨m', hnC, fun h₃ hs₃ => hQ D h₃ tk hDs lD (hlD.extBut hs₃.extBut hDC) fun b o e => hs₃.extBut b o (fun q => ?_) (st b o e)⟩
    subst q
    rw [Heap.get?_push_of_some _ e] at hC; cases hC
end

/-! _law_seen: a fresh dict of the names' lists; all that stood stays. -/
theorem attr_s {w : World} {A : Around} {E : Value → Shared → Prop} {s : Shared} {K : Frag} {Q : Value → Shared → Prop} {x C : Addr} {name : Str} {v : Value} {expr : Bool} {attr : Option Value} (X : K.In s.heap) (z : HasH s.heap x C name v) (hg : plainGet K C name = true) (hh : hasDictIn K C = true) (ha : findIn K (.ref C) name = some attr) (hn : noGet K attr = true) (hv : handedIn v = true) (h : Q v { s with toks := s.toks + 1 }) : wpAny (model PG w) A (getAttr (.ref x) name expr) Q E s := by
  obtain ⟨D, oD, a, b, c⟩ := z
  exact get_value (od := some oD) X ⟨a, rfl, rfl, b⟩ (plainGet_of hg).1 (findObj_own hh ha hn c) hv h
theorem said_45 : True := by
  (k_with "mine has" => first | assumption | exact HasH.keeps (by assumption) (mnKeep (by assumption)) | exact HasH.keeps (by assumption) (by assumption))
  trivial
section
variable {w : World} {s : Shared} {Q E : Value → Shared → Prop} {pv : Program} {loose : List Str} {mean : ExcName → Option Value} {mg mb : Str → Option Value} {base h₀ : Heap} {L fa : Addr} {m : Str → Option Value} {cd : Value}
theorem said_46 : True := by
  (k_with "getAttr ref" => (k_here; k_dflt (refine' attr_s (K := Mine.hd.heap_1 _) ?X_r109 ?z_r109 ?k5_r109 ?k6_r109 ?k7_r109 ?k8_r109 ?k9_r109 ?_; (case X_r109 => exact mnIn (by assumption) (by assumption)); (case z_r109 => walk_at "mine has"); (case k5_r109 => k_is); (case k6_r109 => k_is); (case k7_r109 => k_is); (case k8_r109 => k_is); (case k9_r109 => first | exact rfl | decide))))
  (k_with "eval Name" => (k_here; (rename Heap.Ns _ _ _ => n8); k_dflt (refine wpAny_Name (wpAny_loadName_local (by rfl) (by rfl) n8 (by assumption) ?_))))
  (k_with "eval Name" => (k_here; (rename Heap.IsCell _ _ _ => n8); k_dflt (refine wpAny_Name (wpAny_loadName_cell (by rfl) (by rfl) (by rfl) n8 ?_))))
  (k_with "mine has" => assumption)
  (k_with "getAttr ref" => (k_here; (rename Frag.In _ _ => X8); k_dflt (refine' attr_s X8 ?z_r113 ?k5_r113 ?k6_r113 ?k7_r113 ?k8_r113 ?k9_r113 ?_; (case z_r113 => assumption); (case k5_r113 => k_is); (case k6_r113 => k_is); (case k7_r113 => k_is); (case k8_r113 => k_is); (case k9_r113 => first | exact rfl | decide))))
  (k_with "subscriptTail" => (k_here; (rename Heap.DictOf _ _ _ _ => d8); k_dflt (refine' item_d d8 ?k_r114 ?_ ?hs_r114 ?hg_r114; (case k_r114 => assumption); (case hs_r114 => with_unfolding_all rfl); (case hg_r114 => (intro _; with_unfolding_all rfl)))))
  (k_with "eval DictComp" => (k_here; k_dflt (refine' dc_one ?hh_r115 ?hc_r115 ?hcell_r115 ?hkind_r115 ?hnames_r115 ?hx_r115 ?hs_r115 ?_; (case hh_r115 => with_unfolding_all rfl); (case hc_r115 => with_unfolding_all rfl); (case hcell_r115 => decide); (case hkind_r115 => with_unfolding_all rfl); (case hnames_r115 => decide); (case hx_r115 => with_unfolding_all rfl); (case hs_r115 => (intro _; with_unfolding_all rfl)))))
  trivial
theorem c_seen {x : Addr} {av : Value} {q : Option (Str × Addr × Addr)}
    (X₀ : (hd.heap_1 w.params).In h₀) (T : Top pv loose mean mg mb h₀) (B : Below callerA base [] h₀) (F : Fr h₀ L s.heap m) (z : HasH s.heap x 92 (S "attrs") av) (a : AttrsH w s.heap av q)
    (k : ∀ D h' tk, s.heap.get? D = none → (D == sysModules) = false → h'.DictOf (PySem.strKind PG w) D (seenOf q) → s.heap.StaysIn h' → Q (.ref D) { s with heap := h', toks := tk }) :
    wpAny (model PG w) (callerA.deeper (envOfC (S "law") lawScope L fa cd)) (call (.ref 705) [.ref x]) Q E s := by
  refine' callC2 (binds := [(S "v", .ref x)]) B F X₀ News.nil T rfl rfl rfl ?ho ?hcd ?hroom ?hbind ?hkind ?hnd ?_ ?c1 ?c2 ?c3
  case ho => k_is
  case hcd => k_is
  case hbind => exact BindsTo.of_eq rfl
  case hnd => decide
  case c1 => exact rfl
  case c2 => exact rfl
  case c3 => exact rfl
  case hroom => exact of_decide_eq_true (by with_unfolding_all rfl)
  case hkind => exact kindsX rfl
  intro g L' h₁ tk cells hg hL' FG N' Y Bg Xg Tg lg
  have hg : g = s.heap := hg
  clear F X₀ T B
  subst hg
  obtain ⟨oC, rfl, dC⟩ := CellsAre.one (show CellsAre _ [(S "v", L' + 1)] cells by with_unfolding_all exact Y)
  replace dC : oC.data = .cell (some (.ref x)) := by with_unfolding_all exact dC
  clear Y
  (try simp only [List.cons_append, List.nil_append] at N')
  (try dsimp only)
  (try k_lift Bg)
  (try k_fold)
  cases a with
  | none =>
    w_top off
    w_strict k_steps
    all_goals (try dsimp only)
    all_goals (rename Fr _ _ _ _ => Fz; rename News _ _ _ _ => Nz)
    all_goals exact ⟨_, _, _, Fz, Nz, fun ks Nn => k _ _ _ (Heap.get?_none_of_le (by omega)) (by assumption) (kda_dict (s := ⟨_, s.gens, s.drawn, s.toks, s.os⟩) Nz (.head _) (by assumption)) ks⟩
  | @some A V Lv key hd hs hi =>
    w_strict k_steps
    (rename Fr _ _ _ _ => Fz; rename News _ _ _ _ => Nz; rename Obj.data _ = _ => hc9)
    have ic : h₁.IsCell (L' + 1) (some (.ref x)) := ⟨_, (Nz _ (.head _)).1, hc9⟩
    refine ⟨A, key, .ref V, .ref Lv, rfl, hs, hd.at fun o e => Fz.keep _ _ e, ?_, ?_, modules_low ((Top.nolimit Tg).keeps Fz.keep), ?_⟩
    · intro C kv s₃ m₃ E' hkv hn hm hst
      exact wpAny_Name (wpAny_loadName_local rfl rfl hn hm ⟨hkv, _, _, rfl, fun _ _ e => e⟩)
    · intro C kv s₃ m₃ E' hkv hn hm hst
      have ic : s₃.heap.IsCell (L' + 1) (some (.ref x)) := ic.keeps hst
      have st3 : s.heap.StaysIn s₃.heap := fun b o e => hst _ _ (Fz.keep _ _ e)
      have Xg := Xg.keeps st3
      have z := z.keeps st3
      have hi := hi.keeps st3
      have hd := hd.at (h' := s₃.heap) fun o e => st3 _ _ e
      clear hst Nz Fz
      w_strict k_steps
      exact ⟨_, _, rfl, fun _ _ e => e⟩
    · intro D h' tk hD lD hDo hst
      exact ⟨L', _, [], Fz.keeps hst, News.nil, fun ks Nn => k _ _ _ (by
        cases e : s.heap.get? D with
        | none => rfl
        | some o =>
          have := Fz.keep _ _ e
          exact absurd (this.symm.trans hD) (by simp)) lD hDo ks⟩
end

/-! finish(interp, notes, value): warned of once; the interpreter's dict keeps its values. -/
section
variable {w : World} {s : Shared} {Q E : Value → Shared → Prop} {pv : Program} {loose : List Str} {mean : ExcName → Option Value} {mg mb : Str → Option Value} {h₀ : Heap} {L L₁ fa f₂ : Addr} {m : Str → Option Value} {cd cd₂ : Value}
/-- the warnings' list: nothing, or one tuple of the text and None -/
def WarnsAt (h : Heap) (W : Addr) (b : Bool) : Prop := ∃ n, if b then ∃ T t, h.get? W = some (listOf #[.ref T] n) ∧ IsTup h T #[.str (S "NaNs produced") t, .none] else h.get? W = some (listOf #[] n)
/-- what the interpreter's dict answers -/
theorem InterpD.look {W : Addr} {o : Obj} (y : InterpD w W o) : lookIn (S "warnings") o = some (some (.ref W)) ∧ lookIn (S "warner") o = some (some .none) ∧ lookIn (S "current") o = some (some .none) ∧ lookIn (S "visible") o = some (some (.bool true)) ∧ lookIn (S "warn_all") o = some none := by
  obtain ⟨f, c, a, _, e1, e2, e3, e4, e5, _⟩ := y
  exact ⟨a.look e1, a.look e2, a.look e3, a.look e4, a.look e5⟩
theorem set_vis {A : Around} {E : Value → Shared → Prop} {Q : Unit → Shared → Prop} {Ii Di W : Addr} {oD : Obj} {news : List (Addr × Obj)} {g : Obj → List (Addr × Obj)} (F : Fr h₀ L s.heap m) (X₀ : (hd.heap_1 w.params).In h₀) (N : News h₀ L s.heap news) (mi : (Ii, instObj 654 Di) ∈ news) (U : UpdF Di oD news g) (hD : InterpD w W oD)
    (h : ∀ h' oD', InterpD w W oD' → Fr h₀ L h' m → News h₀ L h' (g oD') → Q () { s with heap := h', toks := s.toks + 2 }) : wpAny (model PG w) A (setAttr (.ref Ii) (S "visible") (.bool true)) Q E s := by
  obtain ⟨f, c, a, hc, e1, e2, e3, e4, e5, e6⟩ := hD
  refine' set_at F X₀ N mi U a (Nat.lt_of_le_of_lt hc (by decide)) ⟨?s1, ?s2, ?s3⟩ ?k2 fun h' oD' _ b F' N' => h h' oD' ⟨_, c, b ⟨_, e4⟩, hc, e1, e2, e3, rfl, e5, e6⟩ F' N'
  case s1 => k_is
  case s2 => k_is
  case s3 => k_is
  case k2 => k_is
theorem said_47 : True := by
  (k_with "getAttr ref" => (k_here; (rename InterpD _ _ _ => iD9); (rename Fr _ _ _ _ => F8); (rename News _ _ _ _ => N8); k_dflt (refine' attr_r (K := Mine.hd.heap_1 _) F8 ?X_r116 N8 ?m1_r116 ?m2_r116 ?l_r116 ?k5_r116 ?k6_r116 ?k7_r116 ?k8_r116 ?k9_r116 ?_; (case X_r116 => k_asm); (case m1_r116 => k_mem); (case m2_r116 => k_mem); (case l_r116 => assumption); (case k5_r116 => k_is); (case k6_r116 => k_is); (case k7_r116 => k_is); (case k8_r116 => k_is); (case k9_r116 => exact rfl))))
  (k_with "getMethod ref" => (k_here; (rename InterpD _ _ _ => iD9); (rename Fr _ _ _ _ => F8); (rename News _ _ _ _ => N8); k_dflt (refine' method_r (K := Mine.hd.heap_1 _) F8 ?X_r117 N8 ?m1_r117 ?m2_r117 ?l_r117 ?k5_r117 ?k6_r117 ?k7_r117 ?_; (case X_r117 => k_asm); (case m1_r117 => k_mem); (case m2_r117 => k_mem); (case l_r117 => assumption); (case k5_r117 => k_is); (case k6_r117 => k_is); (case k7_r117 => k_is))))
  (k_with "setAttr ref" => (k_here; (rename InterpD _ _ _ => iD9); k_dflt (refine' set_vis ?F_r118 ?X_r118 ?N_r118 ?mi_r118 ?U_r118 iD9 ?_; (case F_r118 => k_asm); (case X_r118 => k_asm); (case N_r118 => k_asm); (case mi_r118 => k_mem); (case U_r118 => k_updF)); intro h' oD' iD' F' N'; (try dsimp only at N'); (try k_sweep)))
  (k_with "exec For Name Name cons nil" => (k_here; (rename Fr _ _ _ _ => lF'); (with_unfolding_all refine' For_invVF lF' ?k1_r119 ?k2_r119 ?_; (case k1_r119 => exact rfl); (case k2_r119 => exact rfl); k_whole)))
  (k_with "pyIter ref" => ((with_reducible show wpAny _ _ (pyIter (Value.ref _)) (fun it s₂ => LoopAtV _ _ _ _ _ _ _ _ _ it s₂) _ _); k_listUnr))
  trivial
theorem c_finish {Nt Di Ii W : Addr} {t : Tok} {b : Bool} {kn kW : Nat} {oD : Obj} {v : Value}
    (X₀ : (hd.heap_1 w.params).In h₀) (T : Top pv loose mean mg mb h₀) (B : Below (callerA.deeper (envLaw L₁ fa cd)) {} [envLaw L₁ fa cd] h₀) (F : Fr h₀ L s.heap m) (hD : InterpD w W oD)
    (N : News h₀ L s.heap [(Nt, listOf (nansV t b).toArray kn), (Ii, instObj 654 Di), (Di, oD), (W, listOf #[] kW)])
    (l1 : @Ne Nat Ii Nt) (l2 : @Ne Nat Di Nt) (l3 : @Ne Nat W Nt) (l4 : @Ne Nat Ii W) (l5 : @Ne Nat Di W) (l6 : @Ne Nat Ii Di)
    (k : ∀ h' tk oD', InterpD w W oD' → h'.get? Di = some oD' → WarnsAt h' W b → (hideAll s.heap [Di, W]).StaysIn h' → Q v { s with heap := h', toks := tk }) :
    wpAny (model PG w) ((callerA.deeper (envLaw L₁ fa cd)).deeper (envBlog L cd₂)) (call (.ref 427) [.ref Ii, .ref Nt, v]) Q E s := by
  have am9 : AimHere := trivial
  have lt9 : LtHere := trivial
  obtain ⟨lw, lr, lc, lv, la⟩ := hD.look
  refine' callC2 (binds := [(S "interp", .ref Ii), (S "notes", .ref Nt), (S "value", v)]) B F X₀ N T rfl rfl rfl ?ho ?hcd ?hroom ?hbind ?hkind ?hnd ?_ ?c1 ?c2 ?c3
  case ho => k_is
  case hcd => k_is
  case hbind => exact BindsTo.of_eq rfl
  case hnd => decide
  case c1 => exact rfl
  case c2 => exact rfl
  case c3 => exact rfl
  case hroom => exact of_decide_eq_true (by with_unfolding_all rfl)
  case hkind => exact kindsX rfl
  intro g L' h₁ tk cells hg hL' FG N' Y Bg Xg Tg lg
  have gs : GroundOf g s.heap _ := ⟨hg, fun p hp => (N p hp).1⟩
  clear F N X₀ T B hg
  obtain rfl : cells = [] := by cases Y; rfl
  clear Y
  (try k_lt lg)
  cases b
  all_goals (simp only [nansV, if_true, if_false, Bool.false_eq_true] at N')
  all_goals (try simp only [List.cons_append, List.nil_append] at N')
  all_goals (try dsimp only)
  all_goals (try k_lift Bg)
  all_goals (try k_fold)
  w_top off
  all_goals w_strict k_steps
  all_goals (try dsimp only)
  all_goals (rename Fr _ _ _ _ => Fz; rename News _ _ _ _ => Nz; rename InterpD _ _ _ => iDz)
  all_goals refine ⟨_, _, _, Fz, Nz, fun ks Nn => k _ _ _ iDz (Nz.get (by k_mem)) ?_ ?_⟩
  · exact ⟨_, by rw [if_neg (by simp)]; exact Nz.get (by k_mem)⟩
  · exact gs.but ks (List.forall_mem_cons.mpr ⟨fun _ => Nz.get (by k_mem), List.forall_mem_cons.mpr ⟨fun _ => Nz.get (by k_mem), List.forall_mem_cons.mpr ⟨fun q => absurd (List.Mem.head _) q, List.forall_mem_cons.mpr ⟨fun q => absurd (List.Mem.tail _ (List.Mem.head _)) q, List.forall_mem_nil _⟩⟩⟩⟩)
  · exact ⟨_, by rw [if_pos rfl]; exact ⟨_, _, Nz.get (by k_mem), Nz.isTup (by k_mem)⟩⟩
  · exact gs.but ks (List.forall_mem_cons.mpr ⟨fun _ => Nz.get (by k_mem), List.forall_mem_cons.mpr ⟨fun _ => Nz.get (by k_mem), List.forall_mem_cons.mpr ⟨fun q => absurd (List.Mem.head _) q, List.forall_mem_cons.mpr ⟨fun q => absurd (List.Mem.tail _ (List.Mem.head _)) q, List.forall_mem_nil _⟩⟩⟩⟩)
end
theorem said_48 : True := by
  (k_with "getAttr ref" => (k_here; (rename AtD _ _ _ => aD9); (rename Fr _ _ _ _ => F8); (rename News _ _ _ _ => N8); k_dflt (refine' attr_r (K := Mine.hd.heap_1 _) F8 ?X_r121 N8 ?m1_r121 ?m2_r121 (aD9.look ?l_r121) ?k5_r121 ?k6_r121 ?k7_r121 ?k8_r121 ?k9_r121 ?_; (case X_r121 => k_asm); (case m1_r121 => k_mem); (case m2_r121 => k_mem); (case l_r121 => first | assumption | exact (if_neg (by decide)).trans (by assumption) | exact if_pos rfl); (case k5_r121 => k_is); (case k6_r121 => k_is); (case k7_r121 => k_is); (case k8_r121 => k_is); (case k9_r121 => exact rfl))))
  (k_with "getMethod ref" => (k_here; (rename AtD _ _ _ => aD9); (rename Fr _ _ _ _ => F8); (rename News _ _ _ _ => N8); k_dflt (refine' method_r (K := Mine.hd.heap_1 _) F8 ?X_r122 N8 ?m1_r122 ?m2_r122 (aD9.look ?l_r122) ?k5_r122 ?k6_r122 ?k7_r122 ?_; (case X_r122 => k_asm); (case m1_r122 => k_mem); (case m2_r122 => k_mem); (case l_r122 => first | assumption | exact (if_neg (by decide)).trans (by assumption) | exact if_pos rfl); (case k5_r122 => k_is); (case k6_r122 => k_is); (case k7_r122 => k_is))))
  (k_with "setAttr ref" => (k_here; (rename AtD _ _ _ => aD9); (rename Fr _ _ _ _ => F8); (rename News _ _ _ _ => N8); k_dflt (refine' set_at (K := Mine.hd.heap_1 _) F8 ?X_r123 N8 ?mi_r123 ?U_r123 aD9 ?c_r123 ⟨?s1_r123, ?s2_r123, ?s3_r123⟩ ?k2_r123 ?_; (case X_r123 => k_asm); (case mi_r123 => k_mem); (case U_r123 => k_updF); (case c_r123 => first | exact Nat.lt_of_le_of_lt (by assumption) (by decide) | decide); (case s1_r123 => k_is); (case s2_r123 => k_is); (case s3_r123 => k_is); (case k2_r123 => k_is)); (clear aD9 F8 N8); intro h' oD' aD' aE' F' N'; (try dsimp only at N')))
  trivial
theorem vec_put {w : World} {f : Str → Option Value} {c : Nat} {t : Tok} {k : String} {l : Addr} {av v : Value} {oD : Obj} (a : (∃ u, f (S "attrs") = some u) → AtD oD (upf f (S "attrs") v) c) (hc : c ≤ 100) (e1 : f (S "kind") = some (.str (S k) t)) (e2 : f (S "items") = some (.ref l)) (e3 : f (S "attrs") = some av) : VecD w k l v oD :=
  ⟨_, c, t, a ⟨_, e3⟩, hc, (if_neg (by decide)).trans e1, (if_neg (by decide)).trans e2, if_pos rfl⟩
def StopC (P : Prop) : Prop := P
theorem of_stopC {P : Prop} (h : StopC P) : P := h

theorem said_49 : True := by
  (k_with "call ref" => (k_here; (with_reducible show wpAny _ _ (call (Value.ref 92) [_, _]) _ _ _); (rename Fr _ _ _ _ => F8); (rename News _ _ _ _ => N8); k_dflt (refine' c_vec ?B_r124 F8 ?X_r124 ?T_r124 rfl rfl rfl ?r_r124 ?_; (case B_r124 => assumption); (case X_r124 => assumption); (case T_r124 => assumption); (case r_r124 => exact of_decide_eq_true (by with_unfolding_all rfl))); (intro x' d' oV' h' tk' lz' lx' fx' fd' gx' gd' vD' ks'); (obtain ⟨F', N', l1, l2⟩ := make2 F8 N8 lz' lx' fx' fd' gx' gd' ks'); (clear F8 N8 lz' fx' fd' gx' gd' ks'); (try k_lt l1); (try k_lt l2)))
  trivial
/-! kept_beside(x, result): the attributes stay where the lengths agree. -/
/-- the result's attributes: none, or a new dict of the same pairs -/
inductive AttrsN (w : World) (h1 h0 h' : Heap) : Value → Option (Str × Addr × Addr) → Prop
  | none : AttrsN w h1 h0 h' .none none
  | some {A V Lv : Addr} {key : Str} : h'.DictOf (PySem.strKind PG w) A [(key, .ref V)] → (A == sysModules) = false → h1.get? A = none → HasH h0 V 92 (S "items") (.ref Lv) → AttrsN w h1 h0 h' (.ref A) (some (key, V, Lv))
theorem GroundOf.fresh {g s : Heap} {news : List (Addr × Obj)} {a : Addr} (x : GroundOf g s news) (hg : g.get? a = none) (hn : ∀ p ∈ news, p.1 ≠ a) : s.get? a = none := by
  obtain ⟨rfl, _⟩ := x
  cases q : s.get? a with
  | none => rfl
  | some o =>
    rw [hideAll_get _ q (fun hm => by obtain ⟨p, hp, e⟩ := List.mem_map.mp hm; exact hn p hp e)] at hg
    cases hg
section
variable {prog : Program} {w : World} {A : Around} {E : Value → Shared → Prop} {s : Shared} {h₀ : Heap} {L a : Addr} {m : Str → Option Value} {news : List (Addr × Obj)} {vs : List Value} {n : Nat} {Q : Value → Shared → Prop} {K : Type} [DecidableEq K] {knd : KeyKind prog w K}
theorem len_base (F : Fr h₀ L s.heap m) (hl : h₀.get? a = some (listOf vs.toArray n)) (hfit : vs.length ≤ 4096) (h : Q (.int (vs.length : Nat) (s.toks + 1)) { s with toks := s.toks + 1 + 1 }) : wpAny (model prog w) A (call (.builtin "len") [.ref a]) Q E s := by
  refine PyProof.Rows.len_list (items := vs.toArray) ⟨_, F.keep _ _ hl, rfl, _, rfl⟩ (by rw [List.size_toArray]; omega) ?_
  rw [List.size_toArray]; exact h
theorem len_new (N : News h₀ L s.heap news) (hm : (a, listOf vs.toArray n) ∈ news) (hfit : vs.length ≤ 4096) (h : Q (.int (vs.length : Nat) (s.toks + 1)) { s with toks := s.toks + 1 + 1 }) : wpAny (model prog w) A (call (.builtin "len") [.ref a]) Q E s := by
  refine PyProof.Rows.len_list (items := vs.toArray) ⟨_, (N _ hm).1, rfl, _, rfl⟩ (by rw [List.size_toArray]; omega) ?_
  rw [List.size_toArray]; exact h
theorem dict_base {d : Addr} {kvs : List (K × Value)} (F : Fr h₀ L s.heap m) (N : News h₀ L s.heap news) (hbig : h₀.NoLimit) (hd : h₀.DictOf knd d kvs) (lo : (d == sysModules) = false) (hsz : kvs.length ≤ sizeLine)
    (k : ∀ a h' o, Fr h₀ L h' m → News h₀ L h' ((a, o) :: news) → (∀ p ∈ news, p.1 < a) → (a == sysModules) = false → o.IsDictOf knd kvs → Q (.ref a) { s with heap := h' }) :
    wpAny (model prog w) A (call (.type "dict") [.ref d]) Q E s := by
  refine kt_call_dict lo (hd.at fun o e => F.keep _ _ e) hsz fun h' hm hs => ?_
  obtain ⟨o', ho', hd'⟩ := Heap.dictOf_iff.mp hm
  have N1 := News.push F N { cls := .type "dict", data := .dict #[] }
  exact k _ h' o' ((F.push _).change hs (N1 _ (.head _)).2.1 (N1.fresh (.head _))) (N1.setHead N.apart hs ho') (fun p hp => Heap.lt_size (N p hp).1) (F.notModules (modules_low hbig)) hd'
end
section
variable {w : World} {s : Shared} {Q E : Value → Shared → Prop} {pv : Program} {loose : List Str} {mean : ExcName → Option Value} {mg mb : Str → Option Value} {h₀ : Heap} {L L₁ fa : Addr} {m : Str → Option Value} {cd cd₂ : Value}
theorem said_50 : True := by
  (k_with "call builtin:len" => (k_here; (with_reducible show wpAny _ _ (call (Value.builtin "len") [Value.ref _]) _ _ _); (rename Fr _ _ _ _ => F8); (rename News _ _ _ _ => N8); k_dflt (first | (refine' len_new N8 ?m_r125 ?f_r125 ?_; (case m_r125 => walk_at "mine in"); (case f_r125 => assumption)) | (refine' len_base F8 ?l_r125 ?f_r125 ?_; (case l_r125 => assumption); (case f_r125 => assumption)))))
  (k_with "call type:dict" => (k_here; (with_reducible show wpAny _ _ (call (Value.type "dict") [Value.ref _]) _ _ _); (rename Fr _ _ _ _ => F8); (rename News _ _ _ _ => N8); k_dflt (refine' dict_base (knd := PySem.strKind PG _) F8 N8 ?t_r126 ?d_r126 ?lo_r126 ?z_r126 ?_; (case t_r126 => exact Top.nolimit (by assumption)); (case d_r126 => first | assumption | exact Heap.DictOf.at (by assumption) (fun o e => Fr.keep (by assumption) _ o e)); (case lo_r126 => assumption); (case z_r126 => exact Nat.le_of_ble_eq_true rfl)); (clear F8 N8); (intro d' h' o' F' N' l1 lo' hd'; (try k_lt l1))))
  (k_with "getAttr ref" => (k_here; k_dflt (refine' attr_h (K := Mine.hd.heap_1 _) ?F_r127 ?X_r127 ?z_r127 ?k5_r127 ?k6_r127 ?k7_r127 ?k8_r127 ?k9_r127 ?_; (case F_r127 => assumption); (case X_r127 => first | assumption | exact mnIn (by assumption) (by assumption)); (case z_r127 => first | assumption | exact HasH.keeps (by assumption) (mnKeep (by assumption))); (case k5_r127 => k_is); (case k6_r127 => k_is); (case k7_r127 => k_is); (case k8_r127 => k_is); (case k9_r127 => first | exact rfl | decide))))
  (k_with "execs cons" => (k_here; walk_at "mine aim"; refine wpAny_execs_cons ?_))
  trivial
theorem c_kept {Ir Dr Fd Ix Lx : Addr} {oD : Obj} {us ys : List Value} {n nx : Nat} {av : Value} {q : Option (Str × Addr × Addr)}
    (X₀ : (hd.heap_1 w.params).In h₀) (T : Top pv loose mean mg mb h₀) (B : Below (callerA.deeper (envLaw L₁ fa cd)) {} [envLaw L₁ fa cd] h₀) (F : Fr h₀ L s.heap m) (hD : VecD w "double" Fd .none oD)
    (N : News h₀ L s.heap [(Dr, oD), (Ir, instObj 92 Dr), (Fd, listOf us.toArray n)])
    (l1 : @Ne Nat Dr Ir) (l2 : @Ne Nat Dr Fd)
    (z1 : HasH h₀ Ix 92 (S "items") (.ref Lx)) (z2 : HasH h₀ Ix 92 (S "attrs") av) (a : AttrsH w h₀ av q) (hx : h₀.get? Lx = some (listOf ys.toArray nx)) (nu : us.length ≤ 4096) (ny : ys.length ≤ 4096)
    (k : ∀ h' tk oD' av', VecD w "double" Fd av' oD' → h'.get? Dr = some oD' → AttrsN w s.heap h₀ h' av' (if us.length = ys.length then q else none) → (hideAll s.heap [Dr]).StaysIn h' → Q (.ref Ir) { s with heap := h', toks := tk }) :
    wpAny (model PG w) ((callerA.deeper (envLaw L₁ fa cd)).deeper (envBlog L cd₂)) (call (.ref 448) [.ref Ix, .ref Ir]) Q E s := by
  have am9 : AimHere := trivial
  obtain ⟨f, c, t, aD, hc, e1, e2, e3⟩ := hD
  refine' callC2 (binds := [(S "x", .ref Ix), (S "result", .ref Ir)]) B F X₀ N T rfl rfl rfl ?ho ?hcd ?hroom ?hbind ?hkind ?hnd ?_ ?c1 ?c2 ?c3
  case ho => k_is
  case hcd => k_is
  case hbind => exact BindsTo.of_eq rfl
  case hnd => decide
  case c1 => exact rfl
  case c2 => exact rfl
  case c3 => exact rfl
  case hroom => exact of_decide_eq_true (by with_unfolding_all rfl)
  case hkind => exact kindsX rfl
  intro g L' h₁ tk cells hg hL' FG N' Y Bg Xg Tg lg
  have gs : GroundOf g s.heap _ := ⟨hg, fun p hp => (N p hp).1⟩
  have st0 : h₀.StaysIn g := fun b o e => by
    rw [hg]
    refine hideAll_get _ (F.keep _ _ e) fun hm => ?_
    obtain ⟨p, hp, rfl⟩ := List.mem_map.mp hm
    rw [(N p hp).2.2] at e; cases e
  replace z1 := z1.keeps st0
  replace z2 := z2.keeps st0
  replace hx := st0 _ _ hx
  clear F N X₀ T B hg
  obtain rfl : cells = [] := by cases Y; rfl
  clear Y
  (try k_lt lg)
  all_goals (try simp only [List.cons_append, List.nil_append] at N')
  all_goals (try dsimp only)
  all_goals (try k_lift Bg)
  all_goals (try k_fold)
  cases a with
  | none =>
    clear st0
    w_top off
    w_strict k_steps
    all_goals (try dsimp only)
    all_goals (rename Fr _ _ _ _ => Fz; rename News _ _ _ _ => Nz)
    all_goals refine ⟨_, _, _, Fz, Nz, fun ks Nn => k _ _ _ .none ⟨f, c, t, (by assumption), hc, e1, e2, e3⟩ (Nz.get (by k_mem)) (by rw [ite_self]; exact .none) (gs.but ks (List.forall_mem_cons.mpr ⟨fun q => absurd (List.Mem.head _) q, List.forall_mem_cons.mpr ⟨fun _ => Nz.get (by k_mem), List.forall_mem_cons.mpr ⟨fun _ => Nz.get (by k_mem), List.forall_mem_nil _⟩⟩⟩))⟩
  | @some A V Lv key hd0 hs hi0 =>
    have hd := hd0.at (h' := g) fun o e => st0 _ _ e
    clear st0 hd0
    w_strict k_steps
    all_goals (try dsimp only)
    all_goals (rename Fr _ _ _ _ => Fz; rename News _ _ _ _ => Nz)
    · exact ⟨_, _, _, Fz, Nz, fun ks Nn => k _ _ _ _ (vec_put (by assumption) hc e1 e2 e3) (Nz.get (by k_mem)) (by rw [if_pos (by omega)]; exact .some (kda_dict (s := ⟨_, s.gens, s.drawn, s.toks, s.os⟩) Nz (by k_mem) (by assumption)) (by assumption) (gs.fresh (Nz.fresh (by k_mem)) (List.forall_mem_cons.mpr ⟨Nat.ne_of_lt (by assumption), List.forall_mem_cons.mpr ⟨Nat.ne_of_lt (by assumption), List.forall_mem_cons.mpr ⟨Nat.ne_of_lt (by assumption), List.forall_mem_nil _⟩⟩⟩)) hi0) (gs.but ks (List.forall_mem_cons.mpr ⟨fun q => absurd (List.Mem.head _) q, List.forall_mem_cons.mpr ⟨fun _ => Nz.get (by k_mem), List.forall_mem_cons.mpr ⟨fun _ => Nz.get (by k_mem), List.forall_mem_nil _⟩⟩⟩))⟩
    · exact ⟨_, _, _, Fz, Nz, fun ks Nn => k _ _ _ .none ⟨f, c, t, (by assumption), hc, e1, e2, e3⟩ (Nz.get (by k_mem)) (by rw [if_neg (by omega)]; exact .none) (gs.but ks (List.forall_mem_cons.mpr ⟨fun q => absurd (List.Mem.head _) q, List.forall_mem_cons.mpr ⟨fun _ => Nz.get (by k_mem), List.forall_mem_cons.mpr ⟨fun _ => Nz.get (by k_mem), List.forall_mem_nil _⟩⟩⟩))⟩
end

/-! b_log's body up to its loop. -/
theorem list_base {prog : Program} {w : World} {A : Around} {E : Value → Shared → Prop} {s : Shared} {h₀ : Heap} {L a : Addr} {m : Str → Option Value} {news : List (Addr × Obj)} {vs : List Value} {n : Nat} {Q : Value → Shared → Prop} (F : Fr h₀ L s.heap m) (N : News h₀ L s.heap news) (hl : s.heap.get? a = some (listOf vs.toArray n)) (hz : vs.length ≤ 4096)
    (h : ∀ D c h', Fr h₀ L h' m → News h₀ L h' ((D, listOf vs.toArray c) :: news) → (∀ q ∈ news, q.1 < D) → Q (.ref D) { s with heap := h' }) : wpAny (model prog w) A (call (.type "list") [.ref a]) Q E s :=
  list_copyK F N ⟨_, hl, rfl, _, rfl⟩ h (by rw [PySem.sizeLine_eq, List.size_toArray]; omega)
theorem of_all {d : Addr} {q : Addr × Obj} {l : List (Addr × Obj)} (h : ∀ p ∈ q :: l, p.1 < d) : @LT.lt Nat _ q.1 d := h _ (.head _)
theorem said_51 : True := by
  (k_with "mine ne" => first | exact Nat.ne_of_lt (by assumption) | exact Nat.ne_of_gt (by assumption))
  (k_with "mine nes" => first | (refine List.forall_mem_cons.mpr ⟨?_, ?_⟩; (walk_at "mine ne"); (walk_at "mine nes")))
  (k_with "mine subs" => first | (refine List.forall_mem_cons.mpr ⟨?_, ?_⟩; (walk_at "mine in"); (walk_at "mine subs")) | (walk_at "mine sub"))
  trivial
abbrev stLed (Gv Bb Ar p1 p2 Ix Ib : Addr) (tb : Tok) (ys zs : List Value) (n1 n2 : Nat) (R : List (Addr × Obj)) : List (Addr × Obj) :=
  (Gv, listOf ys.toArray n1) :: (Bb, listOf zs.toArray n2) :: (Ar, listOf #[.ref p1, .ref p2] 0) :: (p2, { cls := .type "tuple", data := .seq #[.str (S "base") tb, .ref Ib] }) :: (p1, { cls := .type "tuple", data := .seq #[.none, .ref Ix] }) :: R
section
variable {w : World} {s : Shared} {Q : Flow → Shared → Prop} {E : Value → Shared → Prop} {pv : Program} {loose : List Str} {mean : ExcName → Option Value} {mg mb : Str → Option Value} {h₀ : Heap} {L L₁ fa : Addr} {m : Str → Option Value} {cd cd₂ : Value}
theorem said_52 : True := by
  (k_with "getAttr ref" => (k_here; k_dflt (refine' attr_h (K := Mine.hd.heap_1 _) ?F_r132 ?X_r132 ?z_r132 ?k5_r132 ?k6_r132 ?k7_r132 ?k8_r132 ?k9_r132 ?_; (case F_r132 => assumption); (case X_r132 => first | assumption | exact mnIn (by assumption) (by assumption)); (case z_r132 => first | assumption | exact HasH.keeps (by assumption) (mnKeep (by assumption))); (case k5_r132 => k_is); (case k6_r132 => k_is); (case k7_r132 => k_is); (case k8_r132 => k_is); (case k9_r132 => first | exact rfl | decide))))
  (k_with "execs cons" => (k_here; refine gen_toks fun tk9 => ?_; (try dsimp only); walk_at "mine aim"; refine wpAny_execs_cons ?_))
  (k_with "call ref" => (k_here; (with_reducible show wpAny _ _ (call (Value.ref 224) [_, _]) _ _ _); (rename Fr _ _ _ _ => F8); (rename News _ _ _ _ => N8); (with_unfolding_all refine' c_take (by assumption) (by assumption) (by assumption) F8 (fun p hp => N8 p (List.mem_append_left _ hp)) (of_all (by assumption)) (by assumption) (by assumption) ?_); (intro r' h' tk' n' hf' ho' ks'); (obtain ⟨F', N', hn'⟩ := ledger_add F8 N8 ks' hf' ho'); clear F8 N8 ks' hf' ho' hn'; (try k_fold)))
  (k_with "call type:list" => (k_here; (with_reducible show wpAny _ _ (call (Value.type "list") [Value.ref _]) _ _ _); (rename Fr _ _ _ _ => F8); (rename News _ _ _ _ => N8); k_dflt (refine' list_base F8 N8 ?l_r135 ?z_r135 ?_; (case l_r135 => first | exact Fr.keep F8 _ _ (by assumption) | exact Fr.keep F8 _ _ (Fr.keep (by assumption) _ _ (by assumption))); (case z_r135 => assumption)); (clear F8 N8); intro D' c' h' F' N' l1))
  (k_with "newList" => (k_here; k_dflt (refine' newList_K ?k1_r136 ?k2_r136 ?_; (case k1_r136 => k_asm); (case k2_r136 => k_asm); k_whole); intro l' h' F' N' l1; (try k_sweep)))
  trivial
theorem blog_start {Ar p1 p2 Ix Ib Ii Lx Lb : Addr} {tb tk1 tk2 : Tok} {ys zs : List Value} {n1 n2 : Nat} {R : List (Addr × Obj)} {gv : Value}
    (X₀ : (hd.heap_1 w.params).In h₀) (T : Top pv loose mean mg mb h₀) (B : Below (callerA.deeper (envLaw L₁ fa cd)) {} [envLaw L₁ fa cd] h₀) (F : Fr h₀ L s.heap (fun y => [(S "interp", Value.ref Ii), (S "args", .ref Ar), (S "env", gv)].reverse.lookup y))
    (N : News h₀ L s.heap ((Ar, listOf #[.ref p1, .ref p2] 0) :: (p2, { cls := .type "tuple", data := .seq #[.str (S "base") tb, .ref Ib] }) :: (p1, { cls := .type "tuple", data := .seq #[.none, .ref Ix] }) :: R))
    (l2 : @LT.lt Nat _ p2 Ar) (l3 : @LT.lt Nat _ p1 p2) (z1 : HasH h₀ Ix 92 (S "items") (.ref Lx)) (z2 : HasH h₀ Ix 92 (S "kind") (.str (S "double") tk1)) (z3 : HasH h₀ Ib 92 (S "items") (.ref Lb)) (z4 : HasH h₀ Ib 92 (S "kind") (.str (S "double") tk2))
    (hx : h₀.get? Lx = some (listOf ys.toArray n1)) (hb : h₀.get? Lb = some (listOf zs.toArray n2)) (ny : ys.length ≤ 4096) (nz : zs.length ≤ 4096)
    (k : ∀ (Fd Nt Gv Bb : Addr) (n1 n2 n3 n4 : Nat) (m' : Str → Option Value) (h' : Heap) (tk : Nat), Fr h₀ L h' m' → (∀ z, z ≠ S "i" → m' z = mB Fd Bb Gv Nt Ix Ii m' z) →
      News h₀ L h' ((Fd, listOf #[] n3) :: (Nt, listOf #[] n4) :: stLed Gv Bb Ar p1 p2 Ix Ib tb ys zs n1 n2 R) →
      (∀ p ∈ stLed Gv Bb Ar p1 p2 Ix Ib tb ys zs n1 n2 R, p.1 ≠ Fd) →
      (∀ p ∈ stLed Gv Bb Ar p1 p2 Ix Ib tb ys zs n1 n2 R, p.1 ≠ Nt) → @Ne Nat Fd Nt →
      wpAny (model PG w) ((callerA.deeper (envLaw L₁ fa cd)).deeper (envBlog L cd₂)) (execs (blogBody.drop 9) (envBlog L cd₂)) Q E { s with heap := h', toks := tk }) :
    wpAny (model PG w) ((callerA.deeper (envLaw L₁ fa cd)).deeper (envBlog L cd₂)) (execs blogBody (envBlog L cd₂)) Q E s := by
  refine as_cons (show blogBody = _ :: _ :: _ :: _ :: _ :: _ :: _ :: _ :: _ :: blogBody.drop 9 by with_unfolding_all rfl) ?_
  generalize blogBody.drop 9 = rest at k ⊢
  w_top off
  w_strict k_steps
  (rename Fr _ _ _ _ => Fz; rename News _ _ _ _ => Nz)
  (rename ∀ (p : Addr × Obj), p ∈ _ → @LT.lt _ _ p.1 _ => l7; revert l7; rename ∀ (p : Addr × Obj), p ∈ _ → @LT.lt _ _ p.1 _ => l6; revert l6; rename ∀ (p : Addr × Obj), p ∈ _ → @LT.lt _ _ p.1 _ => l5; revert l5)
  (rename ∀ (p : Addr × Obj), p ∈ _ → @LT.lt _ _ p.1 _ => l4; revert l4; rename ∀ (p : Addr × Obj), p ∈ _ → @LT.lt _ _ p.1 _ => l3'; revert l3'; rename ∀ (p : Addr × Obj), p ∈ _ → @LT.lt _ _ p.1 _ => l2'; revert l2'; rename ∀ (p : Addr × Obj), p ∈ _ → @LT.lt _ _ p.1 _ => l1'; revert l1'; intro lFo lNt lA lB lGv lBb lFd)
  refine' k _ _ _ _ _ _ _ _ _ _ _ Fz (mB_end rfl rfl rfl rfl rfl rfl) (fun p hp => Nz p ?sub) ?hu ?hv ?hn
  case sub => revert p; walk_at "mine subs"
  case hu =>
    intro p hp
    refine Nat.ne_of_lt (lFd p ?_)
    revert p; walk_at "mine subs"
  case hv =>
    refine List.forall_mem_cons.mpr ⟨Nat.ne_of_gt (lGv (_, _) (by walk_at "mine in")), List.forall_mem_cons.mpr ⟨Nat.ne_of_gt (lBb (_, _) (by walk_at "mine in")), fun p hp => Nat.ne_of_lt (lNt p ?_)⟩⟩
    revert p; walk_at "mine subs"
  case hn => exact Nat.ne_of_gt (lFd (_, _) (by walk_at "mine in"))
end

/-! b_log's loop as a statement. -/
theorem recycle_len2 {n k : Nat} (hk : 0 < k) : (if (n : Int) = 0 then 0 else if (k : Int) > n then (k : Int) else n) = ((if n = 0 then 0 else max n k : Nat) : Int) := by
  by_cases h : n = 0
  · subst h; rfl
  · rw [if_neg (by omega), if_neg h]
    split <;> omega
theorem recycle_len {n k : Nat} (hk : 0 < k) : (if (n : Int) = 0 then 0 else if (k : Int) = 0 then 0 else if (k : Int) > n then (k : Int) else n) = ((if n = 0 then 0 else max n k : Nat) : Int) := by
  by_cases h : n = 0
  · rw [if_pos (by walk_at "mine om"), if_pos h]; rfl
  · rw [if_neg (by walk_at "mine om"), if_neg (by walk_at "mine om")]; exact due_len rfl (by walk_at "mine om")
section
variable {w : World} {s s₀ : Shared} {Q : Flow → Shared → Prop} {pv : Program} {loose : List Str} {mean : ExcName → Option Value} {mg mb : Str → Option Value} {h₀ : Heap} {L L₁ fa : Addr} {cd cd₂ : Value}
theorem said_53 : True := by
  (k_with "call builtin:len" => (k_here; (with_reducible show wpAny _ _ (call (Value.builtin "len") [Value.ref _]) _ _ _); (rename News _ _ _ _ => N8); k_dflt (refine' len_new N8 ?m_r137 ?f_r137 ?_; (case m_r137 => walk_at "mine in"); (case f_r137 => assumption))))
  trivial
local macro_rules | `(tactic| passes_own) => `(tactic| exact rzE_passes (by rfl) (by rfl))
theorem blog_mid {Fd Nt Gv Bb Ix Ii : Addr} {n1 n2 n3 n4 : Nat} {R Rc : List (Addr × Obj)} {ys zs : List Value} {ds bs : List D} {m : Str → Option Value}
    (X₀ : (hd.heap_1 w.params).In h₀) (T : Top pv loose mean mg mb h₀) (B : Below (callerA.deeper (envLaw L₁ fa cd)) {} [envLaw L₁ fa cd] h₀) (gs : GroundOf h₀ s₀.heap Rc) (gr : ∀ p ∈ Rc, p ∈ R)
    (F : Fr h₀ L s.heap m) (hm : ∀ z, z ≠ S "i" → m z = mB Fd Bb Gv Nt Ix Ii m z) (N : News h₀ L s.heap ((Fd, listOf #[] n3) :: (Nt, listOf #[] n4) :: R)) (hri : ∀ p ∈ R, p.2.cls ≠ .type "range_iterator")
    (hu : ∀ p ∈ R, p.1 ≠ Fd) (hv : ∀ p ∈ R, p.1 ≠ Nt) (hfn : @Ne Nat Fd Nt) (me : (Gv, listOf ys.toArray n1) ∈ R) (mb' : (Bb, listOf zs.toArray n2) ∈ R) (dx : DAll h₀ R ys ds) (db : DAll h₀ R zs bs) (ex : ∀ d ∈ ds, Ent d) (eb : ∀ d ∈ bs, Ent d)
    (h4 : ds.length ≤ 4) (hb : 0 < bs.length ∧ bs.length ≤ 2) (hs0 : ∃ h tk, s = { s₀ with heap := h, toks := tk })
    (k : ∀ us n Y rs kn tn (v u : Str → Option Value) h' tk, rs.length = (if ds.length = 0 then 0 else max ds.length bs.length) → (∀ j d, rs[j]? = some d → Spec (atD ds j) (atD bs j) (some d)) → DAll h₀ Y us rs → TupsOnly Y →
      Fr h₀ L h' (fun y => if y = S "i" then v y else mB Fd Bb Gv Nt Ix Ii u y) → News h₀ L h' ((Fd, listOf us.toArray n) :: (Nt, listOf (nansV tn (Fresh ds bs (rs.map some) rs.length)).toArray kn) :: (R ++ Y)) →
      wpAny (model PG w) ((callerA.deeper (envLaw L₁ fa cd)).deeper (envBlog L cd₂)) (execs (blogBody.drop 10) (envBlog L cd₂)) Q (RzE (NoAt ds bs (if ds.length = 0 then 0 else max ds.length bs.length)) s₀ s₀.heap [envBlog L cd₂, envLaw L₁ fa cd] rmsg) { s with heap := h', toks := tk }) :
    wpAny (model PG w) ((callerA.deeper (envLaw L₁ fa cd)).deeper (envBlog L cd₂)) (execs (blogBody.drop 9) (envBlog L cd₂)) Q (RzE (NoAt ds bs (if ds.length = 0 then 0 else max ds.length bs.length)) s₀ s₀.heap [envBlog L cd₂, envLaw L₁ fa cd] rmsg) s := by
  refine as_cons (show blogBody.drop 9 = _ :: blogBody.drop 10 by with_unfolding_all rfl) ?_
  generalize blogBody.drop 10 = rest at k ⊢
  have hlx := dx.length
  have hlb := db.length
  have ny : ys.length ≤ 4096 := by walk_at "mine om"
  have nz : zs.length ≤ 4096 := by walk_at "mine om"
  have hF : Fr h₀ L s.heap (fun y => if y = S "i" then m y else mB Fd Bb Gv Nt Ix Ii m y) := by
    have e : (fun y => if y = S "i" then m y else mB Fd Bb Gv Nt Ix Ii m y) = m := funext fun y => by
      by_cases q : y = S "i"
      · rw [if_pos q]
      · rw [if_neg q, ← hm y q]
    rw [e]; exact F
  clear F
  have sh : StopHere := trivial
  w_top off
  w_strict k_steps
  all_goals (unfold Stop; rename Fr _ _ _ _ => Fz; rename News _ _ _ _ => Nz; rename IsRange _ _ _ _ _ _ _ _ => rg)
  all_goals refine' blog_loop X₀ T B gs gr rg Fz (mB_end rfl rfl rfl rfl rfl rfl) Nz hri hu hv hfn me mb' dx db ex eb h4 hb ?hs ?hbb ?_
  case hs => obtain ⟨h, tk, rfl⟩ := hs0; exact ⟨_, _, rfl⟩
  case hbb => rw [hlx, hlb]; exact recycle_len2 hb.1
  exact fun us n Y rs kn tn v u h' tk hl hs oa tY F' N' => k us n Y rs kn tn v u h' tk hl hs oa tY F' N'
end

/-! b_log's last statement. -/
theorem sub3 {x y z : Addr × Obj} {l : List (Addr × Obj)} (hy : y ∈ l) (hx : x ∈ l) (hz : z ∈ l) : ∀ p ∈ [x, y, z], p ∈ l := List.forall_mem_cons.mpr ⟨hx, List.forall_mem_cons.mpr ⟨hy, List.forall_mem_cons.mpr ⟨hz, List.forall_mem_nil _⟩⟩⟩
section
variable {h₀ h h' : Heap} {L a b : Addr} {m : Str → Option Value} {o o' oa ob oa' ob' : Obj} {R rest Y : List (Addr × Obj)} {vs : List Value} {ds : List D}
/-- one object of the ledger changed, all else stays -/
theorem hide_one (F : Fr h₀ L h m) (N : News h₀ L h ((a, o) :: R)) (hn : ∀ p ∈ R, p.1 ≠ a) (st : (hideAll h [a]).StaysIn h') (g : h'.get? a = some o') : Fr h₀ L h' m ∧ News h₀ L h' ((a, o') :: R) := by
  have na := N (a, o) (.head _)
  have kp : ∀ b x, b ≠ a → h.get? b = some x → h'.get? b = some x := fun b x hb e => st _ _ (hideAll_get _ e fun q => hb (List.mem_singleton.mp q))
  obtain ⟨oL, es, ep, hL, r⟩ := F.ns
  refine ⟨⟨⟨oL, es, ep, kp _ _ (Ne.symm na.2.1) hL, r⟩, fun b x e => kp b x (fun q => ?_) (F.keep _ _ e), F.above⟩, fun p hp => ?_⟩
  · rw [q, na.2.2] at e; cases e
  · rcases List.mem_cons.mp hp with rfl | hp
    · exact ⟨g, na.2⟩
    · have := N p (.tail _ hp)
      exact ⟨kp _ _ (hn p hp) this.1, this.2⟩
theorem hide_second {x : Addr × Obj} {P : Prop} (F : Fr h₀ L h m) (N : News h₀ L h (x :: (a, o) :: R)) (st : (hideAll h [a]).StaysIn h') (g : h'.get? a = some o') (hx : x.1 ≠ a) (hn : ∀ p ∈ R, p.1 ≠ a) (k : Fr h₀ L h' m → News h₀ L h' (x :: (a, o') :: R) → P) : P := by
  have h := hide_one (R := x :: R) F (fun p hp => N p (by
    rcases List.mem_cons.mp hp with rfl | hp
    · exact .tail _ (.head _)
    · rcases List.mem_cons.mp hp with rfl | hp
      · exact .head _
      · exact .tail _ (.tail _ hp))) (List.forall_mem_cons.mpr ⟨hx, hn⟩) st g
  refine k h.1 fun p hp => h.2 p ?_
  rcases List.mem_cons.mp hp with rfl | hp
  · exact .tail _ (.head _)
  · rcases List.mem_cons.mp hp with rfl | hp
    · exact .head _
    · exact .tail _ (.tail _ hp)
theorem hide_two (F : Fr h₀ L h m) (Na : News h₀ L h [(a, oa), (b, ob)]) (st : (hideAll h [a, b]).StaysIn h') : Fr h₀ L h' m := by
  have na := Na (a, oa) (.head _)
  have nb := Na (b, ob) (.tail _ (.head _))
  have kp : ∀ c x, c ≠ a → c ≠ b → h.get? c = some x → h'.get? c = some x := fun c x h1 h2 e => st _ _ (hideAll_get _ e fun q => by
    rcases List.mem_cons.mp q with q | q
    · exact h1 q
    · exact h2 (List.mem_singleton.mp q))
  obtain ⟨oL, es, ep, hL, r⟩ := F.ns
  refine ⟨⟨oL, es, ep, kp _ _ (Ne.symm na.2.1) (Ne.symm nb.2.1) hL, r⟩, fun c x e => kp c x (fun q => ?_) (fun q => ?_) (F.keep _ _ e), F.above⟩
  · rw [q, na.2.2] at e; cases e
  · rw [q, nb.2.2] at e; cases e
theorem hide_get (st : (hideAll h [a, b]).StaysIn h') {c : Addr} {x : Obj} (h1 : @Ne Nat c a) (h2 : @Ne Nat c b) (e : h.get? c = some x) : h'.get? c = some x := st _ _ (hideAll_get _ e fun q => by
  rcases List.mem_cons.mp q with q | q
  · exact h1 q
  · exact h2 (List.mem_singleton.mp q))
theorem DAt.here {v : Value} {d : D} (x : DAt h v d) : DIn h [] v d := by
  cases d with
  | none => exact x
  | some y => obtain ⟨a, t1, t2, e, i⟩ := x; exact ⟨a, t1, t2, e, .inl i⟩
theorem DAll.here (x : DAll h₀ Y vs ds) (F : Fr h₀ L h m) (N : News h₀ L h R) (sub : ∀ p ∈ Y, p ∈ R) : DAll h [] vs ds := by
  induction x with
  | nil => exact .nil
  | cons a _ ih => exact .cons (a.at F N sub).here ih
theorem DAll.goes (x : DAll h [] vs ds) (k : ∀ b o, h.get? b = some o → o.cls = .type "tuple" → h'.get? b = some o) : DAll h' [] vs ds := by
  induction x with
  | nil => exact .nil
  | @cons v d vs ds a _ ih =>
    refine .cons ?_ ih
    cases d with
    | none => exact a
    | some y =>
      obtain ⟨c, t1, t2, e, ⟨o, ho, hc, r⟩ | ⟨o, hm, _⟩⟩ := a
      · exact ⟨c, t1, t2, e, .inl ⟨o, k _ _ ho hc, hc, r⟩⟩
      · cases hm
end
theorem attrs_end {w : World} {h1 h2 h₀ h' : Heap} {a b : Addr} {x y : Obj} {av : Value} {q : Option (Str × Addr × Addr)} (z : AttrsN w h1 h₀ h2 av q) (ha : h1.get? a = some x) (hb : h1.get? b = some y) (st : (hideAll h2 [a, b]).StaysIn h') (k : h₀.StaysIn h') : AttrsH w h' av q := by
  cases z with
  | none => exact .none
  | some hd lo fr hi =>
    refine .some (hd.at fun o e => hide_get st (fun q => ?_) (fun q => ?_) e) lo (hi.keeps k)
    · have q : _ = a := q
      rw [q, ha] at fr; cases fr
    · have q : _ = b := q
      rw [q, hb] at fr; cases fr
theorem attrs_fresh {w : World} {h1 h2 h₀ : Heap} {av : Value} {A : Addr} {q : Option (Str × Addr × Addr)} (z : AttrsN w h1 h₀ h2 av q) (e : av = .ref A) (k : ∀ o, h₀.get? A = some o → h1.get? A = some o) : h₀.get? A = none := by
  cases z with
  | none => cases e
  | some hd lo fr hi =>
    cases e
    cases q : h₀.get? A with
    | none => rfl
    | some o => rw [k o q] at fr; cases fr
theorem attrs_off {w : World} {h1 h2 h₀ : Heap} {av : Value} {A : Addr} {o : Obj} {q : Option (Str × Addr × Addr)} (z : AttrsN w h1 h₀ h2 av q) (e : av = .ref A) (k : h1.get? A = some o) : False := by
  cases z with
  | none => cases e
  | some hd lo fr hi => cases e; rw [k] at fr; cases fr
section
variable {w : World} {s : Shared} {Q : Flow → Shared → Prop} {E : Value → Shared → Prop} {pv : Program} {loose : List Str} {mean : ExcName → Option Value} {mg mb : Str → Option Value} {h₀ : Heap} {L L₁ fa : Addr} {m : Str → Option Value} {cd cd₂ : Value}
theorem said_54 : True := by
  (k_with "mine subs" => exact List.forall_mem_nil _)
  (k_with "mine nes" => exact lt_all (by assumption))
  (k_with "call ref" => (k_here; (with_reducible show wpAny _ _ (call (Value.ref 448) [_, _]) _ _ _); (rename Fr _ _ _ _ => F8); (rename News _ _ _ _ => N8); k_dflt (((refine' c_kept (by assumption) (by assumption) (by assumption) F8 ?hD_r140 (newsSub N8 ?sub_r140) ?l1_r140 ?l2_r140 ?z1_r140 ?z2_r140 ?z3_r140 ?z4_r140 ?z5_r140 ?z6_r140 ?_); (case sub_r140 => (refine sub3 ?_ ?_ ?_; (walk_at "mine in"); (walk_at "mine in"); (walk_at "mine in"))); (case hD_r140 => assumption); (case z1_r140 => assumption); (case z2_r140 => assumption); (case z3_r140 => assumption); (case z4_r140 => assumption); (case z5_r140 => assumption); (case z6_r140 => assumption); (case l1_r140 => walk_at "mine ne"); (case l2_r140 => walk_at "mine ne")); (intro h' tk' oD' av' vd' gd' at' st'); (refine' hide_second F8 N8 st' gd' ?hx_r140 ?nes_r140 ?_); (case hx_r140 => walk_at "mine ne"); (case nes_r140 => walk_at "mine nes"); (clear st'); (intro F' N'))))
  (k_with "call ref" => (k_here; (with_reducible show wpAny _ _ (call (Value.ref 427) [_, _, _]) _ _ _); (refine of_stop ?_)))
  trivial
theorem blog_end {Fd Nt Gv Bb Ix Ii Di W Lx : Addr} {t : Tok} {b : Bool} {n kn kW nx : Nat} {oD : Obj} {av : Value} {q : Option (Str × Addr × Addr)} {R : List (Addr × Obj)} {us ys : List Value} {v u : Str → Option Value}
    (X₀ : (hd.heap_1 w.params).In h₀) (T : Top pv loose mean mg mb h₀) (B : Below (callerA.deeper (envLaw L₁ fa cd)) {} [envLaw L₁ fa cd] h₀)
    (F : Fr h₀ L s.heap (fun y => if y = S "i" then v y else mB Fd Bb Gv Nt Ix Ii u y)) (N : News h₀ L s.heap ((Fd, listOf us.toArray n) :: (Nt, listOf (nansV t b).toArray kn) :: R))
    (hD : InterpD w W oD) (mi : (Ii, instObj 654 Di) ∈ R) (md : (Di, oD) ∈ R) (mw : (W, listOf #[] kW) ∈ R) (ne1 : @Ne Nat Ii W) (ne2 : @Ne Nat Di W) (ne3 : @Ne Nat Ii Di)
    (hu : ∀ p ∈ R, p.1 ≠ Fd) (hv : ∀ p ∈ R, p.1 ≠ Nt) (hfn : @Ne Nat Fd Nt)
    (z1 : HasH h₀ Ix 92 (S "items") (.ref Lx)) (z2 : HasH h₀ Ix 92 (S "attrs") av) (a : AttrsH w h₀ av q) (hx : h₀.get? Lx = some (listOf ys.toArray nx)) (nu : us.length ≤ 4096) (ny : ys.length ≤ 4096)
    (k : ∀ (Ir Dr : Addr) (oDr oD' : Obj) (av' : Value) (h' : Heap) (tk : Nat), InterpD w W oD' → h'.get? Di = some oD' → WarnsAt h' W b → h'.get? Ir = some (instObj 92 Dr) → h'.get? Dr = some oDr → VecD w "double" Fd av' oDr → h'.get? Fd = some (listOf us.toArray n) →
      AttrsH w h' av' (if us.length = ys.length then q else none) → (∀ p ∈ R, p.1 ≠ Di → p.1 ≠ W → h'.get? p.1 = some p.2) → Fr h₀ L h' (fun y => if y = S "i" then v y else mB Fd Bb Gv Nt Ix Ii u y) → (∀ a, a = Dr ∨ a = Ir ∨ a = Fd → h₀.get? a = none ∧ ∀ p ∈ R, p.1 ≠ a) → (∀ A, av' = .ref A → h₀.get? A = none ∧ ∀ p ∈ R, p.1 ≠ A) → Q (.ret (.ref Ir)) { s with heap := h', toks := tk }) :
    wpAny (model PG w) ((callerA.deeper (envLaw L₁ fa cd)).deeper (envBlog L cd₂)) (execs (blogBody.drop 10) (envBlog L cd₂)) Q E s := by
  refine as_cons (show blogBody.drop 10 = _ :: [] by with_unfolding_all rfl) ?_
  w_top off
  w_strict k_steps
  all_goals (unfold Stop; rename Fr _ _ _ _ => Fz; rename News _ _ _ _ => Nz)
  revert Fz Nz
  rename News _ _ _ _ => N0
  rename Fr _ _ _ _ => F0
  intro Fz Nz
  rename AttrsN _ _ _ _ _ _ => at1
  rename VecD _ _ _ _ _ => vd1
  refine c_finish (b := b) (t := t) (kn := kn) (kW := kW) (Di := Di) X₀ T B Fz hD (newsSub Nz (List.forall_mem_cons.mpr ⟨?s1, List.forall_mem_cons.mpr ⟨?s2, List.forall_mem_cons.mpr ⟨?s3, List.forall_mem_cons.mpr ⟨?s4, List.forall_mem_nil _⟩⟩⟩⟩)) (hv _ mi) (hv _ md) (hv _ mw) ne1 ne2 ne3 ?_
  case s1 => walk_at "mine in"
  case s2 => walk_at "mine in"
  case s3 => walk_at "mine in"
  case s4 => walk_at "mine in"
  intro h' tk' oI iD gI wa st
  dsimp only
  have F2 := hide_two (oa := oD) (ob := listOf #[] kW) Fz (newsSub Nz (List.forall_mem_cons.mpr ⟨.tail _ (.tail _ (.tail _ (.tail _ md))), List.forall_mem_cons.mpr ⟨.tail _ (.tail _ (.tail _ (.tail _ mw))), List.forall_mem_nil _⟩⟩)) st
  have get := fun (p : Addr × Obj) hp (h1 : p.1 ≠ Di) (h2 : p.1 ≠ W) => hide_get st h1 h2 (Nz p hp).1
  refine k _ _ _ oI _ h' tk' iD gI wa (get (_, _) (by walk_at "mine in") ?n1 ?n2) (get (_, _) (by walk_at "mine in") ?n3 ?n4) vd1 (get (_, _) (by walk_at "mine in") ?n5 ?n6) (attrs_end at1 (N0 (Di, oD) (by walk_at "mine in")).1 (N0 (W, listOf #[] kW) (by walk_at "mine in")).1 st F2.keep) (fun p hp => get p (.tail _ (.tail _ (.tail _ (.tail _ hp))))) F2 ?fr (fun A e => ⟨attrs_fresh at1 e fun o q => F0.keep _ _ q, fun p hp q => attrs_off at1 e (q ▸ (N0 p (by walk_at "mine in")).1)⟩)
  all_goals (rename ∀ (p : Addr × Obj), p ∈ R → @LT.lt _ _ p.1 _ => lRx; clear lRx)
  all_goals rename ∀ (p : Addr × Obj), p ∈ R → @LT.lt _ _ p.1 _ => lR
  case fr =>
    rintro a (rfl | rfl | rfl)
    · exact ⟨(Nz (_, _) (.tail _ (.head _))).2.2, lt_all lR⟩
    · exact ⟨(Nz (_, _) (.head _)).2.2, fun p hp => Nat.ne_of_lt (Nat.lt_trans (lR _ hp) (by assumption))⟩
    · exact ⟨(Nz (_, _) (.tail _ (.tail _ (.head _)))).2.2, hu⟩
  case n1 => exact Nat.ne_of_gt (Nat.lt_trans (lR _ md) (by assumption))
  case n2 => exact Nat.ne_of_gt (Nat.lt_trans (lR _ mw) (by assumption))
  case n3 => exact Nat.ne_of_gt (lR _ md)
  case n4 => exact Nat.ne_of_gt (lR _ mw)
  case n5 => exact Ne.symm (hu _ md)
  case n6 => exact Ne.symm (hu _ mw)
end

/-! b_log's contract. -/
theorem DAll.out {h₀ h' : Heap} {Y : List (Addr × Obj)} {vs : List Value} {ds : List D} (x : DAll h₀ Y vs ds) (k : h₀.StaysIn h') (ky : ∀ p ∈ Y, h'.get? p.1 = some p.2) : DAll h' [] vs ds := by
  induction x with
  | nil => exact .nil
  | @cons v d vs ds a _ ih =>
    refine .cons ?_ ih
    cases d with
    | none => exact a
    | some y =>
      obtain ⟨c, t1, t2, e, i | ⟨o, hm, hc, r⟩⟩ := a
      · exact ⟨c, t1, t2, e, .inl (i.keeps k)⟩
      · exact ⟨c, t1, t2, e, .inl ⟨o, ky _ hm, hc, r⟩⟩
theorem sub_tail2 {x y : Addr × Obj} {R Y : List (Addr × Obj)} : ∀ p ∈ Y, p ∈ x :: y :: (R ++ Y) := fun _ hp => .tail _ (.tail _ (List.mem_append_right _ hp))
theorem sub_mid2 {x y p : Addr × Obj} {R Y : List (Addr × Obj)} (hp : p ∈ R) : p ∈ x :: y :: (R ++ Y) := .tail _ (.tail _ (List.mem_append_left _ hp))
theorem groundOf_news {h₀ s g : Heap} {L : Addr} {news : List (Addr × Obj)} (N : News h₀ L s news) (hg : g = hideAll s (news.map (·.1))) : GroundOf g s news := ⟨hg, fun p hp => (N p hp).1⟩
section
variable {w : World} {s : Shared} {Q E : Value → Shared → Prop} {pv : Program} {loose : List Str} {mean : ExcName → Option Value} {mg mb : Str → Option Value} {h₀ : Heap} {L fa : Addr} {m : Str → Option Value} {cd : Value}
theorem c_blog {Ar p1 p2 Ix Ib Ii Di W Lx Lb : Addr} {tb tk1 tk2 : Tok} {ys zs : List Value} {n1 n2 kW : Nat} {gv av : Value} {oD : Obj} {ds bs : List D} {q : Option (Str × Addr × Addr)} {g₀ : Heap}
    (X₀ : (hd.heap_1 w.params).In h₀) (T : Top pv loose mean mg mb h₀) (B : Below callerA {} [] h₀) (F : Fr h₀ L s.heap m)
    (N : News h₀ L s.heap [(Ar, listOf #[.ref p1, .ref p2] 0), (p2, { cls := .type "tuple", data := .seq #[.str (S "base") tb, .ref Ib] }), (p1, { cls := .type "tuple", data := .seq #[.none, .ref Ix] }), (Ii, instObj 654 Di), (Di, oD), (W, listOf #[] kW)])
    (hD : InterpD w W oD) (l2 : @LT.lt Nat _ p2 Ar) (l3 : @LT.lt Nat _ p1 p2) (ne1 : @Ne Nat Ii W) (ne2 : @Ne Nat Di W) (ne3 : @Ne Nat Ii Di) (na1 : @Ne Nat Ar Di) (na2 : @Ne Nat Ar W) (nb1 : @Ne Nat p2 Di) (nb2 : @Ne Nat p2 W) (nc1 : @Ne Nat p1 Di) (nc2 : @Ne Nat p1 W)
    (hg : g₀ = hideAll s.heap [Ar, p2, p1, Ii, Di, W])
    (z1 : HasH g₀ Ix 92 (S "items") (.ref Lx)) (z2 : HasH g₀ Ix 92 (S "kind") (.str (S "double") tk1)) (z5 : HasH g₀ Ix 92 (S "attrs") av) (a : AttrsH w g₀ av q) (z3 : HasH g₀ Ib 92 (S "items") (.ref Lb)) (z4 : HasH g₀ Ib 92 (S "kind") (.str (S "double") tk2))
    (hx : g₀.get? Lx = some (listOf ys.toArray n1)) (hb : g₀.get? Lb = some (listOf zs.toArray n2)) (dx : DAll g₀ [] ys ds) (db : DAll g₀ [] zs bs) (ex : ∀ d ∈ ds, Ent d) (eb : ∀ d ∈ bs, Ent d) (h4 : ds.length ≤ 4) (h2 : 0 < bs.length ∧ bs.length ≤ 2)
    (k : ∀ (Ir Dr Fd : Addr) (oDr oD' : Obj) (av' : Value) (us : List Value) (rs : List D) (n : Nat) (h' : Heap) (tk : Nat), Fr h₀ L h' m → (hideAll s.heap [Di, W]).StaysIn h' → InterpD w W oD' → h'.get? Di = some oD' → WarnsAt h' W (Fresh ds bs (rs.map some) rs.length) →
      h'.get? Ir = some (instObj 92 Dr) → h'.get? Dr = some oDr → VecD w "double" Fd av' oDr → h'.get? Fd = some (listOf us.toArray n) → DAll h' [] us rs → AttrsH w h' av' (if rs.length = ds.length then q else none) →
      rs.length = (if ds.length = 0 then 0 else max ds.length bs.length) → (∀ j d, rs[j]? = some d → Spec (atD ds j) (atD bs j) (some d)) → (∀ a, a = Dr ∨ a = Ir ∨ a = Fd → s.heap.get? a = none) → (∀ A, av' = .ref A → s.heap.get? A = none) → Q (.ref Ir) { s with heap := h', toks := tk })
    (kE : NoAt ds bs (if ds.length = 0 then 0 else max ds.length bs.length) → ∀ (e : Addr) (h' : Heap) (tk : Nat), Rz s.heap [envLaw L fa cd] rmsg e h' → E (.ref e) { s with heap := h', toks := tk }) :
    wpAny (model PG w) (callerA.deeper (envLaw L fa cd)) (call (.ref 441) [.ref Ii, .ref Ar, gv]) Q E s := by
  have gs := groundOf_news N hg
  refine wpAny_call ?_
  refine' callR2 (P := NoAt ds bs (if ds.length = 0 then 0 else max ds.length bs.length)) (binds := [(S "interp", .ref Ii), (S "args", .ref Ar), (S "env", gv)]) (msg := rmsg) B F X₀ N T rfl rfl rfl ?k6 ?k7 ?k8 ?k9 ?kB ?_ ?kE ?c2 ?c3 ?c4 ?c5
  case k6 => k_is
  case k7 => k_is
  case k8 => walk_at "mine un"
  case k9 => exact BindsTo.of_eq rfl
  case c5 => decide
  case kB => exact locs rfl
  case c2 => exact rfl
  case c3 => exact rfl
  case c4 => exact rfl
  case kE => exact fun hP e h' tk z => kE hP e h' tk z
  intro g L' h₁ hg' hL' FG F' N' Bg Xg Tg lg st ff
  have e : g = g₀ := hg'.trans hg.symm
  subst e
  have hlx := dx.length
  have hlb := db.length
  refine blog_start (s := { s with heap := h₁, toks := _ }) (R := [(Ii, instObj 654 Di), (Di, oD), (W, listOf #[] kW)]) Xg Tg Bg F' N' l2 l3 z1 z2 z3 z4 hx hb (by walk_at "mine om") (by walk_at "mine om") ?_
  intro Fd Nt Gv Bb n1 n2 n3 n4 m' h' tk F2 hm2 N2 hu hv hfn
  have hoc : oD.cls = .type "dict" := hD.cls
  refine blog_mid (s₀ := s) Xg Tg Bg gs (List.forall_mem_cons.mpr ⟨?r1, List.forall_mem_cons.mpr ⟨?r2, List.forall_mem_cons.mpr ⟨?r3, List.forall_mem_cons.mpr ⟨?r4, List.forall_mem_cons.mpr ⟨?r5, List.forall_mem_cons.mpr ⟨?r6, List.forall_mem_nil _⟩⟩⟩⟩⟩⟩) F2 hm2 N2 ?hri hu hv hfn (List.Mem.head _) (List.Mem.tail _ (List.Mem.head _)) (dx.mono fun p hp => (nomatch hp)) (db.mono fun p hp => (nomatch hp)) ex eb h4 h2 ⟨_, _, rfl⟩ ?_
  case r1 => walk_at "mine in"
  case r2 => walk_at "mine in"
  case r3 => walk_at "mine in"
  case r4 => walk_at "mine in"
  case r5 => walk_at "mine in"
  case r6 => walk_at "mine in"
  case hri =>
    intro p hp
    simp only [stLed, List.mem_cons, List.not_mem_nil, or_false] at hp
    rcases hp with rfl | rfl | rfl | rfl | rfl | rfl | rfl | rfl <;> first | (rw [hoc]; simp; done) | simp
  intro us n Y rs kn tn v u h2 tk2 hl hs oa tY F3 N3
  have hou := oa.length
  have hrl : rs.length ≤ 4 := by rw [hl]; exact cnt_4 h4 (by assumption)
  have yD : ∀ p ∈ Y, p.1 ≠ Di := tup_off tY N3 sub_tail2 (o := oD) (sub_mid2 (by walk_at "mine in")) (by rw [hoc]; simp)
  have yW : ∀ p ∈ Y, p.1 ≠ W := tup_off tY N3 sub_tail2 (o := listOf #[] kW) (sub_mid2 (by walk_at "mine in")) (by simp)
  have yF : ∀ p ∈ Y, p.1 ≠ Fd := tup_off tY N3 sub_tail2 (List.Mem.head _) (by simp)
  have yN : ∀ p ∈ Y, p.1 ≠ Nt := tup_off tY N3 sub_tail2 (List.Mem.tail _ (List.Mem.head _)) (by simp)
  refine blog_end (kW := kW) (Di := Di) (W := W) (oD := oD) (ys := ys) Xg Tg Bg F3 N3 hD (List.mem_append_left _ (by walk_at "mine in")) (List.mem_append_left _ (by walk_at "mine in")) (List.mem_append_left _ (by walk_at "mine in")) ne1 ne2 ne3 (List.forall_mem_append.mpr ⟨hu, yF⟩) (List.forall_mem_append.mpr ⟨hv, yN⟩) hfn z1 z5 a hx (by walk_at "mine om") (by walk_at "mine om") ?_
  intro Ir Dr oDr oD' av' h3 tk3 iD gD wa gIr gDr vd gFd at' keepR F4 fDr fA
  have six : ∀ a, (∀ p ∈ stLed Gv Bb Ar p1 p2 Ix Ib tb ys zs n1 n2 [(Ii, instObj 654 Di), (Di, oD), (W, listOf #[] kW)], p.1 ≠ a) → ∀ p ∈ [(Ar, listOf #[.ref p1, .ref p2] 0), (p2, { cls := .type "tuple", data := .seq #[.str (S "base") tb, .ref Ib] }), (p1, { cls := .type "tuple", data := .seq #[.none, .ref Ix] }), (Ii, instObj 654 Di), (Di, oD), (W, listOf #[] kW)], p.1 ≠ a := fun a h p hp => h p (.tail _ (.tail _ hp))
  refine ⟨L', _, [], F4, News.nil, fun Fz _ ks => k Ir Dr Fd oDr oD' av' us rs n h3 tk3 Fz (gs.but F4.keep (List.forall_mem_cons.mpr ⟨fun _ => keepR _ ?q1 na1 na2, List.forall_mem_cons.mpr ⟨fun _ => keepR _ ?q2 nb1 nb2, List.forall_mem_cons.mpr ⟨fun _ => keepR _ ?q3 nc1 nc2, List.forall_mem_cons.mpr ⟨fun _ => keepR _ ?q4 ne3 ne1, List.forall_mem_cons.mpr ⟨fun q => absurd (List.Mem.head _) q, List.forall_mem_cons.mpr ⟨fun q => absurd (List.Mem.tail _ (List.Mem.head _)) q, List.forall_mem_nil _⟩⟩⟩⟩⟩⟩)) iD gD wa gIr gDr vd gFd (oa.out F4.keep fun p hp => keepR p (List.mem_append_right _ hp) (yD p hp) (yW p hp)) ?att hl hs (fun a ha => gs.fresh (fDr a ha).1 (six _ fun p hp => (fDr a ha).2 p (List.mem_append_left _ hp))) (fun A e => gs.fresh (fA A e).1 (six _ fun p hp => (fA A e).2 p (List.mem_append_left _ hp)))⟩
  case q1 => exact List.mem_append_left _ (by walk_at "mine in")
  case q2 => exact List.mem_append_left _ (by walk_at "mine in")
  case q3 => exact List.mem_append_left _ (by walk_at "mine in")
  case q4 => exact List.mem_append_left _ (by walk_at "mine in")
  case att => rw [← hou, ← hlx]; exact at'
end

/-! The interpreter in the making: an environment's object; new_env; Evaluator. -/
section
variable {w : World} {A₀ A : Around} {s : Shared} {base h₀ : Heap} {outer : List Env} {L : Addr} {m : Str → Option Value} {env : Env} {p : Program} {loose : List Str} {mean : ExcName → Option Value} {mg mb : Str → Option Value} {Q E : Value → Shared → Prop}
theorem c_envobj {v1 v2 : Value} (B : Below A₀ base outer h₀) (F : Fr h₀ L s.heap m) (X₀ : (hd.heap_1 w.params).In h₀) (T : Top p loose mean mg mb h₀) (hA : A.frames = some (env :: outer)) (hf : env.frame = some L) (hke : env.scope.kind = .function) (hroom : A.depth + 1 < recursionLimit)
    (k : ∀ x h' tk, s.heap.get? x = none → s.heap.StaysIn h' → Q (.ref x) { s with heap := h', toks := tk }) :
    wpAny (model PG w) A (call (.ref 114) [v1, v2]) Q E s := by
  refine' mk_cls (K := hd.heap_1 w.params) (binds := fun x => [(S "self", .ref x), (S "number", v1), (S "parent", v2), (S "attrs", .none)]) B F X₀ T hA hf hke ?hm ?hi ?hfn ?ho ?hcd hroom ?hbind ?hloc ?_ ?c2 ?c3 ?c4 ?c5
  case hm => k_is
  case hi => k_is
  case hfn => k_is
  case ho => k_is
  case hcd => k_is
  case hbind => exact fun x s' X => binds_K X rfl (by k_is) rfl rfl rfl
  case hloc => exact fun x => locs rfl
  case c2 => exact rfl
  case c3 => exact rfl
  case c4 => exact rfl
  case c5 => decide
  intro A' g L' x dx h₁ tk uf ud uu F1 N1 lz lx B1 X1 T1
  refine' sets_take (s := { s with heap := h₁, toks := tk }) 7 (C := 114) X1 T1.nolimit ⟨by k_is, by k_is, by k_is⟩ ?a1 ?a2 ?a3 lx (l := [(S "kind", .const (.str (S "environment"))), (S "number", .name (S "number")), (S "parent", .name (S "parent")), (S "attrs", .name (S "attrs")), (S "frame", .dict), (S "locked", .const (.bool false)), (S "locks", .dict)]) (R := []) (oD := dictOf [] 0) (f := fun _ => none) (c := 0) ?e ?ok ?n (by decide) F1 N1 (List.forall_mem_nil _) atD_nil ?_
  case a1 => exact rfl
  case a2 => exact rfl
  case a3 => exact rfl
  case e => repeat (first | exact trivial | refine ⟨⟨_, _, _, _, rfl, by first | exact ⟨_, _, rfl⟩ | exact ⟨_, rfl, rfl⟩ | exact ⟨_, rfl⟩⟩, ?_⟩)
  case ok => repeat (first | exact List.forall_mem_nil _ | refine List.forall_mem_cons.mpr ⟨by k_is, ?_⟩)
  case n => repeat (first | exact List.forall_mem_nil _ | refine List.forall_mem_cons.mpr ⟨by first | exact trivial | exact ⟨rfl, _, rfl⟩, ?_⟩)
  intro h' oD f' R' tk' F2 N2 l2 a2 P2
  exact wpAny_execs_nil ⟨rfl, L', _, _, F2, newsSub N2 (l := [(x, instObj 114 dx)]) fun p hp => List.mem_append_left _ hp, fun ks fr => k x h' tk' (fr _ (.head _)).1 ks⟩
theorem said_55 : True := by
  (k_with "call ref" => (k_here; (with_reducible show wpAny _ _ (call (Value.ref 114) [_, _]) _ _ _); (refine of_stopC ?_)))
  (k_with "call ref" => (k_here; (with_reducible show wpAny _ _ (call (Value.ref 470) [_, _]) _ _ _); (refine of_stopC ?_)))
  trivial
theorem c_new_env {Ii Di : Addr} {oD : Obj} {f : Str → Option Value} {c : Nat} {z : Int} {t : Tok} {pa : Value}
    (B : Below A₀ base outer h₀) (F : Fr h₀ L s.heap m) (X₀ : (hd.heap_1 w.params).In h₀) (T : Top p loose mean mg mb h₀) (hA : A.frames = some (env :: outer)) (hf : env.frame = some L) (hke : env.scope.kind = .function) (hroom : A.depth + 2 < recursionLimit)
    (N : News h₀ L s.heap [(Ii, instObj 654 Di), (Di, oD)]) (hn : @Ne Nat Ii Di) (a : AtD oD f c) (hc : c ≤ 100) (hz : f (S "next_number") = some (.int z t))
    (k : ∀ x h' tk t' oD', s.heap.get? x = none → (hideAll s.heap [Di]).StaysIn h' → h'.get? Di = some oD' → AtD oD' (upf f (S "next_number") (.int (z + 1) t')) c → Q (.ref x) { s with heap := h', toks := tk }) :
    wpAny (model PG w) A (call (.ref 470) [.ref Ii, pa]) Q E s := by
  have am9 : AimHere := trivial
  have lt9 : LtHere := trivial
  refine' callC2 (binds := [(S "self", .ref Ii), (S "parent", pa)]) B F X₀ N T hA hf hke ?ho ?hcd ?hroom ?hbind ?hkind ?hnd ?_ ?c1 ?c2 ?c3
  case ho => k_is
  case hcd => k_is
  case hbind => exact BindsTo.of_eq rfl
  case hnd => decide
  case c1 => exact rfl
  case c2 => exact rfl
  case c3 => exact rfl
  case hroom => exact Nat.lt_trans (Nat.lt_add_of_pos_right (by decide)) hroom
  case hkind => exact kindsX rfl
  intro g L' h₁ tk cells hg hL' FG N' Y Bg Xg Tg lg
  have gs : GroundOf g s.heap _ := ⟨hg, fun p hp => (N p hp).1⟩
  clear F N X₀ T B hg
  obtain rfl : cells = [] := by cases Y; rfl
  clear Y
  (try simp only [List.cons_append, List.nil_append] at N')
  w_top off
  w_strict k_steps
  all_goals (try dsimp only)
  all_goals (unfold StopC; rename Fr _ _ _ _ => Fz; rename News _ _ _ _ => Nz)
  refine c_envobj Bg Fz Xg Tg (Around.frames_deeper hA) rfl rfl (Nat.lt_of_le_of_lt (Nat.le_refl (A.depth + 1 + 1)) hroom) ?_
  intro x h2 tk2 fx ks
  have F2 := mnFr Fz ks
  have N2 := mnNews Nz ks
  have sx : s.heap.get? x = none := hide_out gs (by
    cases q : g.get? x with
    | none => rfl
    | some o => exact absurd ((Fz.keep _ _ q).symm.trans fx) (by simp)) (fun p hp e => absurd ((e ▸ (Nz p hp).1).symm.trans fx) (by simp))
  clear Fz Nz ks fx
  w_strict k_steps
  all_goals (try dsimp only)
  rename Fr _ _ _ _ => F9
  rename News _ _ _ _ => N9
  rename (∃ u, _ = some u) → AtD _ _ _ => aE
  exact ⟨_, _, _, F9, N9, fun ks _ => k x _ _ _ _ sx (gs.but ks (List.forall_mem_cons.mpr ⟨fun _ => (N9 _ (.head _)).1, List.forall_mem_cons.mpr ⟨fun q => absurd (List.Mem.head _) q, List.forall_mem_nil _⟩⟩)) (N9 _ (.tail _ (.head _))).1 (aE ⟨_, hz⟩)⟩
theorem back1 {h₀ h h' : Heap} {L x d : Addr} {m : Str → Option Value} {ox od od' : Obj} (F : Fr h₀ L h m) (N : News h₀ L h [(x, ox), (d, od)]) (hx : @Ne Nat x d) (st : (hideAll h [d]).StaysIn h') (g : h'.get? d = some od') : Fr h₀ L h' m ∧ News h₀ L h' [(x, ox), (d, od')] :=
  hide_second F N st g hx (List.forall_mem_nil _) fun F' N' => ⟨F', N'⟩
theorem as_cons2 {M : Model} {A : Around} {env : Env} {l : List Stmt} {a b : Stmt} {n : Nat} {Q : Flow → Shared → Prop} {E : Value → Shared → Prop} {s : Shared} (e : l.drop n = a :: b :: l.drop (n + 2)) (h : wpAny M A (execs (a :: b :: l.drop (n + 2)) env) Q E s) : wpAny M A (execs (l.drop n) env) Q E s := e ▸ h
theorem c_interp {n : Int} {t : Tok} (B : Below A₀ base outer h₀) (F : Fr h₀ L s.heap m) (X₀ : (hd.heap_1 w.params).In h₀) (T : Top p loose mean mg mb h₀) (hA : A.frames = some (env :: outer)) (hf : env.frame = some L) (hke : env.scope.kind = .function) (hroom : A.depth + 4 < recursionLimit)
    (k : ∀ x dx W oD gl h' tk, s.heap.objs.size ≤ dx → @LT.lt Nat _ dx x → @LT.lt Nat _ x W → s.heap.get? x = none → s.heap.get? dx = none → s.heap.get? W = none → h'.get? x = some (instObj 654 dx) → h'.get? dx = some oD → h'.get? W = some (listOf #[] 0) → InterpD w W oD → lookIn (S "globals") oD = some (some (.ref gl)) → s.heap.StaysIn h' → Q (.ref x) { s with heap := h', toks := tk }) :
    wpAny (model PG w) A (call (.ref 654) [.int n t]) Q E s := by
  refine' mk_cls (K := hd.heap_1 w.params) (binds := fun x => [(S "self", .ref x), (S "limit", .int n t), (S "most_frames", .int 40 777)]) B F X₀ T hA hf hke ?hm ?hi ?hfn ?ho ?hcd (Nat.lt_of_le_of_lt (Nat.add_le_add_left (by decide) _) hroom) ?hbind ?hloc ?_ ?c2 ?c3 ?c4 ?c5
  case hm => k_is
  case hi => k_is
  case hfn => k_is
  case ho => k_is
  case hcd => k_is
  case hbind => exact fun x s' X => binds_K X rfl (by k_is) rfl rfl rfl
  case hloc => exact fun x => locs rfl
  case c2 => exact rfl
  case c3 => exact rfl
  case c4 => exact rfl
  case c5 => decide
  intro A' g L' x dx h₁ tk uf ud uu F1 N1 lz lx B1 X1 T1
  refine' sets_take (s := { s with heap := h₁, toks := tk }) 4 (C := 654) X1 T1.nolimit ⟨by k_is, by k_is, by k_is⟩ ?a1 ?a2 ?a3 lx (l := [(S "limit", .name (S "limit")), (S "most_frames", .name (S "most_frames")), (S "steps", .const (.int 0)), (S "next_number", .const (.int 0))]) (R := []) (oD := dictOf [] 0) (f := fun _ => none) (c := 0) ?e ?ok ?n (by decide) F1 N1 (List.forall_mem_nil _) atD_nil ?_
  case a1 => exact rfl
  case a2 => exact rfl
  case a3 => exact rfl
  case e => repeat (first | exact trivial | refine ⟨⟨_, _, _, _, rfl, by first | exact ⟨_, _, rfl⟩ | exact ⟨_, rfl, rfl⟩ | exact ⟨_, rfl⟩⟩, ?_⟩)
  case ok => repeat (first | exact List.forall_mem_nil _ | refine List.forall_mem_cons.mpr ⟨by k_is, ?_⟩)
  case n => repeat (first | exact List.forall_mem_nil _ | refine List.forall_mem_cons.mpr ⟨by first | exact trivial | exact ⟨rfl, _, rfl⟩, ?_⟩)
  intro h2 oD2 f2 R2 tk2 F2 N2 l2 a2 P2
  have N2' : News g L' h2 [(x, instObj 654 dx), (dx, oD2)] := newsSub N2 fun p hp => List.mem_append_left (R2 ++ []) hp
  obtain ⟨v1, ⟨t1, rfl⟩, e1⟩ := P2.get (x := S "next_number") (r := .const (.int 0)) rfl
  have e2 : f2 (S "new_env") = none := P2.other rfl
  have e3 : f2 (S "kind") = none := P2.other rfl
  have e4 : f2 (S "warn_all") = none := P2.other rfl
  clear F1 N1 N2 P2 l2
  have am9 : AimHere := trivial
  have lt9 : LtHere := trivial
  have hr4 : ∀ e : Env, (A'.deeper e).depth + 2 < recursionLimit := fun e => by
    show A'.depth + 3 < recursionLimit
    rw [ud]; exact hroom
  refine as_cons2 rfl ?_
  generalize hrest : List.drop (4 + 2) _ = rest
  w_top off
  w_strict k_steps
  all_goals (unfold StopC; rename Fr _ _ _ _ => Fz; rename News _ _ _ _ => Nz; rename AtD _ _ _ => az)
  refine c_new_env B1 Fz X1 T1 (Around.frames_deeper uf) rfl rfl (hr4 _) Nz (Nat.ne_of_gt lx) az ?hc e1 ?_
  case hc => decide
  intro x1 h3 tk3 t3 oD3 _ st gd a3
  obtain ⟨F3, N3⟩ := back1 Fz Nz (Nat.ne_of_gt lx) st gd
  clear Fz Nz st gd az
  replace e2 : upf f2 (S "next_number") (.int (0 + 1) t3) (S "new_env") = none := (if_neg (by decide)).trans e2
  replace e3 : upf f2 (S "next_number") (.int (0 + 1) t3) (S "kind") = none := (if_neg (by decide)).trans e3
  replace e4 : upf f2 (S "next_number") (.int (0 + 1) t3) (S "warn_all") = none := (if_neg (by decide)).trans e4
  replace e1 : upf f2 (S "next_number") (.int (0 + 1) t3) (S "next_number") = some (.int (0 + 1) t3) := if_pos rfl
  generalize upf f2 (S "next_number") (.int (0 + 1) t3) = f3 at a3 e1 e2 e3 e4
  w_strict k_steps
  all_goals (unfold StopC; rename Fr _ _ _ _ => Fz; rename News _ _ _ _ => Nz; rename AtD _ _ _ => az)
  refine c_new_env B1 Fz X1 T1 (Around.frames_deeper uf) rfl rfl (hr4 _) Nz (Nat.ne_of_gt lx) az ?hc ((if_neg (by decide)).trans e1) ?_
  case hc => decide
  intro x2 h4 tk4 t4 oD4 _ st gd a4
  obtain ⟨F4, N4⟩ := back1 Fz Nz (Nat.ne_of_gt lx) st gd
  clear Fz Nz st gd az
  replace e3 : upf (upf f3 (S "base") (.ref x1)) (S "next_number") (.int (0 + 1 + 1) t4) (S "kind") = none := (if_neg (by decide)).trans ((if_neg (by decide)).trans e3)
  replace e4 : upf (upf f3 (S "base") (.ref x1)) (S "next_number") (.int (0 + 1 + 1) t4) (S "warn_all") = none := (if_neg (by decide)).trans ((if_neg (by decide)).trans e4)
  generalize upf (upf f3 (S "base") (.ref x1)) (S "next_number") (.int (0 + 1 + 1) t4) = f4 at a4 e3 e4
  w_strict k_steps
  all_goals (rename Fr _ _ _ _ => Fz; rename News _ _ _ _ => Nz; rename AtD _ _ _ => az)
  try dsimp only
  subst hrest
  refine' sets_take 13 (C := 654) X1 T1.nolimit ⟨by k_is, by k_is, by k_is⟩ ?b1 ?b2 ?b3 lx (l := [(S "frames", .list), (S "out", .list), (S "warnings", .list), (S "handlers", .list), (S "restarts", .list), (S "targets", .const (.int 0)), (S "visible", .const (.bool true)), (S "current", .const .none), (S "dispatcher", .const .none), (S "signaller", .const .none), (S "warner", .const .none), (S "deparser", .const .none), (S "s4", .const .none)]) (R := []) ?e' ?ok' ?n' ?hc' Fz Nz (List.forall_mem_nil _) az ?_
  case b1 => exact rfl
  case b2 => exact rfl
  case b3 => exact rfl
  case hc' => decide
  case e' => repeat (first | exact trivial | refine ⟨⟨_, _, _, _, rfl, by first | exact ⟨_, _, rfl⟩ | exact ⟨_, rfl, rfl⟩ | exact ⟨_, rfl⟩⟩, ?_⟩)
  case ok' => repeat (first | exact List.forall_mem_nil _ | refine List.forall_mem_cons.mpr ⟨by k_is, ?_⟩)
  case n' => repeat (first | exact List.forall_mem_nil _ | refine List.forall_mem_cons.mpr ⟨by first | exact trivial | exact ⟨rfl, _, rfl⟩, ?_⟩)
  intro h5 oD5 f5 R5 tk5 F5 N5 l5 a5 P5
  clear Fz Nz az
  refine wpAny_execs_nil ?_
  refine Aft.go (by assumption) ?_
  show MEnd g s.heap (Q (.ref x)) Flow.next _
  refine ⟨rfl, L', _, _, F5, N5, fun ks fr => ?_⟩
  obtain ⟨_, ⟨W, rfl, hW⟩, eW⟩ := P5.get (x := S "warnings") (r := .list) rfl
  obtain ⟨_, rfl, w1⟩ := P5.get (x := S "warner") (r := .const .none) rfl
  obtain ⟨_, rfl, w2⟩ := P5.get (x := S "current") (r := .const .none) rfl
  obtain ⟨_, rfl, w3⟩ := P5.get (x := S "visible") (r := .const (.bool true)) rfl
  have fx := fr _ (.head _)
  have fd := fr _ (.tail _ (.head _))
  have fW := fr _ (.tail _ (.tail _ (List.mem_append_left _ hW)))
  exact k x dx W oD5 x2 h5 tk5 lz lx (l5 _ hW) fx.1 fd.1 fW.1 fx.2 fd.2 fW.2 ⟨f5, _, a5, by decide, eW, w1, w2, w3, (P5.other rfl).trans ((if_neg (by decide)).trans e4), (P5.other rfl).trans ((if_neg (by decide)).trans e3)⟩ (a5.look ((P5.other rfl).trans (if_pos rfl))) ks
end

/-! The call of b_log, from the law's frame. -/
theorem said_56 : True := by
  (k_with "mine lt" => first | assumption | exact Nat.lt_trans (by assumption) (by walk_at "mine lt"))
  (k_with "mine apart" => first | assumption | exact Nat.ne_of_lt (by walk_at "mine lt") | exact Nat.ne_of_gt (by walk_at "mine lt") | exact Nat.lt_trans (by assumption) (by walk_at "mine lt") | omega)
  trivial
section
variable {w : World} {s : Shared} {Q E : Value → Shared → Prop} {pv : Program} {loose : List Str} {mean : ExcName → Option Value} {mg mb : Str → Option Value} {h₀ : Heap} {L fa : Addr} {m : Str → Option Value} {cd : Value}
theorem VecD.has {h : Heap} {x D l : Addr} {k : String} {av : Value} {o : Obj} (z : VecD w k l av o) (hx : h.get? x = some (instObj 92 D)) (hd : h.get? D = some o) : HasH h x 92 (S "items") (.ref l) ∧ HasH h x 92 (S "attrs") av ∧ ∃ t, HasH h x 92 (S "kind") (.str (Str.ofString k) t) := by
  obtain ⟨f, c, t, a, _, e1, e2, e3⟩ := z
  exact ⟨⟨D, _, hx, hd, a.look e2⟩, ⟨D, _, hx, hd, a.look e3⟩, t, ⟨D, _, hx, hd, a.look e1⟩⟩
theorem DAll.out2 {h₀ h' : Heap} {Y : List (Addr × Obj)} {vs : List Value} {ds : List D} (x : DAll h₀ Y vs ds) (k : h₀.StaysIn h') (ky : ∀ p ∈ Y, p.2.cls = .type "tuple" → h'.get? p.1 = some p.2) : DAll h' [] vs ds := by
  induction x with
  | nil => exact .nil
  | @cons v d vs ds a _ ih =>
    refine .cons ?_ ih
    cases d with
    | none => exact a
    | some y =>
      obtain ⟨c, t1, t2, e, i | ⟨o, hm, hc, r⟩⟩ := a
      · exact ⟨c, t1, t2, e, .inl (i.keeps k)⟩
      · exact ⟨c, t1, t2, e, .inl ⟨o, ky _ hm hc, hc, r⟩⟩
theorem news_ne {h : Heap} {a b : Addr} {o o' : Obj} {R : List (Addr × Obj)} (N : News h₀ L h R) (h1 : (a, o) ∈ R) (h2 : (b, o') ∈ R) (hc : ¬ o.cls = o'.cls) : @Ne Nat a b := fun e => by
  have e1 := (N _ h1).1
  have e2 := (N _ h2).1
  have e : a = b := e
  subst e
  exact hc (congrArg (·.cls) (Option.some.inj (e1.symm.trans e2)))
theorem lt_of_all {a d : Addr} {o : Obj} {R : List (Addr × Obj)} (h : ∀ p ∈ R, p.1 < d) (hp : (a, o) ∈ R) : @Ne Nat d a := Nat.ne_of_gt (h _ hp)
theorem hide_base {h : Heap} {R : List (Addr × Obj)} {as : List Addr} (F : Fr h₀ L h m) (N : News h₀ L h R) (e : R.map (·.1) = as) : h₀.StaysIn (hideAll h as) := fun b o eb => hideAll_get _ (F.keep _ _ eb) fun hm => by
  rw [← e] at hm
  obtain ⟨p, hp, rfl⟩ := List.mem_map.mp hm
  rw [(N p hp).2.2] at eb; cases eb
theorem not_mem6 {x a b c d e f : Addr} (h1 : @Ne Nat a x) (h2 : @Ne Nat b x) (h3 : @Ne Nat c x) (h4 : @Ne Nat x d) (h5 : @Ne Nat x e) (h6 : @Ne Nat x f) : x ∉ [a, b, c, d, e, f] := by
  simp only [List.mem_cons, List.not_mem_nil, or_false, not_or]
  exact ⟨Ne.symm h1, Ne.symm h2, Ne.symm h3, h4, h5, h6⟩
/-- the attributes' objects stand in the ledger -/
def AttrsR (w : World) (R : List (Addr × Obj)) (Ii Di W : Addr) (av : Value) (q : Option (Str × Addr × Addr)) : Prop := ∀ g : Heap, (∀ p ∈ R, p.1 ≠ Ii → p.1 ≠ Di → p.1 ≠ W → g.get? p.1 = some p.2) → AttrsH w g av q
theorem news_neO {h : Heap} {a b : Addr} {o o' : Obj} {R : List (Addr × Obj)} (N : News h₀ L h R) (h1 : (a, o) ∈ R) (h2 : (b, o') ∈ R) (hc : o ≠ o') : @Ne Nat a b := fun e => by
  have e1 := (N _ h1).1
  have e2 := (N _ h2).1
  have e : a = b := e
  subst e
  exact hc (Option.some.inj (e1.symm.trans e2))
theorem sub6 {a b c d e f p : Addr × Obj} {R : List (Addr × Obj)} (hp : p ∈ R) : p ∈ a :: b :: c :: d :: e :: f :: R := .tail _ (.tail _ (.tail _ (.tail _ (.tail _ (.tail _ hp)))))
theorem law_call {Ar p1 p2 Ib Db Lb Ix Dx Lx Ii Di W : Addr} {oX oD oB : Obj} {av gv : Value} {q : Option (Str × Addr × Addr)} {ys zs : List Value} {nx nb kW : Nat} {tb : Tok} {R : List (Addr × Obj)} {ds bs : List D}
    (X₀ : (hd.heap_1 w.params).In h₀) (T : Top pv loose mean mg mb h₀) (B : Below callerA {} [] h₀) (F : Fr h₀ L s.heap m)
    (N : News h₀ L s.heap ((Ar, listOf #[.ref p1, .ref p2] 0) :: (p2, { cls := .type "tuple", data := .seq #[.str (S "base") tb, .ref Ib] }) :: (Ib, instObj 92 Db) :: (Db, oB) :: (Lb, listOf zs.toArray nb) :: (p1, { cls := .type "tuple", data := .seq #[.none, .ref Ix] }) :: R))
    (lR : ∀ p ∈ R, p.1 < p1) (c1 : @LT.lt Nat _ p1 Lb) (c2 : @LT.lt Nat _ Lb Db) (c3 : @LT.lt Nat _ Db Ib) (c4 : @LT.lt Nat _ Ib p2) (c5 : @LT.lt Nat _ p2 Ar)
    (hX : VecD w "double" Lx av oX) (hB : VecD w "double" Lb .none oB) (hD : InterpD w W oD) (rIx : (Ix, instObj 92 Dx) ∈ R) (rDx : (Dx, oX) ∈ R) (rLx : (Lx, listOf ys.toArray nx) ∈ R) (rIi : (Ii, instObj 654 Di) ∈ R) (rDi : (Di, oD) ∈ R) (rW : (W, listOf #[] kW) ∈ R)
    (dx : DAll h₀ R ys ds) (db : DAll h₀ R zs bs) (ex : ∀ d ∈ ds, Ent d) (eb : ∀ d ∈ bs, Ent d) (h4 : ds.length ≤ 4) (h2 : 0 < bs.length ∧ bs.length ≤ 2) (neLW : @Ne Nat Lx W) (hA : AttrsR w R Ii Di W av q)
    (k : ∀ (Ir Dr Fd : Addr) (oDr oD' : Obj) (av' : Value) (us : List Value) (rs : List D) (n : Nat) (h' : Heap) (tk : Nat), Fr h₀ L h' m → (hideAll s.heap [Di, W]).StaysIn h' → InterpD w W oD' → h'.get? Di = some oD' → WarnsAt h' W (Fresh ds bs (rs.map some) rs.length) →
      h'.get? Ir = some (instObj 92 Dr) → h'.get? Dr = some oDr → VecD w "double" Fd av' oDr → h'.get? Fd = some (listOf us.toArray n) → DAll h' [] us rs → AttrsH w h' av' (if rs.length = ds.length then q else none) →
      rs.length = (if ds.length = 0 then 0 else max ds.length bs.length) → (∀ j d, rs[j]? = some d → Spec (atD ds j) (atD bs j) (some d)) → (∀ a, a = Dr ∨ a = Ir ∨ a = Fd → s.heap.get? a = none) → (∀ A, av' = .ref A → s.heap.get? A = none) → Q (.ref Ir) { s with heap := h', toks := tk })
    (kE : NoAt ds bs (if ds.length = 0 then 0 else max ds.length bs.length) → ∀ (e : Addr) (h' : Heap) (tk : Nat), Rz s.heap [envLaw L fa cd] rmsg e h' → E (.ref e) { s with heap := h', toks := tk }) :
    wpAny (model PG w) (callerA.deeper (envLaw L fa cd)) (call (.ref 441) [.ref Ii, .ref Ar, gv]) Q E s := by
  have NR : News h₀ L s.heap R := newsSub N fun p hp => sub6 hp
  have ne1 := news_ne NR rIi rW (by simp)
  have ne2 := news_ne NR rDi rW (by rw [hD.cls]; simp)
  have ne3 := news_ne NR rIi rDi (by rw [hD.cls]; simp)
  have aD : @LT.lt Nat _ Di p1 := lR _ rDi
  have aW : @LT.lt Nat _ W p1 := lR _ rW
  have aI : @LT.lt Nat _ Ii p1 := lR _ rIi
  have N6 : News h₀ L s.heap [(Ar, listOf #[.ref p1, .ref p2] 0), (p2, { cls := .type "tuple", data := .seq #[.str (S "base") tb, .ref Ib] }), (p1, { cls := .type "tuple", data := .seq #[.none, .ref Ix] }), (Ii, instObj 654 Di), (Di, oD), (W, listOf #[] kW)] :=
    newsSub N (List.forall_mem_cons.mpr ⟨.head _, List.forall_mem_cons.mpr ⟨.tail _ (.head _), List.forall_mem_cons.mpr ⟨.tail _ (.tail _ (.tail _ (.tail _ (.tail _ (.head _))))), List.forall_mem_cons.mpr ⟨sub6 rIi, List.forall_mem_cons.mpr ⟨sub6 rDi, List.forall_mem_cons.mpr ⟨sub6 rW, List.forall_mem_nil _⟩⟩⟩⟩⟩⟩)
  have keepG : ∀ p ∈ R, p.1 ≠ Ii → p.1 ≠ Di → p.1 ≠ W → (hideAll s.heap [Ar, p2, p1, Ii, Di, W]).get? p.1 = some p.2 := fun p hp h1 h2 h3 => by
    have hl : @LT.lt Nat _ p.1 p1 := lR p hp
    exact hideAll_get _ (NR p hp).1 (not_mem6 (by walk_at "mine apart") (by walk_at "mine apart") (by walk_at "mine apart") h1 h2 h3)
  have st0 : h₀.StaysIn (hideAll s.heap [Ar, p2, p1, Ii, Di, W]) := hide_base F N6 rfl
  have gI : (hideAll s.heap [Ar, p2, p1, Ii, Di, W]).get? Ib = some (instObj 92 Db) := hideAll_get _ (N (Ib, _) (.tail _ (.tail _ (.head _)))).1 (not_mem6 (by walk_at "mine apart") (by walk_at "mine apart") (by walk_at "mine apart") (by walk_at "mine apart") (by walk_at "mine apart") (by walk_at "mine apart"))
  have gD : (hideAll s.heap [Ar, p2, p1, Ii, Di, W]).get? Db = some oB := hideAll_get _ (N (Db, _) (.tail _ (.tail _ (.tail _ (.head _))))).1 (not_mem6 (by walk_at "mine apart") (by walk_at "mine apart") (by walk_at "mine apart") (by walk_at "mine apart") (by walk_at "mine apart") (by walk_at "mine apart"))
  have gL : (hideAll s.heap [Ar, p2, p1, Ii, Di, W]).get? Lb = some (listOf zs.toArray nb) := hideAll_get _ (N (Lb, _) (.tail _ (.tail _ (.tail _ (.tail _ (.head _)))))).1 (not_mem6 (by walk_at "mine apart") (by walk_at "mine apart") (by walk_at "mine apart") (by walk_at "mine apart") (by walk_at "mine apart") (by walk_at "mine apart"))
  have hasB := hB.has gI gD
  have n1 := news_ne NR rIx rIi (by simp)
  have n2 := news_ne NR rIx rDi (by rw [hD.cls]; simp)
  have n3 := news_ne NR rIx rW (by simp)
  have n4 := news_ne NR rDx rIi (by rw [hX.cls]; simp)
  have n5 := news_neO NR rDx rDi (vec_interp hX hD)
  have n6 := news_ne NR rDx rW (by rw [hX.cls]; simp)
  have n7 := news_ne NR rLx rIi (by simp)
  have n8 := news_ne NR rLx rDi (by rw [hD.cls]; simp)
  have gIx : (hideAll s.heap [Ar, p2, p1, Ii, Di, W]).get? Ix = some (instObj 92 Dx) := keepG (Ix, instObj 92 Dx) rIx n1 n2 n3
  have gDx : (hideAll s.heap [Ar, p2, p1, Ii, Di, W]).get? Dx = some oX := keepG (Dx, oX) rDx n4 n5 n6
  have gX : (hideAll s.heap [Ar, p2, p1, Ii, Di, W]).get? Lx = some (listOf ys.toArray nx) := keepG (Lx, listOf ys.toArray nx) rLx n7 n8 neLW
  have hasX := hX.has gIx gDx
  obtain ⟨tx, kx⟩ := hasX.2.2
  obtain ⟨tb', kb⟩ := hasB.2.2
  have tup : ∀ p ∈ R, p.2.cls = .type "tuple" → (hideAll s.heap [Ar, p2, p1, Ii, Di, W]).get? p.1 = some p.2 := fun p hp hc => keepG p hp (news_ne (o := p.2) NR hp rIi (by rw [hc]; simp)) (news_ne (o := p.2) NR hp rDi (by rw [hc, hD.cls]; simp)) (news_ne (o := p.2) NR hp rW (by rw [hc]; simp))
  exact c_blog X₀ T B F N6 hD c5 (by walk_at "mine apart") ne1 ne2 ne3 (by walk_at "mine apart") (by walk_at "mine apart") (by walk_at "mine apart") (by walk_at "mine apart") (by walk_at "mine apart") (by walk_at "mine apart") rfl hasX.1 kx hasX.2.1 (hA _ keepG) hasB.1 kb gX gL (dx.out2 st0 tup) (db.out2 st0 tup) ex eb h4 h2 k kE
end

/-! What b_log leaves, as one ledger. -/
section
variable {w : World} {h₀ h h3 : Heap} {L : Addr} {m : Str → Option Value} {R Y Z : List (Addr × Obj)}
def AttrsZ (w : World) (Z : List (Addr × Obj)) (av : Value) (q : Option (Str × Addr × Addr)) : Prop := ∀ g : Heap, (∀ p ∈ Z, g.get? p.1 = some p.2) → AttrsH w g av q
theorem absorb_all {vs : List Value} {ds : List D} (F : Fr h₀ L h m) (x : DAll h [] vs ds) : ∃ Y, News h₀ L h Y ∧ TupsOnly Y ∧ DAll h₀ Y vs ds := by
  induction x with
  | nil => exact ⟨[], News.nil, TupsOnly.nil, .nil⟩
  | @cons v d vs ds a _ ih =>
    obtain ⟨Y, NY, tY, dY⟩ := ih
    have a' : DAt h v d := by
      cases d with
      | none => exact a
      | some y =>
        obtain ⟨c, t1, t2, e, i | ⟨o, hm, _⟩⟩ := a
        · exact ⟨c, t1, t2, e, i⟩
        · cases hm
    obtain ⟨ex, N', tx, dx⟩ := absorb F NY a'
    exact ⟨Y ++ ex, N', tY.append tx, .cons (dx.mono fun p hp => List.mem_append_right _ hp) (dY.mono fun p hp => List.mem_append_left _ hp)⟩
theorem news_fresh {a : Addr} {o : Obj} (F : Fr h₀ L h m) (hf : h.get? a = none) (g : h3.get? a = some o) : News h₀ L h3 [(a, o)] := fun p hp => by
  rw [List.mem_singleton.mp hp]
  obtain ⟨oL, es, ep, hL, _⟩ := F.ns
  refine ⟨g, fun e => ?_, ?_⟩
  · have e : a = L := e
    rw [e, hL] at hf; cases hf
  · show h₀.get? a = none
    cases q : h₀.get? a with
    | none => rfl
    | some o' => rw [F.keep _ _ q] at hf; cases hf
theorem news_append (N : News h₀ L h Y) (M : News h₀ L h Z) : News h₀ L h (Y ++ Z) := fun p hp => (List.mem_append.mp hp).elim (N p) (M p)
/-- a tuple that stands: of the ground or new -/
theorem tup_absorb {T : Addr} {items : Array Value} (F : Fr h₀ L h m) (i : IsTup h T items) : ∃ Y, News h₀ L h Y ∧ TupsOnly Y ∧ ∀ g : Heap, h₀.StaysIn g → (∀ p ∈ Y, g.get? p.1 = some p.2) → IsTup g T items := by
  obtain ⟨o, ho, hc, n, hd⟩ := i
  cases q : h₀.get? T with
  | some o' =>
    have := (F.keep _ _ q).symm.trans ho
    cases this
    exact ⟨[], News.nil, TupsOnly.nil, fun g k _ => ⟨_, k _ _ q, hc, n, hd⟩⟩
  | none =>
    refine ⟨[(T, o)], fun p hp => ?_, fun p hp => by rw [List.mem_singleton.mp hp]; exact hc, fun g _ k => ⟨o, k (T, o) (.head _), hc, n, hd⟩⟩
    rw [List.mem_singleton.mp hp]
    refine ⟨ho, fun e => ?_, q⟩
    obtain ⟨oL, es, ep, hL, hLd, _⟩ := F.ns
    have e : T = L := e
    rw [e, hL] at ho
    rw [Option.some.inj ho, hd] at hLd
    cases hLd
/-- the warnings' list, at any heap that keeps the ledger -/
def WarnsZ (h₀ : Heap) (Z : List (Addr × Obj)) (W : Addr) (b : Bool) : Prop := ∃ n, if b then ∃ T t, (W, listOf #[.ref T] n) ∈ Z ∧ ∀ g : Heap, h₀.StaysIn g → (∀ p ∈ Z, g.get? p.1 = some p.2) → IsTup g T #[.str (S "NaNs produced") t, .none] else (W, listOf #[] n) ∈ Z
theorem attrs_join {h4 : Heap} {av av' : Value} {q : Option (Str × Addr × Addr)} (c : Prop) [Decidable c] (z : AttrsH w h av' (if c then q else none)) (k : ∀ A o, av' = .ref A → h.get? A = some o → h4.get? A = some o) (a : AttrsH w h4 av q) : AttrsH w h4 av' (if c then q else none) := by
  by_cases hc : c
  · rw [if_pos hc] at z ⊢
    cases z with
    | none => exact .none
    | some hd lo hi =>
      cases a with
      | some hd4 lo4 hi4 => exact .some (hd.at fun o e => k _ o rfl e) lo hi4
  · rw [if_neg hc] at z ⊢
    cases z
    exact .none
theorem law_left {Ii Di W Ir Dr Fd : Addr} {oD oD' oW oDr oIr oFd : Obj} {b : Bool} {av av' : Value} {q : Option (Str × Addr × Addr)} {c : Prop} [Decidable c] {us : List Value} {rs : List D}
    (F0 : Fr h₀ L h m) (N0 : News h₀ L h R) (F3 : Fr h₀ L h3 m) (st : (hideAll h [Di, W]).StaysIn h3) (rDi : (Di, oD) ∈ R) (rW : (W, oW) ∈ R)
    (gD : h3.get? Di = some oD') (wa : WarnsAt h3 W b) (gIr : h3.get? Ir = some oIr) (gDr : h3.get? Dr = some oDr) (gFd : h3.get? Fd = some oFd) (fr : ∀ a, a = Dr ∨ a = Ir ∨ a = Fd → h.get? a = none) (fA : ∀ A, av' = .ref A → h.get? A = none)
    (da : DAll h3 [] us rs) (at3 : AttrsH w h3 av' (if c then q else none)) (hA : AttrsR w R Ii Di W av q) :
    ∃ Z, News h₀ L h3 Z ∧ (Ir, oIr) ∈ Z ∧ (Dr, oDr) ∈ Z ∧ (Fd, oFd) ∈ Z ∧ (Di, oD') ∈ Z ∧ WarnsZ h₀ Z W b ∧ DAll h₀ Z us rs ∧ AttrsZ w Z av' (if c then q else none) ∧ AttrsZ w Z av q ∧ ∀ p ∈ R, p.1 ≠ Di → p.1 ≠ W → p ∈ Z := by
  obtain ⟨Y, NY, tY, dY⟩ := absorb_all F3 da
  obtain ⟨ZA, NA, hZA⟩ : ∃ ZA, News h₀ L h3 ZA ∧ ∀ A o, av' = .ref A → h3.get? A = some o → (A, o) ∈ ZA := by
    cases av' with
    | ref A =>
      cases e : h3.get? A with
      | some o => exact ⟨[(A, o)], news_fresh F0 (fA A rfl) e, fun A' o' e1 e2 => by cases e1; rw [e] at e2; cases e2; exact .head _⟩
      | none => exact ⟨[], News.nil, fun A' o' e1 e2 => by cases e1; rw [e] at e2; cases e2⟩
    | _ => exact ⟨[], News.nil, fun A' o' e1 _ => by cases e1⟩
  obtain ⟨ZW, NW, hZW⟩ : ∃ ZW, News h₀ L h3 ZW ∧ WarnsZ h₀ ZW W b := by
    obtain ⟨n, wa⟩ := wa
    have nw := N0 (W, oW) rW
    cases b with
    | false =>
      rw [if_neg (by simp)] at wa
      exact ⟨[(W, listOf #[] n)], fun p hp => by rw [List.mem_singleton.mp hp]; exact ⟨wa, nw.2⟩, n, by rw [if_neg (by simp)]; exact .head _⟩
    | true =>
      rw [if_pos rfl] at wa
      obtain ⟨T, t, wa, iT⟩ := wa
      obtain ⟨YT, NT, _, kT⟩ := tup_absorb F3 iT
      refine ⟨(W, listOf #[.ref T] n) :: YT, fun p hp => ?_, n, by rw [if_pos rfl]; exact ⟨T, t, .head _, fun g k1 k2 => kT g k1 fun p hp => k2 p (.tail _ hp)⟩⟩
      rcases List.mem_cons.mp hp with rfl | hp
      · exact ⟨wa, nw.2⟩
      · exact NT p hp
  have NF : News h₀ L h3 (R.filter fun p => decide (p.1 ≠ Di ∧ p.1 ≠ W)) := fun p hp => by
    obtain ⟨h1, h2⟩ := List.mem_filter.mp hp
    have h2 := of_decide_eq_true h2
    exact ⟨hide_get st h2.1 h2.2 (N0 p h1).1, (N0 p h1).2⟩
  have NI := news_fresh F0 (fr Ir (.inr (.inl rfl))) gIr
  have ND := news_fresh F0 (fr Dr (.inl rfl)) gDr
  have NL := news_fresh F0 (fr Fd (.inr (.inr rfl))) gFd
  have ND' : News h₀ L h3 [(Di, oD')] := fun p hp => by rw [List.mem_singleton.mp hp]; exact ⟨gD, (N0 (Di, oD) rDi).2⟩
  have inF : ∀ p ∈ R, p.1 ≠ Di → p.1 ≠ W → p ∈ R.filter fun p => decide (p.1 ≠ Di ∧ p.1 ≠ W) := fun p hp h1 h2 => List.mem_filter.mpr ⟨hp, decide_eq_true ⟨h1, h2⟩⟩
  have aR : ∀ g : Heap, (∀ p ∈ R.filter fun p => decide (p.1 ≠ Di ∧ p.1 ≠ W), g.get? p.1 = some p.2) → AttrsH w g av q := fun g k => hA g fun p hp _ h1 h2 => k p (inF p hp h1 h2)
  refine ⟨[(Ir, oIr)] ++ ([(Dr, oDr)] ++ ([(Fd, oFd)] ++ ([(Di, oD')] ++ (ZW ++ (ZA ++ (Y ++ R.filter fun p => decide (p.1 ≠ Di ∧ p.1 ≠ W))))))), news_append NI (news_append ND (news_append NL (news_append ND' (news_append NW (news_append NA (news_append NY NF)))))), ?_, ?_, ?_, ?_, ?_, ?_, ?_, ?_, ?_⟩
  · exact .head _
  · exact .tail _ (.head _)
  · exact .tail _ (.tail _ (.head _))
  · exact .tail _ (.tail _ (.tail _ (.head _)))
  · obtain ⟨n, hw⟩ := hZW
    have sub : ∀ p ∈ ZW, p ∈ [(Ir, oIr)] ++ ([(Dr, oDr)] ++ ([(Fd, oFd)] ++ ([(Di, oD')] ++ (ZW ++ (ZA ++ (Y ++ R.filter fun p => decide (p.1 ≠ Di ∧ p.1 ≠ W))))))) := fun p hp => List.mem_append_right _ (List.mem_append_right _ (List.mem_append_right _ (List.mem_append_right _ (List.mem_append_left _ hp))))
    refine ⟨n, ?_⟩
    by_cases hb : b = true
    · rw [if_pos hb] at hw ⊢
      obtain ⟨T, t, hm, k⟩ := hw
      exact ⟨T, t, sub _ hm, fun g k1 k2 => k g k1 fun p hp => k2 p (sub p hp)⟩
    · rw [if_neg hb] at hw ⊢
      exact sub _ hw
  · exact dY.mono fun p hp => List.mem_append_right _ (List.mem_append_right _ (List.mem_append_right _ (List.mem_append_right _ (List.mem_append_right _ (List.mem_append_right _ (List.mem_append_left _ hp))))))
  · intro g kg
    refine attrs_join c at3 (fun A o e1 e2 => kg (A, o) (List.mem_append_right _ (List.mem_append_right _ (List.mem_append_right _ (List.mem_append_right _ (List.mem_append_right _ (List.mem_append_left _ (hZA A o e1 e2)))))))) (aR g fun p hp => kg p (List.mem_append_right _ (List.mem_append_right _ (List.mem_append_right _ (List.mem_append_right _ (List.mem_append_right _ (List.mem_append_right _ (List.mem_append_right _ hp))))))))
  · exact fun g kg => aR g fun p hp => kg p (List.mem_append_right _ (List.mem_append_right _ (List.mem_append_right _ (List.mem_append_right _ (List.mem_append_right _ (List.mem_append_right _ (List.mem_append_right _ hp)))))))
  · exact fun p hp h1 h2 => List.mem_append_right _ (List.mem_append_right _ (List.mem_append_right _ (List.mem_append_right _ (List.mem_append_right _ (List.mem_append_right _ (List.mem_append_right _ (inF p hp h1 h2)))))))
end

/-! The law's held, its try. -/
def SuiteT (h₀ : Heap) (L : Addr) (s : Shared) (f : Flow) (s₄ : Shared) : Prop := f = .ret (.bool true) ∧ (∃ m', s₄.heap.Ns L m') ∧ h₀.StaysIn s₄.heap ∧ ∃ h tk, s₄ = { s with heap := h, toks := tk }
section
variable {w : World} {s : Shared} {Q : Flow → Shared → Prop} {pv : Program} {loose : List Str} {mean : ExcName → Option Value} {mg mb : Str → Option Value} {h₀ : Heap} {L fa : Addr} {m : Str → Option Value} {cd : Value}
theorem said_57 : True := by
  (k_with "getAttr ref" => (k_here; (rename Fr _ _ _ _ => F8); (rename News _ _ _ _ => N8); k_dflt (refine' attr_r (K := Mine.hd.heap_1 _) F8 ?X_r146 N8 ?m1_r146 ?m2_r146 ?l_r146 ?k5_r146 ?k6_r146 ?k7_r146 ?k8_r146 ?k9_r146 ?_; (case X_r146 => assumption); (case m1_r146 => walk_at "mine in"); (case m2_r146 => walk_at "mine in"); (case l_r146 => first | assumption | with_unfolding_all rfl); (case k5_r146 => k_is); (case k6_r146 => k_is); (case k7_r146 => k_is); (case k8_r146 => k_is); (case k9_r146 => first | exact rfl | assumption))))
  (k_with "call type:list" => (k_here; (with_reducible show wpAny _ _ (call (Value.type "list") [Value.ref _]) _ _ _); (rename Fr _ _ _ _ => F8); (rename News _ _ _ _ => N8); k_dflt (refine' list_base F8 N8 ?l_r147 ?z_r147 ?_; (case l_r147 => exact (N8 (_, _) (by walk_at "mine in")).1); (case z_r147 => assumption)); (clear F8 N8); intro D' c' h' F' N' l1; (try k_lt l1)))
  (k_with "exec Try" => (k_here; refine wpAny_Try_except ?_))
  (k_with "call ref" => (k_here; (with_reducible show wpAny _ _ (call (Value.ref 705) [_]) _ _ _); (refine of_stop ?_)))
  (k_with "call ref" => (k_here; (with_reducible show wpAny _ _ (call (Value.ref 441) [_, _, _]) _ _ _); (refine of_stop ?_)))
  (k_with "compareOp In str ref" => (k_here; (refine of_stop ?_)))
  (k_with "getAttr ref" => (k_here; (rename MsgAt _ _ _ => ms8); k_dflt (refine' read_msg ?X_r152 ?he_r152 ms8 ?_; (case X_r152 => exact mnIn (by assumption) (by assumption)); (case he_r152 => assumption)); intro t8))
  trivial
theorem law_try {Ix Dx Lx Ii Di W De Db Du : Addr} {oX oD : Obj} {av : Value} {q : Option (Str × Addr × Addr)} {ys zs us : List Value} {nx n1 n2 n3 kW : Nat} {R : List (Addr × Obj)} {ds bs : List D} {rs : List (Option D)}
    (X₀ : (hd.heap_1 w.params).In h₀) (T : Top pv loose mean mg mb h₀) (B : Below callerA {} [] h₀) (F : Fr h₀ L s.heap m) (N : News h₀ L s.heap R)
    (mx : m (S "x") = some (.ref Ix)) (mi : m (S "interp") = some (.ref Ii)) (mbs : m (S "bases") = some (.ref Db)) (mdu : m (S "due") = some (.ref Du)) (mm : m (S "message") = none)
    (hX : VecD w "double" Lx av oX) (hD : InterpD w W oD) (rIx : (Ix, instObj 92 Dx) ∈ R) (rDx : (Dx, oX) ∈ R) (rLx : (Lx, listOf ys.toArray nx) ∈ R) (rIi : (Ii, instObj 654 Di) ∈ R) (rDi : (Di, oD) ∈ R) (rW : (W, listOf #[] kW) ∈ R)
    (dx : DAll h₀ R ys ds) (db : DAll h₀ R zs bs) (ex : ∀ d ∈ ds, Ent d) (eb : ∀ d ∈ bs, Ent d) (h4 : ds.length ≤ 4) (h2 : 0 < bs.length ∧ bs.length ≤ 2) (neLW : @Ne Nat Lx W)
    (rDb : (Db, listOf zs.toArray n2) ∈ R) (hA : AttrsR w R Ii Di W av q) (nz : zs.length ≤ 4096) (gl : Value) (hG : lookIn (S "globals") oD = some (some gl)) (hgl : handedIn gl = true)
    (rDu : (Du, listOf us.toArray n3) ∈ R) (ou : OAll h₀ R us rs) (hrs : ∀ i r, rs[i]? = some r → Spec (atD ds i) (atD bs i) r) (hrl : rs.length = (if ds.length = 0 then 0 else max ds.length bs.length)) (kT : ∀ (h : Heap) (tk : Nat), h₀.StaysIn h → Q (.ret (.bool true)) { s with heap := h, toks := tk })
    (k : ∀ (Z : List (Addr × Obj)) (Ir Dr Fd Dh : Addr) (oDr oD' oh : Obj) (av' : Value) (us' : List Value) (rs' : List D) (n : Nat) (h' : Heap) (tk : Nat), Fr h₀ L h' (fun y => if y = S "told" then some (.ref Ir) else if y = S "held" then some (.ref Dh) else if y = S "x" then some (.ref Ix) else if y = S "interp" then some (.ref Ii) else if y = S "bases" then some (.ref Db) else if y = S "due" then some (.ref Du) else m y) →
      News h₀ L h' Z → (Ir, instObj 92 Dr) ∈ Z → (Dr, oDr) ∈ Z → VecD w "double" Fd av' oDr → (Fd, listOf us'.toArray n) ∈ Z → (Di, oD') ∈ Z → InterpD w W oD' → WarnsZ h₀ Z W (Fresh ds bs (rs'.map some) rs'.length) → DAll h₀ Z us' rs' →
      AttrsZ w Z av' (if rs'.length = ds.length then q else none) → AttrsZ w Z av q → (Dh, oh) ∈ Z → oh.IsDictOf (PySem.strKind PG w) (seenOf q) → (Dh == sysModules) = false → (∀ p ∈ R, p.1 ≠ Di → p.1 ≠ W → p ∈ Z) → rs'.length = (if ds.length = 0 then 0 else max ds.length bs.length) → (∀ j d, rs'[j]? = some d → Spec (atD ds j) (atD bs j) (some d)) →
      wpAny (model PG w) (callerA.deeper (envLaw L fa cd)) (execs (lawBody.drop 16) (envLaw L fa cd)) Q (fun _ _ => False) { s with heap := h', toks := tk }) :
    wpAny (model PG w) (callerA.deeper (envLaw L fa cd)) (execs (lawBody.drop 14) (envLaw L fa cd)) Q (fun _ _ => False) s := by
  refine as_cons (show lawBody.drop 14 = _ :: _ :: lawBody.drop 16 by with_unfolding_all rfl) ?_
  generalize lawBody.drop 16 = rest at k ⊢
  have F1 := Fr.see (x := S "x") (v := .ref Ix) (Fr.see (x := S "interp") (v := .ref Ii) (Fr.see (x := S "bases") (v := .ref Db) (Fr.see F mdu) (by rw [if_neg (by decide +kernel)]; exact mbs)) (by rw [if_neg (by decide +kernel), if_neg (by decide +kernel)]; exact mi)) (by rw [if_neg (by decide +kernel), if_neg (by decide +kernel), if_neg (by decide +kernel)]; exact mx)
  clear F
  w_top off
  w_strict k_steps
  all_goals (unfold Stop; rename Fr _ _ _ _ => Fz; rename News _ _ _ _ => Nz)
  have has := hX.has (Nz _ rIx).1 (Nz _ rDx).1
  refine c_seen X₀ T B Fz has.2.1 (hA _ fun p hp _ _ _ => (Nz p hp).1) ?_
  intro Dh h' tk hD0 lD hDo st
  obtain ⟨oh, ho, hdh⟩ := Heap.dictOf_iff.mp hDo
  obtain ⟨F2, N2, _⟩ := ledger_add Fz Nz st hD0 ho
  have hDh : ∀ p ∈ R, p.1 ≠ Dh := fun p hp e => by
    have := (Nz p hp).1
    rw [e, hD0] at this; cases this
  clear Fz Nz has hDo ho st hD0
  try dsimp only
  w_strict k_steps
  all_goals (unfold Stop; rename Fr _ _ _ _ => Fz; rename News _ _ _ _ => Nz)
  have hA1 : AttrsR w ((Dh, oh) :: R) Ii Di W av q := fun g hg => hA g fun p hp => hg p (.tail _ hp)
  have iD0 := hD
  refine' law_call (R := (Dh, oh) :: R) X₀ T B Fz Nz (List.forall_mem_cons.mpr ⟨?a1, ?a2⟩) ?c1 ?c2 ?c3 ?c4 ?c5 hX ?hv iD0 (.tail _ rIx) (.tail _ rDx) (.tail _ rLx) (.tail _ rIi) (.tail _ rDi) (.tail _ rW) (dx.mono fun p hp => .tail _ hp) (db.mono fun p hp => .tail _ hp) ex eb h4 h2 neLW hA1 ?_ ?kE
  case hv => assumption
  case a1 => assumption
  case a2 => assumption
  case c1 => assumption
  case c2 => assumption
  case c3 => assumption
  case c4 => assumption
  case c5 => exact of_all (by assumption)
  · intro Ir Dr Fd oDr oD' av' us' rs' n h3 tk3 F3 st3 iD gD wa gIr gDr vd gFd da at3 hl hs fr fA
    obtain ⟨Z, NZ, m1, m2, m3, m4, wz, dz, az, ax, rz⟩ := law_left (R := (Dh, oh) :: R) Fz (newsSub Nz fun p hp => sub6 hp) F3 st3 (.tail _ rDi) (.tail _ rW) gD wa gIr gDr gFd fr fA da at3 hA1
    clear Fz Nz gD wa gIr gDr gFd da at3 st3 fr fA
    try dsimp only
    w_strict k_steps
    (rename Fr _ _ _ _ => F5; rename News _ _ _ _ => N5)
    exact k Z Ir Dr Fd Dh oDr oD' oh av' us' rs' n _ _ F5 N5 m1 m2 vd m3 m4 iD wz dz az ax (rz (Dh, oh) (.head _) (Ne.symm (hDh _ rDi)) (Ne.symm (hDh _ rW))) hdh lD (fun p hp => rz p (.tail _ hp)) hl hs
  · rintro ⟨i, hi, sp⟩ e h5 tk5 z
    refine caught_rz (msg := rmsg) rfl rfl rfl X₀ Fz Nz z ?hmm ?hlo ?hk ?hev ?_
    case hmm => rw [if_neg (by decide +kernel), if_neg (by decide +kernel), if_neg (by decide +kernel), if_neg (by decide +kernel), if_neg (by decide +kernel)]; exact mm
    case hlo => rfl
    case hk => rfl
    case hev =>
      intro A' Q' E' s' F6 hq
      clear Fz Nz
      have N6 := mnNil F6
      w_strict k_steps
      exact hq
    intro h6 dx6 sl vs E' F6 N6 he ms
    clear Fz Nz z
    refine wpAny_mono (Q := SuiteT h₀ L s) ?_ (fun f s₄ hf => by obtain ⟨rfl, hm, h0, h, tk, rfl⟩ := hf; exact ⟨hm, h0, fun h tk hk => kT _ _ hk⟩) (fun _ _ h => h)
    w_strict k_steps
    all_goals (unfold Stop; rename Fr _ _ _ _ => Fz; rename News _ _ _ _ => Nz)
    have hnn : none ∈ rs := refused_in eb h2.1 (by rw [hrl]; exact hi) hrs sp
    refine mnInL (r := none) (LAt.of ou Fz Nz (fun p hp => sub6 (.tail _ hp)) (sub6 (.tail _ rDu)) rfl rfl) ⟨_, rfl⟩ (by walk_at "mine un") ?_
    rw [decide_eq_true hnn]
    w_strict k_steps
    all_goals (rename Fr _ _ _ _ => F7)
    exact ⟨rfl, ⟨_, F7.ns⟩, F7.keep, _, _, rfl⟩
end

/-! The law's end: statements 16 to 19. -/
theorem row_first {prog : Program} {w : World} {A : Around} {E : Value → Shared → Prop} {s : Shared} {value slice : PySem.Expr} {t : Addr} {a b : Value} {u : Tok} {Q : Value → Shared → Prop} (ht : IsTup s.heap t #[a, b]) (h : Q a s)
    (hs : subscripted slice false (.ref t) (.int 0 u) = operate [.ref t, .int 0 u] (getItem (.ref t) (.int 0 u))) (hg : ∀ r, letTemporaryGo value (.ref t) r = pure ()) :
    wpAny (model prog w) A (subscriptTail value slice (.ref t) (.int 0 u)) Q E s := by
  exact item_tuple (j := 0) (x := a) ht (by decide) (by decide) rfl rfl h hs hg
open PySem.Spec in
theorem ne_one {prog : Program} {w : World} {A : Around} {E : Value → Shared → Prop} {s : Shared} {h₀ : Heap} {L a b : Addr} {o o' : Obj} {t u : Tok} {k k' : Nat} {news : List (Addr × Obj)} {Q : Value → Shared → Prop} (N : News h₀ L s.heap news) (ha : (a, o) ∈ news) (hb : (b, o') ∈ news) (hc : o.cls = .type "list") (hd : o.data = .seq #[.str (S "NaNs produced") t] k) (hc' : o'.cls = .type "list") (hd' : o'.data = .seq #[.str (S "NaNs produced") u] k') (hA : A.units + 64 < cLine) (h : Q (.bool false) s) : wpAny (model prog w) A (compareOp .NotEq (.ref a) (.ref b)) Q E s := by
  have ra := reads_list_at (N.get ha) hc hd (.cons (Reads.str (S "NaNs produced") t) .nil)
  have rb := reads_list_at (N.get hb) hc' hd' (.cons (Reads.str (S "NaNs produced") u) .nil)
  refine ne_dataH ra rb (by decide +kernel) (by decide +kernel) hA ?_
  have e : PyData.eqv (.list [.str (S "NaNs produced")]) (.list [.str (S "NaNs produced")]) = true := by decide +kernel
  rw [e]; exact h
section
variable {w : World} {s : Shared} {Q : Flow → Shared → Prop} {pv : Program} {loose : List Str} {mean : ExcName → Option Value} {mg mb : Str → Option Value} {h₀ : Heap} {L fa : Addr} {m : Str → Option Value} {cd : Value}
theorem said_58 : True := by
  (k_with "compareOp NotEq ref ref" => (k_here; (refine of_stop ?_)))
  (k_with "compareOp Eq ref ref" => (k_here; (refine of_stop ?_)))
  (k_with "subscriptTail" => (k_here; (with_reducible show wpAny _ _ (subscriptTail _ _ (Value.ref _) (Value.int _ _)) _ _ _); (rename Fr _ _ _ _ => F8); (rename News _ _ _ _ => N8); (rename ∀ g : Heap, _ → _ → IsTup g _ _ => i8); k_dflt (refine' row_first (i8 _ F8.keep fun p hp => (N8 p (by walk_at "mine in")).1) ?_ ?hs_r155 ?hg_r155; (case hs_r155 => with_unfolding_all rfl); (case hg_r155 => (intro _; with_unfolding_all rfl)))))
  (k_with "CompEnd" => (k_here; (rename Fr _ _ _ _ => F8); (rename News _ _ _ _ => N8); (rename LCg.Off3 _ _ _ _ => o8); k_dflt (refine LCg.CompEnd.intro F8 N8 _ ?sub_r156 o8 ?hS_r156 ?_; (case sub_r156 => first | exact fun _ h => h | lcg_sub); (case hS_r156 => first | exact trivial | lcg_src))))
  trivial
theorem Fr.see4 {h : Heap} {Ir Dh Ix Ii Db Du De : Addr} {b : Bool} {c : Int} {tc : Tok} (F : Fr h₀ L h (fun y => if y = S "told" then some (.ref Ir) else if y = S "held" then some (.ref Dh) else if y = S "x" then some (.ref Ix) else if y = S "interp" then some (.ref Ii) else if y = S "bases" then some (.ref Db) else if y = S "due" then some (.ref Du) else m y)) (mf : m (S "fresh_nan") = some (.bool b)) (mc : m (S "count") = some (.int c tc)) (me : m (S "entries") = some (.ref De)) :
    Fr h₀ L h (fun y => if y = S "entries" then some (.ref De) else if y = S "count" then some (.int c tc) else if y = S "fresh_nan" then some (.bool b) else if y = S "told" then some (.ref Ir) else if y = S "held" then some (.ref Dh) else if y = S "x" then some (.ref Ix) else if y = S "interp" then some (.ref Ii) else if y = S "bases" then some (.ref Db) else if y = S "due" then some (.ref Du) else m y) := by
  refine Fr.see (Fr.see (Fr.see F ?_) ?_) ?_
  · iterate 6 rw [if_neg (by decide +kernel)]
    exact mf
  · iterate 7 rw [if_neg (by decide +kernel)]
    exact mc
  · iterate 8 rw [if_neg (by decide +kernel)]
    exact me
theorem law_end {Ix Dx Lx Ii Di W De Db Du Ir Dr Fd Dh : Addr} {oX oD oDr oh : Obj} {av av' : Value} {q : Option (Str × Addr × Addr)} {ys us us' : List Value} {nx ne n3 n : Nat} {Z : List (Addr × Obj)} {ds bs rs' : List D} {rs : List (Option D)} {c : Int} {tc : Tok} {eys : List Value}
    (X₀ : (hd.heap_1 w.params).In h₀) (T : Top pv loose mean mg mb h₀) (B : Below callerA {} [] h₀)
    (F : Fr h₀ L s.heap (fun y => if y = S "told" then some (.ref Ir) else if y = S "held" then some (.ref Dh) else if y = S "x" then some (.ref Ix) else if y = S "interp" then some (.ref Ii) else if y = S "bases" then some (.ref Db) else if y = S "due" then some (.ref Du) else m y)) (N : News h₀ L s.heap Z)
    (mf : m (S "fresh_nan") = some (.bool (Fresh ds bs rs rs.length))) (mc : m (S "count") = some (.int c tc)) (me : m (S "entries") = some (.ref De)) (hc : c = ds.length)
    (m1 : (Ir, instObj 92 Dr) ∈ Z) (m2 : (Dr, oDr) ∈ Z) (vd : VecD w "double" Fd av' oDr) (m3 : (Fd, listOf us'.toArray n) ∈ Z) (m4 : (Di, oD) ∈ Z) (iD : InterpD w W oD) (wz : WarnsZ h₀ Z W (Fresh ds bs (rs'.map some) rs'.length)) (dz : DAll h₀ Z us' rs')
    (az : AttrsZ w Z av' (if rs'.length = ds.length then q else none)) (ax : AttrsZ w Z av q) (mh : (Dh, oh) ∈ Z) (hdh : oh.IsDictOf (PySem.strKind PG w) (seenOf q)) (lD : (Dh == sysModules) = false)
    (rIi : (Ii, instObj 654 Di) ∈ Z) (rIx : (Ix, instObj 92 Dx) ∈ Z) (rDx : (Dx, oX) ∈ Z) (hX : VecD w "double" Lx av oX) (rLx : (Lx, listOf ys.toArray nx) ∈ Z) (rDe : (De, listOf eys.toArray ne) ∈ Z) (rDu : (Du, listOf us.toArray n3) ∈ Z) (ou : OAll h₀ Z us rs) (dx : DAll h₀ Z ys ds) (de : DAll h₀ Z eys ds)
    (hrs : rs = rs'.map some)
    (k : ∀ (h' : Heap) (tk : Nat), Fr h₀ L h' (fun y => if y = S "entries" then some (.ref De) else if y = S "count" then some (.int c tc) else if y = S "fresh_nan" then some (.bool (Fresh ds bs (rs'.map some) rs'.length)) else if y = S "told" then some (.ref Ir) else if y = S "held" then some (.ref Dh) else if y = S "x" then some (.ref Ix) else if y = S "interp" then some (.ref Ii) else if y = S "bases" then some (.ref Db) else if y = S "due" then some (.ref Du) else m y) → News h₀ L h' Z →
      wpAny (model PG w) (callerA.deeper (envLaw L fa cd)) (execs (lawBody.drop 18) (envLaw L fa cd)) Q (fun _ _ => False) { s with heap := h', toks := tk }) :
    wpAny (model PG w) (callerA.deeper (envLaw L fa cd)) (execs (lawBody.drop 16) (envLaw L fa cd)) Q (fun _ _ => False) s := by
  subst hrs
  rw [List.length_map] at mf
  have F := Fr.see4 F mf mc me
  refine as_cons (show lawBody.drop 16 = _ :: _ :: lawBody.drop 18 by with_unfolding_all rfl) ?_
  generalize lawBody.drop 18 = rest at k ⊢
  have lw := iD.look.1
  obtain ⟨tv, kv, iv, _⟩ := vd.look
  w_top off
  w_strict k_steps
  all_goals (unfold Stop; rename Fr _ _ _ _ => Fz; rename News _ _ _ _ => Nz)
  have hnn : ¬ none ∈ rs'.map some := by simp
  refine mnInL (r := none) (LAt.of ou Fz Nz (fun p hp => hp) rDu rfl rfl) ⟨_, rfl⟩ (by walk_at "mine un") ?_
  rw [decide_eq_false hnn]
  w_strict k_steps
  all_goals (unfold Stop; rename Fr _ _ _ _ => Fz; rename News _ _ _ _ => Nz)
  refine mnNeL (LAt.ofD dz Fz Nz (fun p hp => hp) m3 rfl rfl) (LAt.of ou Fz Nz (fun p hp => hp) rDu rfl rfl) (by walk_at "mine un") ?_
  rw [decide_eq_true rfl]
  obtain ⟨nW, hw⟩ := wz
  cases hb : Fresh ds bs (rs'.map some) rs'.length
  · rw [hb, if_neg (by simp)] at hw
    have N2 : News h₀ L _ ((W, listOf #[] nW) :: Z) := newsSub Nz (List.forall_mem_cons.mpr ⟨hw, fun _ h => h⟩)
    clear Nz
    w_strict k_steps
    all_goals (unfold Stop; rename Fr _ _ _ _ => Fz; rename News _ _ _ _ => Nz)
    refine mnNeL (rs := []) (qs := []) (LAt.of (Y := []) OAll.nil Fz Nz (fun _ h => (by cases h)) (.tail _ (.head _)) rfl rfl) (LAt.of (Y := []) OAll.nil Fz Nz (fun _ h => (by cases h)) (.head _) rfl rfl) (by walk_at "mine un") ?_
    rw [decide_eq_true rfl]
    w_strict k_steps
    all_goals (rename Fr _ _ _ _ => F9; rename News _ _ _ _ => N9)
    exact k _ _ F9 (newsSub N9 fun p hp => by walk_at "mine in")
  · rw [hb, if_pos rfl] at hw
    obtain ⟨Tw, tw, hw, iT⟩ := hw
    have N2 : News h₀ L _ ((W, listOf #[.ref Tw] nW) :: Z) := newsSub Nz (List.forall_mem_cons.mpr ⟨hw, fun _ h => h⟩)
    clear Nz
    w_strict k_steps
    all_goals (unfold Stop; rename Fr _ _ _ _ => Fz; rename News _ _ _ _ => Nz)
    refine ne_one Nz (.tail _ (.head _)) (.head _) rfl rfl rfl rfl (by walk_at "mine un") ?_
    w_strict k_steps
    all_goals (rename Fr _ _ _ _ => F9; rename News _ _ _ _ => N9)
    exact k _ _ F9 (newsSub N9 fun p hp => by walk_at "mine in")
end

/-! The law's last two statements. -/
theorem seen_hits {A : Around} {s : Shared} (q : Option (Str × Addr × Addr)) : KeqHits A s (seenOf q) (seenOf q) true := by
  rcases q with _ | ⟨key, V, Lv⟩
  · exact .nil
  · refine (show KeqHits A s (seenOf (some (key, V, Lv))) [(key, .ref Lv)] (true && true) from .hit (y := .ref Lv) ?_ (SeqAt.EqAt.same _) .nil)
    show valueAt [(key, Value.ref Lv)] key = _
    unfold valueAt
    rw [List.find?_cons_of_pos (by exact decide_eq_true rfl)]; rfl
section
variable {prog : Program} {w : World} {A : Around} {E : Value → Shared → Prop} {s : Shared} {h₀ : Heap} {L a b : Addr} {oa ob : Obj} {news : List (Addr × Obj)} {Q : Value → Shared → Prop} {q : Option (Str × Addr × Addr)}
theorem ne_seen (N : News h₀ L s.heap news) (pa : (a, oa) ∈ news) (pb : (b, ob) ∈ news) (da : oa.IsDictOf (PySem.strKind prog w) (seenOf q)) (db : ob.IsDictOf (PySem.strKind prog w) (seenOf q)) (la : (a == sysModules) = false) (lb : (b == sysModules) = false) (hu : A.units < cLine) (h : Q (.bool false) s) : wpAny (model prog w) A (compareOp .NotEq (.ref a) (.ref b)) Q E s :=
  kne_pairs N pa pb da db la lb rfl hu (seen_hits q) h
theorem eq_seen (N : News h₀ L s.heap news) (pa : (a, oa) ∈ news) (pb : (b, ob) ∈ news) (da : oa.IsDictOf (PySem.strKind prog w) (seenOf q)) (db : ob.IsDictOf (PySem.strKind prog w) (seenOf q)) (la : (a == sysModules) = false) (lb : (b == sysModules) = false) (hu : A.units < cLine) (h : Q (.bool true) s) : wpAny (model prog w) A (compareOp .Eq (.ref a) (.ref b)) Q E s :=
  keq_pairs N pa pb da db la lb rfl hu (seen_hits q) h
end
section
variable {w : World} {s : Shared} {Q : Flow → Shared → Prop} {pv : Program} {loose : List Str} {mean : ExcName → Option Value} {mg mb : Str → Option Value} {h₀ : Heap} {L fa : Addr} {m : Str → Option Value} {cd : Value}
theorem law_last {Ix Dx Lx Ii Di W De Db Du Ir Dr Fd Dh : Addr} {oX oDr oh : Obj} {av av' : Value} {q : Option (Str × Addr × Addr)} {ys us us' eys : List Value} {nx ne n3 n : Nat} {Z : List (Addr × Obj)} {ds bs rs' : List D} {rs : List (Option D)} {c : Int} {tc : Tok} {b : Bool}
    (X₀ : (hd.heap_1 w.params).In h₀) (T : Top pv loose mean mg mb h₀) (B : Below callerA {} [] h₀)
    (F : Fr h₀ L s.heap (fun y => if y = S "entries" then some (.ref De) else if y = S "count" then some (.int c tc) else if y = S "fresh_nan" then some (.bool b) else if y = S "told" then some (.ref Ir) else if y = S "held" then some (.ref Dh) else if y = S "x" then some (.ref Ix) else if y = S "interp" then some (.ref Ii) else if y = S "bases" then some (.ref Db) else if y = S "due" then some (.ref Du) else m y)) (N : News h₀ L s.heap Z) (hc : c = ds.length)
    (m1 : (Ir, instObj 92 Dr) ∈ Z) (m2 : (Dr, oDr) ∈ Z) (vd : VecD w "double" Fd av' oDr)
    (az : AttrsZ w Z av' (if rs'.length = ds.length then q else none)) (ax : AttrsZ w Z av q) (mh : (Dh, oh) ∈ Z) (hdh : oh.IsDictOf (PySem.strKind PG w) (seenOf q)) (lD : (Dh == sysModules) = false)
    (rIx : (Ix, instObj 92 Dx) ∈ Z) (rDx : (Dx, oX) ∈ Z) (hX : VecD w "double" Lx av oX) (rLx : (Lx, listOf ys.toArray nx) ∈ Z) (rDe : (De, listOf eys.toArray ne) ∈ Z) (rDu : (Du, listOf us.toArray n3) ∈ Z) (ou : OAll h₀ Z us rs) (dx : DAll h₀ Z ys ds) (de : DAll h₀ Z eys ds)
    (hrs : rs = rs'.map some) (hl : rs'.length ≤ 4) (k : ∀ (h' : Heap) (tk : Nat), Fr h₀ L h' (fun y => if y = S "entries" then some (.ref De) else if y = S "count" then some (.int c tc) else if y = S "fresh_nan" then some (.bool b) else if y = S "told" then some (.ref Ir) else if y = S "held" then some (.ref Dh) else if y = S "x" then some (.ref Ix) else if y = S "interp" then some (.ref Ii) else if y = S "bases" then some (.ref Db) else if y = S "due" then some (.ref Du) else m y) → News h₀ L h' Z →
      wpAny (model PG w) (callerA.deeper (envLaw L fa cd)) (execs (lawBody.drop 19) (envLaw L fa cd)) Q (fun _ _ => False) { s with heap := h', toks := tk }) :
    wpAny (model PG w) (callerA.deeper (envLaw L fa cd)) (execs (lawBody.drop 18) (envLaw L fa cd)) Q (fun _ _ => False) s := by
  refine as_cons (show lawBody.drop 18 = _ :: lawBody.drop 19 by with_unfolding_all rfl) ?_
  generalize lawBody.drop 19 = rest at k ⊢
  have hul : us.length ≤ 4096 := by have := ou.length; rw [hrs, List.length_map] at this; omega
  w_top off
  w_strict k_steps
  all_goals (unfold Stop; rename Fr _ _ _ _ => Fz; rename News _ _ _ _ => Nz)
  have hasR := vd.has (Nz _ m1).1 (Nz _ m2).1
  refine c_seen X₀ T B Fz hasR.2.1 (az _ fun p hp => (Nz p hp).1) ?_
  intro Dt h' tk hD0 lT hDo st
  obtain ⟨ot, ho, hdt⟩ := Heap.dictOf_iff.mp hDo
  obtain ⟨F2, N2, _⟩ := ledger_add Fz Nz st hD0 ho
  clear Fz Nz hasR hDo ho st hD0
  try dsimp only
  w_strict k_steps
  all_goals (unfold Stop; rename Fr _ _ _ _ => Fz; rename News _ _ _ _ => Nz)
  · rw [if_pos (by have := ou.length; rw [hrs, List.length_map] at this; omega)] at hdt
    refine ne_seen Nz (.head _) (.tail _ mh) hdt hdh lT lD (by walk_at "mine un") ?_
    w_strict k_steps
    all_goals (rename Fr _ _ _ _ => F9; rename News _ _ _ _ => N9)
    exact k _ _ F9 (newsSub N9 fun p hp => by walk_at "mine in")
  · rw [if_neg (by have := ou.length; rw [hrs, List.length_map] at this; omega)] at hdt
    refine ne_seen (q := none) Nz (.tail _ (.head _)) (.head _) hdt (by assumption) lT (by assumption) (by walk_at "mine un") ?_
    w_strict k_steps
    all_goals (rename Fr _ _ _ _ => F9; rename News _ _ _ _ => N9)
    exact k _ _ F9 (newsSub N9 fun p hp => by walk_at "mine in")
end

/-! The law's return. -/
section
variable {w : World} {s : Shared} {Q : Flow → Shared → Prop} {pv : Program} {loose : List Str} {mean : ExcName → Option Value} {mg mb : Str → Option Value} {h₀ : Heap} {L fa : Addr} {m : Str → Option Value} {cd : Value}
theorem law_ret {Ix Dx Lx Ii Db Du De Ir Dh : Addr} {oX oh : Obj} {av : Value} {q : Option (Str × Addr × Addr)} {ys eys : List Value} {nx ne : Nat} {Z : List (Addr × Obj)} {ds : List D} {c : Int} {tc : Tok} {b : Bool}
    (X₀ : (hd.heap_1 w.params).In h₀) (T : Top pv loose mean mg mb h₀) (B : Below callerA {} [] h₀)
    (F : Fr h₀ L s.heap (fun y => if y = S "entries" then some (.ref De) else if y = S "count" then some (.int c tc) else if y = S "fresh_nan" then some (.bool b) else if y = S "told" then some (.ref Ir) else if y = S "held" then some (.ref Dh) else if y = S "x" then some (.ref Ix) else if y = S "interp" then some (.ref Ii) else if y = S "bases" then some (.ref Db) else if y = S "due" then some (.ref Du) else m y)) (N : News h₀ L s.heap Z)
    (ax : AttrsZ w Z av q) (mh : (Dh, oh) ∈ Z) (hdh : oh.IsDictOf (PySem.strKind PG w) (seenOf q)) (lD : (Dh == sysModules) = false)
    (rIx : (Ix, instObj 92 Dx) ∈ Z) (rDx : (Dx, oX) ∈ Z) (hX : VecD w "double" Lx av oX) (rLx : (Lx, listOf ys.toArray nx) ∈ Z) (rDe : (De, listOf eys.toArray ne) ∈ Z) (dx : DAll h₀ Z ys ds) (de : DAll h₀ Z eys ds)
    (kT : ∀ (h : Heap) (tk : Nat), h₀.StaysIn h → Q (.ret (.bool true)) { s with heap := h, toks := tk }) :
    wpAny (model PG w) (callerA.deeper (envLaw L fa cd)) (execs (lawBody.drop 19) (envLaw L fa cd)) Q (fun _ _ => False) s := by
  refine as_cons (show lawBody.drop 19 = _ :: [] by with_unfolding_all rfl) ?_
  have hX' := hX
  obtain ⟨tv, kv, iv, _⟩ := hX.look
  w_top off
  w_strict k_steps
  all_goals (unfold Stop; rename Fr _ _ _ _ => Fz; rename News _ _ _ _ => Nz)
  refine mnEqL (LAt.ofD dx Fz Nz (fun p hp => hp) rLx rfl rfl) (LAt.ofD de Fz Nz (fun p hp => hp) rDe rfl rfl) (by walk_at "mine un") ?_
  rw [decide_eq_true rfl]
  w_strict k_steps
  all_goals (unfold Stop; rename Fr _ _ _ _ => Fz; rename News _ _ _ _ => Nz)
  have has := hX'.has (Nz _ rIx).1 (Nz _ rDx).1
  refine c_seen X₀ T B Fz has.2.1 (ax _ fun p hp => (Nz p hp).1) ?_
  intro Dt h' tk hD0 lT hDo st
  obtain ⟨ot, ho, hdt⟩ := Heap.dictOf_iff.mp hDo
  obtain ⟨F2, N2, _⟩ := ledger_add Fz Nz st hD0 ho
  clear Fz Nz has hDo ho st hD0
  try dsimp only
  w_strict k_steps
  all_goals (unfold Stop; rename Fr _ _ _ _ => Fz; rename News _ _ _ _ => Nz)
  refine eq_seen Nz (.head _) (.tail _ mh) hdt hdh lT lD (by walk_at "mine un") ?_
  try dsimp only
  w_strict k_steps
  all_goals (rename Fr _ _ _ _ => F7)
  all_goals exact kT _ _ F7.keep
end

/-! The law's tail, statements 14 to 19. -/
theorem DIn.toZ {h₀ : Heap} {R Z : List (Addr × Obj)} {v : Value} {d : D} (x : DIn h₀ R v d) (k : ∀ p ∈ R, p.2.cls = .type "tuple" → p ∈ Z) : DIn h₀ Z v d := by
  cases d with
  | none => exact x
  | some y =>
    obtain ⟨c, t1, t2, e, i | ⟨o, hm, hc, r⟩⟩ := x
    · exact ⟨c, t1, t2, e, .inl i⟩
    · exact ⟨c, t1, t2, e, .inr ⟨o, k _ hm hc, hc, r⟩⟩
theorem DAll.toZ {h₀ : Heap} {R Z : List (Addr × Obj)} {vs : List Value} {ds : List D} (x : DAll h₀ R vs ds) (k : ∀ p ∈ R, p.2.cls = .type "tuple" → p ∈ Z) : DAll h₀ Z vs ds := by
  induction x with
  | nil => exact .nil
  | cons a _ ih => exact .cons (a.toZ k) ih
theorem OAll.toZ {h₀ : Heap} {R Z : List (Addr × Obj)} {vs : List Value} {rs : List (Option D)} (x : OAll h₀ R vs rs) (k : ∀ p ∈ R, p.2.cls = .type "tuple" → p ∈ Z) : OAll h₀ Z vs rs := by
  induction x with
  | nil => exact .nil
  | @cons v r vs rs a _ ih =>
    refine .cons ?_ ih
    cases r with
    | none => exact a
    | some d => exact DIn.toZ a k
section
variable {w : World} {s : Shared} {Q : Flow → Shared → Prop} {pv : Program} {loose : List Str} {mean : ExcName → Option Value} {mg mb : Str → Option Value} {h₀ : Heap} {L fa : Addr} {m : Str → Option Value} {cd : Value}
theorem law_tail {Ix Dx Lx Ii Di W De Db Du : Addr} {oX oD : Obj} {av : Value} {q : Option (Str × Addr × Addr)} {ys zs us eys : List Value} {nx n2 n3 ne kW : Nat} {R : List (Addr × Obj)} {ds bs : List D} {rs : List (Option D)} {c : Int} {tc : Tok}
    (X₀ : (hd.heap_1 w.params).In h₀) (T : Top pv loose mean mg mb h₀) (B : Below callerA {} [] h₀) (F : Fr h₀ L s.heap m) (N : News h₀ L s.heap R)
    (mx : m (S "x") = some (.ref Ix)) (mi : m (S "interp") = some (.ref Ii)) (mbs : m (S "bases") = some (.ref Db)) (mdu : m (S "due") = some (.ref Du)) (mm : m (S "message") = none) (mf : m (S "fresh_nan") = some (.bool (Fresh ds bs rs rs.length))) (mc : m (S "count") = some (.int c tc)) (me : m (S "entries") = some (.ref De)) (hc : c = ds.length)
    (hX : VecD w "double" Lx av oX) (hD : InterpD w W oD) (rIx : (Ix, instObj 92 Dx) ∈ R) (rDx : (Dx, oX) ∈ R) (rLx : (Lx, listOf ys.toArray nx) ∈ R) (rIi : (Ii, instObj 654 Di) ∈ R) (rDi : (Di, oD) ∈ R) (rW : (W, listOf #[] kW) ∈ R)
    (dx : DAll h₀ R ys ds) (de : DAll h₀ R eys ds) (db : DAll h₀ R zs bs) (ex : ∀ d ∈ ds, Ent d) (eb : ∀ d ∈ bs, Ent d) (h4 : ds.length ≤ 4) (h2 : 0 < bs.length ∧ bs.length ≤ 2) (neLW : @Ne Nat Lx W) (neEW : @Ne Nat De W) (neUW : @Ne Nat Du W)
    (rDb : (Db, listOf zs.toArray n2) ∈ R) (rDe : (De, listOf eys.toArray ne) ∈ R) (hA : AttrsR w R Ii Di W av q) (gl : Value) (hG : lookIn (S "globals") oD = some (some gl)) (hgl : handedIn gl = true)
    (rDu : (Du, listOf us.toArray n3) ∈ R) (ou : OAll h₀ R us rs) (hrs : ∀ i r, rs[i]? = some r → Spec (atD ds i) (atD bs i) r) (hrl : rs.length = (if ds.length = 0 then 0 else max ds.length bs.length)) (kT : ∀ (h : Heap) (tk : Nat), h₀.StaysIn h → Q (.ret (.bool true)) { s with heap := h, toks := tk }) :
    wpAny (model PG w) (callerA.deeper (envLaw L fa cd)) (execs (lawBody.drop 14) (envLaw L fa cd)) Q (fun _ _ => False) s := by
  have hlz := db.length
  refine law_try (De := De) (n1 := 0) (us := us) (rs := rs) X₀ T B F N mx mi mbs mdu mm hX hD rIx rDx rLx rIi rDi rW dx db ex eb h4 h2 neLW rDb hA (by walk_at "mine om") gl hG hgl rDu ou hrs hrl kT ?_
  intro Z Ir Dr Fd Dh oDr oD' oh av' us' rs' n h' tk F1 N1 m1 m2 vd m3 m4 iD wz dz az ax mh hdh lD rz hl hs
  have e : rs = rs'.map some := agree eb h2.1 (by rw [hrl, hl]) hrs hs
  have tz : ∀ p ∈ R, p.2.cls = .type "tuple" → p ∈ Z := fun p hp hcl => rz p hp (news_ne (o := p.2) N hp rDi (by rw [hcl, hD.cls]; simp)) (news_ne (o := p.2) N hp rW (by rw [hcl]; simp))
  have zIx := rz _ rIx (news_ne N rIx rDi (by rw [hD.cls]; simp)) (news_ne N rIx rW (by simp))
  have zDx := rz _ rDx (news_neO N rDx rDi (vec_interp hX hD)) (news_ne N rDx rW (by rw [hX.cls]; simp))
  have zLx := rz _ rLx (news_ne N rLx rDi (by rw [hD.cls]; simp)) neLW
  have zIi := rz _ rIi (news_ne N rIi rDi (by rw [hD.cls]; simp)) (news_ne N rIi rW (by simp))
  have zDe := rz _ rDe (news_ne N rDe rDi (by rw [hD.cls]; simp)) neEW
  have zDu := rz _ rDu (news_ne N rDu rDi (by rw [hD.cls]; simp)) neUW
  have ouZ := ou.toZ tz
  have hl4 : rs'.length ≤ 4 := by rw [hl]; exact cnt_4 h4 (by assumption)
  refine law_end (s := { s with heap := h', toks := tk }) X₀ T B F1 N1 mf mc me hc m1 m2 vd m3 m4 iD wz dz az ax mh hdh lD zIi zIx zDx hX zLx zDe zDu ouZ (dx.toZ tz) (de.toZ tz) e ?_
  intro h3 tk3 F3 N3
  refine law_last (bs := bs) (n := 0) (us' := []) (W := W) (Di := Di) (s := { s with heap := h3, toks := tk3 }) X₀ T B F3 N3 hc m1 m2 vd az ax mh hdh lD zIx zDx hX zLx zDe zDu ouZ (dx.toZ tz) (de.toZ tz) e hl4 ?_
  intro h5 tk5 F5 N5
  exact law_ret (s := { s with heap := h5, toks := tk5 }) X₀ T B F5 N5 ax mh hdh lD zIx zDx hX zLx zDe (dx.toZ tz) (de.toZ tz) (fun h tk hk => kT h tk hk)
end

/-! The law from its due loop on, statements 11 to 19. -/
section
variable {w : World} {s : Shared} {Q : Flow → Shared → Prop} {pv : Program} {loose : List Str} {mean : ExcName → Option Value} {mg mb : Str → Option Value} {h₀ : Heap} {L fa : Addr} {u : Str → Option Value} {cd : Value}
theorem law_mid {Ix Dx Lx Ii Di W De Db Du : Addr} {oX oD : Obj} {av : Value} {q : Option (Str × Addr × Addr)} {ys zs eys : List Value} {nx n2 n3 ne kW : Nat} {R : List (Addr × Obj)} {ds bs : List D} {c : Int} {tc : Tok}
    (X₀ : (hd.heap_1 w.params).In h₀) (T : Top pv loose mean mg mb h₀) (B : Below callerA {} [] h₀) (F : Fr h₀ L s.heap (mD Du Db De c tc u)) (N : News h₀ L s.heap ((Du, listOf #[] n3) :: R))
    (ux : u (S "x") = some (.ref Ix)) (ui : u (S "interp") = some (.ref Ii)) (um : u (S "message") = none) (hc : c = ds.length) (hu : ∀ p ∈ R, p.1 ≠ Du) (hri : ∀ p ∈ R, p.2.cls ≠ .type "range_iterator")
    (hX : VecD w "double" Lx av oX) (hD : InterpD w W oD) (rIx : (Ix, instObj 92 Dx) ∈ R) (rDx : (Dx, oX) ∈ R) (rLx : (Lx, listOf ys.toArray nx) ∈ R) (rIi : (Ii, instObj 654 Di) ∈ R) (rDi : (Di, oD) ∈ R) (rW : (W, listOf #[] kW) ∈ R)
    (dx : DAll h₀ R ys ds) (de : DAll h₀ R eys ds) (db : DAll h₀ R zs bs) (ex : ∀ d ∈ ds, Ent d) (eb : ∀ d ∈ bs, Ent d) (h4 : ds.length ≤ 4) (h2 : 0 < bs.length ∧ bs.length ≤ 2) (neLW : @Ne Nat Lx W) (neEW : @Ne Nat De W)
    (rDb : (Db, listOf zs.toArray n2) ∈ R) (rDe : (De, listOf eys.toArray ne) ∈ R) (hA : AttrsR w R Ii Di W av q) (gl : Value) (hG : lookIn (S "globals") oD = some (some gl)) (hgl : handedIn gl = true)
    (kT : ∀ (h : Heap) (tk : Nat), h₀.StaysIn h → Q (.ret (.bool true)) { s with heap := h, toks := tk }) :
    wpAny (model PG w) (callerA.deeper (envLaw L fa cd)) (execs (lawBody.drop 11) (envLaw L fa cd)) Q (fun _ _ => False) s := by
  refine law_due X₀ T F N hu hri rDe rDb de db ex eb hc h4 h2 ?_
  intro us rs n Y v h' tk hl hs oa tY F1 N1
  have sub : ∀ p ∈ R, p ∈ (Du, listOf us.toArray n) :: (R ++ Y) := fun p hp => .tail _ (List.mem_append_left _ hp)
  have subY : ∀ p ∈ Y, p ∈ (Du, listOf us.toArray n) :: (R ++ Y) := fun p hp => .tail _ (List.mem_append_right _ hp)
  refine law_fresh (s := { s with heap := h', toks := tk }) X₀ T F1 N1 ?hr (sub _ rDe) (sub _ rDb) (List.Mem.head _) (de.mono sub) (db.mono sub) (oa.mono subY) hc h4 h2 hl ?_
  case hr =>
    intro p hp
    rcases List.mem_cons.mp hp with rfl | hp
    · simp
    · rcases List.mem_append.mp hp with hp | hp
      · exact hri p hp
      · rw [tY p hp]; simp
  intro v2 pr h2' tk2 F2 N2
  refine law_tail (tc := tc) (s := { s with heap := h2', toks := tk2 }) (R := (Du, listOf us.toArray n) :: (R ++ Y)) X₀ T B F2 N2 ?mx ?mi ?mbs ?mdu ?mm ?mf ?mc ?me hc hX hD (sub _ rIx) (sub _ rDx) (sub _ rLx) (sub _ rIi) (sub _ rDi) (sub _ rW) (dx.mono sub) (de.mono sub) (db.mono sub) ex eb h4 h2 neLW neEW (Ne.symm (hu _ rW)) (sub _ rDb) (sub _ rDe) (fun g hg => hA g fun p hp => hg p (sub p hp)) gl hG hgl (List.Mem.head _) (oa.mono subY) hs hl (fun h tk hk => kT h tk hk)
  all_goals dsimp only [mF, mD]
  all_goals (repeat (first | rw [if_neg (by decide +kernel)] | rw [if_pos rfl]))
  all_goals first | assumption | rfl
end

/-! The law's bases and its empty due: statements 9, 10, to the end. -/
@[reducible] def rootT (p q : Int) (t1 t2 : Tok) : Obj := { cls := .type "tuple", data := .seq #[.int p t1, .int q t2] }
theorem sub_mid4 {b c d e f p : Addr × Obj} {R : List (Addr × Obj)} (hp : p ∈ b :: R) : p ∈ b :: c :: d :: e :: f :: R := by
  rcases List.mem_cons.mp hp with rfl | hp
  · exact .head _
  · exact .tail _ (.tail _ (.tail _ (.tail _ (.tail _ hp))))
theorem lt_mid4 {a : Addr} {b c d e f : Addr × Obj} {R : List (Addr × Obj)} (h : ∀ p ∈ b :: c :: d :: e :: f :: R, p.1 < a) : ∀ p ∈ b :: R, p.1 ≠ a := fun p hp => Nat.ne_of_lt (h p (sub_mid4 hp))
theorem sub_mid5 {a b c d e f p : Addr × Obj} {R : List (Addr × Obj)} (hp : p ∈ a :: b :: R) : p ∈ a :: b :: c :: d :: e :: f :: R := by
  rcases List.mem_cons.mp hp with rfl | hp
  · exact .head _
  · exact .tail _ (sub_mid4 hp)
section
variable {w : World} {s : Shared} {Q : Flow → Shared → Prop} {pv : Program} {loose : List Str} {mean : ExcName → Option Value} {mg mb : Str → Option Value} {h₀ : Heap} {L fa : Addr} {m : Str → Option Value} {cd : Value}
theorem said_59 : True := by
  (k_with "CompEnd" => (k_here; k_dflt ((rename Fr _ _ _ _ => F8); (rename News _ _ _ _ => N8); (rename UpdF _ _ _ _ => U8); (with_unfolding_all refine' ent_end F8 N8 U8 ?off_r157 ?di_r157 ?en_r157 ?tE_r157 ?ne_r157 ?hI_r157 ?hC_r157 ?hX_r157 ?dY_r157 ?eY_r157 ?tY_r157 ?hi_r157 ?hl_r157 ?hS_r157 ?sub_r157); (case off_r157 => assumption); (case di_r157 => assumption); (case en_r157 => assumption); (case tE_r157 => assumption); (case ne_r157 => assumption); (case hI_r157 => k_memK); (case hC_r157 => k_memK); (case hX_r157 => k_memK); (case dY_r157 => assumption); (case eY_r157 => assumption); (case tY_r157 => assumption); (case hi_r157 => assumption); (case hl_r157 => assumption); (case hS_r157 => exact fun _ => trivial); (case sub_r157 => with_unfolding_all exact fun _ h => h))))
  trivial
theorem Fr.mD {h : Heap} {Du Db De : Addr} {c : Int} {tc : Tok} (F : Fr h₀ L h (fun y => if y = S "due" then some (.ref Du) else if y = S "bases" then some (.ref Db) else m y)) (me : m (S "entries") = some (.ref De)) (mc : m (S "count") = some (.int c tc)) : Fr h₀ L h (mD Du Db De c tc m) := by
  have e : Mine.mD Du Db De c tc m = fun y => if y = S "due" then some (.ref Du) else if y = S "bases" then some (.ref Db) else m y := funext fun y => by
    simp only [Mine.mD]
    by_cases q1 : y = S "entries"
    · subst q1
      rw [if_neg (by decide +kernel), if_neg (by decide +kernel), if_pos rfl, if_neg (by decide +kernel), if_neg (by decide +kernel), me]
    by_cases q2 : y = S "count"
    · subst q2
      rw [if_neg (by decide +kernel), if_neg (by decide +kernel), if_neg (by decide +kernel), if_pos rfl, if_neg (by decide +kernel), if_neg (by decide +kernel), mc]
    rw [if_neg q1, if_neg q2]
  rw [e]; exact F
theorem law_bases0 {C rt : Addr} {oc1 oc2 : Obj} {us : List Value} {l : List Int} {n : Nat} {R : List (Addr × Obj)} {p p' : Int} {t1 t2 : Tok}
    (X₀ : (hd.heap_1 w.params).In h₀) (T : Top pv loose mean mg mb h₀) (B : Below callerA {} [] h₀) (F : Fr h₀ L s.heap m)
    (N : News h₀ L s.heap ((C, listOf us.toArray n) :: (L + 1, oc1) :: (L + 1 + 1, oc2) :: (rt, rootT p p' t1 t2) :: R))
    (g1 : oc1.data = .cell (some (.ref C))) (g2 : oc2.data = .cell (some (.ref rt))) (hi : IntsAre us l) (hl : us.length ≤ 1000) (hro : IsRoot p p')
    (l1 : @LT.lt Nat _ C rt) (l2 : @Ne Nat (L + 1) C) (l3 : @Ne Nat (L + 1 + 1) C) (lR : ∀ p ∈ R, p.1 ≠ C)
    (k : ∀ (Du Db : Addr) (zs : List Value) (bs : List D) (Y : List (Addr × Obj)) (h' : Heap) (tk : Nat), 0 < bs.length ∧ bs.length ≤ 2 → DAll h₀ Y zs bs → (∀ d ∈ bs, Ent d) → TupsOnly Y → (∀ p ∈ (Db, LCg.lst zs) :: (R ++ Y), p.1 ≠ Du) →
      Fr h₀ L h' (fun y => if y = S "due" then some (.ref Du) else if y = S "bases" then some (.ref Db) else m y) → News h₀ L h' ((Du, listOf #[] 0) :: (Db, LCg.lst zs) :: (R ++ Y)) →
      wpAny (model PG w) (callerA.deeper (envLaw L fa cd)) (execs (lawBody.drop 11) (envLaw L fa cd)) Q (fun _ _ => False) { s with heap := h', toks := tk }) :
    wpAny (model PG w) (callerA.deeper (envLaw L fa cd)) (execs (lawBody.drop 9) (envLaw L fa cd)) Q (fun _ _ => False) s := by
  refine as_cons (show lawBody.drop 9 = _ :: _ :: lawBody.drop 11 by with_unfolding_all rfl) ?_
  generalize lawBody.drop 11 = rest at k ⊢
  w_top off
  w_strict k_steps
  (rename Fr _ _ _ _ => Fz; rename News _ _ _ _ => Nz; rename TupsOnly _ => tY; rename DAll _ _ _ _ => dB; rename ∀ d ∈ _, Ent d => eB; rename List.length _ = Int.toNat _ => hy)
  have hdl := dB.length
  exact k _ _ _ _ _ _ _ (by walk_at "mine om") dB eB tY (lt_mid4 (by assumption)) Fz (newsSub Nz fun p hp => sub_mid5 hp)
theorem law_bases {C rt Ix Dx Lx Ii Di W De : Addr} {oc1 oc2 oX oD : Obj} {av : Value} {q : Option (Str × Addr × Addr)} {ys eys us : List Value} {l : List Int} {n nx ne kW : Nat} {R : List (Addr × Obj)} {ds : List D} {c p p' : Int} {tc t1 t2 : Tok}
    (X₀ : (hd.heap_1 w.params).In h₀) (T : Top pv loose mean mg mb h₀) (B : Below callerA {} [] h₀) (F : Fr h₀ L s.heap m)
    (N : News h₀ L s.heap ((C, listOf us.toArray n) :: (L + 1, oc1) :: (L + 1 + 1, oc2) :: (rt, rootT p p' t1 t2) :: R))
    (g1 : oc1.data = .cell (some (.ref C))) (g2 : oc2.data = .cell (some (.ref rt))) (hi : IntsAre us l) (hl : us.length ≤ 1000) (hro : IsRoot p p')
    (l1 : @LT.lt Nat _ C rt) (l2 : @Ne Nat (L + 1) C) (l3 : @Ne Nat (L + 1 + 1) C) (lR : ∀ p ∈ R, p.1 ≠ C)
    (mc : m (S "count") = some (.int c tc)) (me : m (S "entries") = some (.ref De)) (mx : m (S "x") = some (.ref Ix)) (mi : m (S "interp") = some (.ref Ii)) (mm : m (S "message") = none) (hc : c = ds.length)
    (hri : ∀ p ∈ R, p.2.cls ≠ .type "range_iterator")
    (hX : VecD w "double" Lx av oX) (hD : InterpD w W oD) (rIx : (Ix, instObj 92 Dx) ∈ R) (rDx : (Dx, oX) ∈ R) (rLx : (Lx, listOf ys.toArray nx) ∈ R) (rIi : (Ii, instObj 654 Di) ∈ R) (rDi : (Di, oD) ∈ R) (rW : (W, listOf #[] kW) ∈ R)
    (dx : DAll h₀ R ys ds) (de : DAll h₀ R eys ds) (ex : ∀ d ∈ ds, Ent d) (h4 : ds.length ≤ 4) (neLW : @Ne Nat Lx W) (neEW : @Ne Nat De W)
    (rDe : (De, listOf eys.toArray ne) ∈ R) (hA : AttrsR w R Ii Di W av q) (gl : Value) (hG : lookIn (S "globals") oD = some (some gl)) (hgl : handedIn gl = true)
    (kT : ∀ (h : Heap) (tk : Nat), h₀.StaysIn h → Q (.ret (.bool true)) { s with heap := h, toks := tk }) :
    wpAny (model PG w) (callerA.deeper (envLaw L fa cd)) (execs (lawBody.drop 9) (envLaw L fa cd)) Q (fun _ _ => False) s := by
  refine law_bases0 X₀ T B F N g1 g2 hi hl hro l1 l2 l3 lR ?_
  intro Du Db zs bs Y h' tk hb dB eB tY hu Fz Nz
  have sub : ∀ p ∈ R, p ∈ (Db, LCg.lst zs) :: (R ++ Y) := fun p hp => .tail _ (List.mem_append_left _ hp)
  refine law_mid (s := { s with heap := h', toks := tk }) X₀ T B (Fr.mD Fz me mc) Nz mx mi mm hc hu ?hr hX hD (sub _ rIx) (sub _ rDx) (sub _ rLx) (sub _ rIi) (sub _ rDi) (sub _ rW) (dx.mono sub) (de.mono sub) (dB.mono fun p hp => .tail _ (List.mem_append_right _ hp)) ex eB h4 hb neLW neEW (List.Mem.head _) (sub _ rDe) (fun g hg => hA g fun p hp => hg p (sub p hp)) gl hG hgl (fun h tk hk => kT h tk hk)
  intro p hp
  rcases List.mem_cons.mp hp with rfl | hp
  · simp
  · rcases List.mem_append.mp hp with hp | hp
    · exact hri p hp
    · rw [tY p hp]; simp
end

/-! The law's dress: statements 6 to 8. -/
/-- the attributes' objects, by themselves -/
def AttrsY (w : World) (Y : List (Addr × Obj)) (av : Value) (q : Option (Str × Addr × Addr)) : Prop := ∀ g : Heap, (∀ p ∈ Y, g.get? p.1 = some p.2) → AttrsH w g av q
theorem attrs_made {w : World} {V d D A : Addr} {od oL oA : Obj} {key : Str} (hA : oA.IsDictOf (PySem.strKind PG w) [(key, .ref V)]) (lo : (A == sysModules) = false) (hl : lookIn (S "items") od = some (some (.ref D))) : AttrsY w [(V, instObj 92 d), (d, od), (D, oL), (A, oA)] (.ref A) (some (key, V, D)) := fun g hg =>
  .some (Heap.dictOf_iff.mpr ⟨oA, hg (A, oA) (.tail _ (.tail _ (.tail _ (.head _)))), hA⟩) lo ⟨d, od, hg (V, _) (.head _), hg (d, od) (.tail _ (.head _)), hl⟩
theorem cell_ne {w : World} {k : String} {l : Addr} {av : Value} {o o' : Obj} {C : Addr} (g : o.data = .cell (some (.ref C))) (z : VecD w k l av o') (e : o = o') : False := by
  obtain ⟨f, c, t, ⟨es, n, h, _⟩, _⟩ := z
  rw [e, h] at g; cases g
theorem lt_sub {x : Addr} {l R : List (Addr × Obj)} (h : ∀ p ∈ l, p.1 < x) (k : ∀ p ∈ R, p ∈ l) : ∀ p ∈ R, p.1 ≠ x := fun p hp => Nat.ne_of_lt (h p (k p hp))
theorem dict_cls {w : World} {o : Obj} {l : List (Str × Value)} (h : o.IsDictOf (PySem.strKind PG w) l) : o.cls = .type "dict" := by
  obtain ⟨es, ep, hx, _⟩ := h
  exact hx.1
theorem said_60 : True := by
  (k_with "mine far" => first | exact lt_all (by assumption) | exact off1_all (by assumption) | exact lt_sub (by assumption) (fun p9 hp9 => by walk_at "mine in") | exact lt_all2 (by assumption) (by assumption))
  (k_with "mine near" => first | exact Nat.ne_of_gt (by assumption) | exact Nat.ne_of_gt (lt_at (by assumption) (by walk_at "mine in")) | exact Nat.ne_of_gt (Nat.lt_trans (by assumption) (by assumption)) | exact Ne.symm (by assumption) | assumption)
  trivial
theorem dress_sub {a b c d e f g i p : Addr × Obj} {R : List (Addr × Obj)} (hp : p ∈ e :: f :: g :: i :: (R ++ [a, b, c, d])) : p ∈ a :: b :: c :: d :: e :: f :: g :: i :: R := by
  simp only [List.mem_cons, List.mem_append, List.not_mem_nil, or_false] at hp ⊢
  grind
section
variable {w : World} {s : Shared} {Q : Flow → Shared → Prop} {pv : Program} {loose : List Str} {mean : ExcName → Option Value} {mg mb : Str → Option Value} {h₀ : Heap} {L fa : Addr} {m : Str → Option Value} {cd : Value}
theorem said_61 : True := by
  (k_with "newList" => (k_here; k_dflt (refine' newList_K ?k1_r160 ?k2_r160 ?_; (case k1_r160 => k_asm); (case k2_r160 => k_asm); k_whole); intro l' h' F' N' l1; (try k_lt l1); (try k_sweep)))
  (k_with "FinE" => ((unfold LCg.FinE); intro D' h' tk' F' N' o1'; (try simp only [List.nil_append, List.cons_append] at N'); (try dsimp only); (dsimp only [LCg.Off1] at o1'); (repeat (obtain ⟨n1', o1'⟩ := o1'))))
  trivial
theorem law_dress0 {C Ix Dx Lx : Addr} {oc1 : Obj} {us : List Value} {l : List Int} {n : Nat} {R : List (Addr × Obj)} {c : Int} {tc : Tok} {oX₀ : Obj}
    (X₀ : (hd.heap_1 w.params).In h₀) (T : Top pv loose mean mg mb h₀) (B : Below callerA {} [] h₀) (F : Fr h₀ L s.heap m)
    (N : News h₀ L s.heap ((C, listOf us.toArray n) :: (L + 1, oc1) :: (Ix, instObj 92 Dx) :: (Dx, oX₀) :: R)) (hX : VecD w "double" Lx .none oX₀)
    (g1 : oc1.data = .cell (some (.ref C))) (hi : IntsAre us l) (hl : us.length ≤ 1000)
    (l1 : @Ne Nat (L + 1) C) (l2 : @LT.lt Nat _ C Dx) (l3 : @LT.lt Nat _ Dx Ix) (lR : ∀ p ∈ R, p.1 ≠ C) (lD : ∀ p ∈ R, p.1 ≠ Dx)
    (mc : m (S "count") = some (.int c tc)) (mx : m (S "x") = some (.ref Ix)) (hc : 0 ≤ c ∧ c ≤ 4)
    (k : ∀ (av : Value) (q : Option (Str × Addr × Addr)) (Y : List (Addr × Obj)) (oX : Obj) (us : List Value) (l : List Int) (n : Nat) (r : Int) (t : Tok) (h' : Heap) (tk : Nat), IntsAre us l → us.length ≤ 1000 → VecD w "double" Lx av oX → AttrsY w Y av q → (∀ p ∈ Y, p.1 ≠ C) → (∀ p ∈ Y, ∀ r ∈ R, r.1 ≠ p.1) → (∀ p ∈ Y, p.2.cls ≠ .type "range_iterator") →
      Fr h₀ L h' (fun y => if y = S "dress" then some (.int r t) else if y = S "x" then some (.ref Ix) else if y = S "count" then some (.int c tc) else m y) → News h₀ L h' ((C, listOf us.toArray n) :: (L + 1, oc1) :: (Ix, instObj 92 Dx) :: (Dx, oX) :: (R ++ Y)) →
      wpAny (model PG w) (callerA.deeper (envLaw L fa cd)) (execs (lawBody.drop 9) (envLaw L fa cd)) Q (fun _ _ => False) { s with heap := h', toks := tk }) :
    wpAny (model PG w) (callerA.deeper (envLaw L fa cd)) (execs (lawBody.drop 6) (envLaw L fa cd)) Q (fun _ _ => False) s := by
  refine as_cons (show lawBody.drop 6 = _ :: _ :: _ :: lawBody.drop 9 by with_unfolding_all rfl) ?_
  generalize lawBody.drop 9 = rest at k ⊢
  have nD : @Ne Nat (L + 1) Dx := news_neO N (o := oc1) (.tail _ (.head _)) (.tail _ (.tail _ (.tail _ (.head _)))) (fun e => cell_ne g1 hX e)
  have F1 := Fr.see (x := S "x") (v := .ref Ix) (Fr.see F mc) (by rw [if_neg (by decide +kernel)]; exact mx)
  clear F
  have lt9 : LtHere := trivial
  obtain ⟨f, c', t, aX, hc', e1, e2, e3⟩ := hX
  w_top off
  w_strict k_steps
  all_goals (try (exfalso; omega))
  all_goals (try dsimp only)
  all_goals (rename Fr _ _ _ _ => Fz; rename News _ _ _ _ => Nz; rename IntsAre _ _ => hi')
  · refine' k _ _ _ _ _ _ _ _ _ _ _ hi' ?hl (vec_put (by assumption) hc' e1 e2 e3) (attrs_made ?hd ?lo ?hk) ?c1 ?c2 ?c3 Fz (newsSub Nz fun p hp => dress_sub hp)
    case hl => assumption
    case hd => assumption
    case lo => assumption
    case hk => exact (VecD.look (by assumption)).choose_spec.2.1
    case c1 => exact List.forall_mem_cons.mpr ⟨by walk_at "mine near", List.forall_mem_cons.mpr ⟨by walk_at "mine near", List.forall_mem_cons.mpr ⟨by walk_at "mine near", List.forall_mem_cons.mpr ⟨by walk_at "mine near", List.forall_mem_nil _⟩⟩⟩⟩
    case c2 => exact List.forall_mem_cons.mpr ⟨by walk_at "mine far", List.forall_mem_cons.mpr ⟨by walk_at "mine far", List.forall_mem_cons.mpr ⟨by walk_at "mine far", List.forall_mem_cons.mpr ⟨by walk_at "mine far", List.forall_mem_nil _⟩⟩⟩⟩
    case c3 => exact List.forall_mem_cons.mpr ⟨by simp, List.forall_mem_cons.mpr ⟨by rw [VecD.cls (by assumption)]; simp, List.forall_mem_cons.mpr ⟨by simp, List.forall_mem_cons.mpr ⟨by rw [dict_cls (by assumption)]; simp, List.forall_mem_nil _⟩⟩⟩⟩
  · refine' k _ _ _ _ _ _ _ _ _ _ _ hi' ?hl (vec_put (by assumption) hc' e1 e2 e3) (attrs_made ?hd ?lo ?hk) ?c1 ?c2 ?c3 Fz (newsSub Nz fun p hp => dress_sub hp)
    case hl => assumption
    case hd => assumption
    case lo => assumption
    case hk => exact (VecD.look (by assumption)).choose_spec.2.1
    case c1 => exact List.forall_mem_cons.mpr ⟨by walk_at "mine near", List.forall_mem_cons.mpr ⟨by walk_at "mine near", List.forall_mem_cons.mpr ⟨by walk_at "mine near", List.forall_mem_cons.mpr ⟨by walk_at "mine near", List.forall_mem_nil _⟩⟩⟩⟩
    case c2 => exact List.forall_mem_cons.mpr ⟨by walk_at "mine far", List.forall_mem_cons.mpr ⟨by walk_at "mine far", List.forall_mem_cons.mpr ⟨by walk_at "mine far", List.forall_mem_cons.mpr ⟨by walk_at "mine far", List.forall_mem_nil _⟩⟩⟩⟩
    case c3 => exact List.forall_mem_cons.mpr ⟨by simp, List.forall_mem_cons.mpr ⟨by rw [VecD.cls (by assumption)]; simp, List.forall_mem_cons.mpr ⟨by simp, List.forall_mem_cons.mpr ⟨by rw [dict_cls (by assumption)]; simp, List.forall_mem_nil _⟩⟩⟩⟩
  · exact k .none none [] _ _ _ _ _ _ _ _ hi' (by assumption) ⟨f, c', t, by assumption, hc', e1, e2, e3⟩ (fun _ _ => .none) (fun _ h => nomatch h) (fun _ h => nomatch h) (fun _ h => nomatch h) Fz (by rw [List.append_nil]; exact Nz)
end

/-! The law from its dress to the end. -/
section
variable {w : World} {s : Shared} {Q : Flow → Shared → Prop} {pv : Program} {loose : List Str} {mean : ExcName → Option Value} {mg mb : Str → Option Value} {h₀ : Heap} {L fa : Addr} {m : Str → Option Value} {cd : Value}
theorem sub_dress {a b c d e f p : Addr × Obj} {R : List (Addr × Obj)} (hp : p ∈ a :: b :: e :: f :: c :: d :: R) : p ∈ a :: b :: c :: d :: e :: f :: R := by
  simp only [List.mem_cons] at hp ⊢
  grind
theorem law_dress {C rt Ix Dx Lx Ii Di W De : Addr} {oc1 oc2 oD : Obj} {ys eys us : List Value} {l : List Int} {n nx ne kW : Nat} {R : List (Addr × Obj)} {ds : List D} {c p p' : Int} {tc t1 t2 : Tok} {oX₀ : Obj}
    (X₀ : (hd.heap_1 w.params).In h₀) (T : Top pv loose mean mg mb h₀) (B : Below callerA {} [] h₀) (F : Fr h₀ L s.heap m)
    (N : News h₀ L s.heap ((C, listOf us.toArray n) :: (L + 1, oc1) :: (Ix, instObj 92 Dx) :: (Dx, oX₀) :: (L + 1 + 1, oc2) :: (rt, rootT p p' t1 t2) :: R)) (hX₀ : VecD w "double" Lx .none oX₀)
    (g1 : oc1.data = .cell (some (.ref C))) (g2 : oc2.data = .cell (some (.ref rt))) (hi : IntsAre us l) (hl : us.length ≤ 1000) (hro : IsRoot p p')
    (l1 : @LT.lt Nat _ C rt) (l2 : @Ne Nat (L + 1) C) (l3 : @Ne Nat (L + 1 + 1) C) (l4 : @LT.lt Nat _ rt Dx) (l5 : @LT.lt Nat _ Dx Ix) (lR : ∀ p ∈ R, p.1 ≠ C) (lD : ∀ p ∈ R, p.1 ≠ Dx)
    (mc : m (S "count") = some (.int c tc)) (me : m (S "entries") = some (.ref De)) (mx : m (S "x") = some (.ref Ix)) (mi : m (S "interp") = some (.ref Ii)) (mm : m (S "message") = none) (hc : c = ds.length)
    (hri : ∀ p ∈ R, p.2.cls ≠ .type "range_iterator")
    (hD : InterpD w W oD) (rLx : (Lx, listOf ys.toArray nx) ∈ R) (rIi : (Ii, instObj 654 Di) ∈ R) (rDi : (Di, oD) ∈ R) (rW : (W, listOf #[] kW) ∈ R)
    (dx : DAll h₀ R ys ds) (de : DAll h₀ R eys ds) (ex : ∀ d ∈ ds, Ent d) (h4 : ds.length ≤ 4) (neLW : @Ne Nat Lx W) (neEW : @Ne Nat De W)
    (rDe : (De, listOf eys.toArray ne) ∈ R) (gl : Value) (hG : lookIn (S "globals") oD = some (some gl)) (hgl : handedIn gl = true)
    (kT : ∀ (h : Heap) (tk : Nat), h₀.StaysIn h → Q (.ret (.bool true)) { s with heap := h, toks := tk }) :
    wpAny (model PG w) (callerA.deeper (envLaw L fa cd)) (execs (lawBody.drop 6) (envLaw L fa cd)) Q (fun _ _ => False) s := by
  refine law_dress0 X₀ T B F N hX₀ g1 hi hl l2 (Nat.lt_trans l1 l4) l5 (List.forall_mem_cons.mpr ⟨l3, List.forall_mem_cons.mpr ⟨Nat.ne_of_gt l1, lR⟩⟩) (List.forall_mem_cons.mpr ⟨news_neO N (o := oc2) (.tail _ (.tail _ (.tail _ (.tail _ (.head _))))) (.tail _ (.tail _ (.tail _ (.head _)))) (fun e => cell_ne g2 hX₀ e), List.forall_mem_cons.mpr ⟨Nat.ne_of_lt l4, lD⟩⟩) mc mx (by walk_at "mine om") ?_
  intro av q Y oX us l n r t h' tk hi hl hX aY c1 c2 c3 Fz Nz
  have sub : ∀ p ∈ R, p ∈ (Ix, instObj 92 Dx) :: (Dx, oX) :: (R ++ Y) := fun p hp => .tail _ (.tail _ (List.mem_append_left _ hp))
  have far : ∀ {a : Addr} {o : Obj}, (a, o) ∈ R → ∀ p ∈ Y, p.1 ≠ a := fun hr p hp => Ne.symm (c2 p hp _ (.tail _ (.tail _ hr)))
  refine law_bases (tc := tc) (R := (Ix, instObj 92 Dx) :: (Dx, oX) :: (R ++ Y)) (s := { s with heap := h', toks := tk }) (ys := ys) (eys := eys) (nx := nx) (ne := ne) X₀ T B Fz (newsSub Nz fun p hp => sub_dress hp) g1 g2 hi hl hro l1 l2 l3 ?lR ?mc ?me ?mx ?mi ?mm hc ?hri hX hD (.head _) (.tail _ (.head _)) (sub _ rLx) (sub _ rIi) (sub _ rDi) (sub _ rW) (dx.mono sub) (de.mono sub) ex h4 neLW neEW (sub _ rDe) (fun g hg => aY g fun p hp => hg p (.tail _ (.tail _ (List.mem_append_right _ hp))) (far rIi p hp) (far rDi p hp) (far rW p hp)) gl hG hgl (fun h tk hk => kT h tk hk)
  case lR => exact List.forall_mem_cons.mpr ⟨Nat.ne_of_gt (Nat.lt_trans l1 (Nat.lt_trans l4 l5)), List.forall_mem_cons.mpr ⟨Nat.ne_of_gt (Nat.lt_trans l1 l4), List.forall_mem_append.mpr ⟨lR, c1⟩⟩⟩
  case hri => exact List.forall_mem_cons.mpr ⟨by simp, List.forall_mem_cons.mpr ⟨by rw [hX.cls]; simp, List.forall_mem_append.mpr ⟨hri, c3⟩⟩⟩
  all_goals (try dsimp only)
  all_goals (repeat (first | rw [if_neg (by decide +kernel)] | rw [if_pos rfl]))
  all_goals first | assumption | rfl
end

/-! The law's x: statement 5. -/
section
variable {w : World} {s : Shared} {Q : Flow → Shared → Prop} {pv : Program} {loose : List Str} {mean : ExcName → Option Value} {mg mb : Str → Option Value} {h₀ : Heap} {L fa : Addr} {m : Str → Option Value} {cd : Value}
theorem law_x0 {De : Addr} {eys : List Value} {R : List (Addr × Obj)}
    (X₀ : (hd.heap_1 w.params).In h₀) (T : Top pv loose mean mg mb h₀) (B : Below callerA {} [] h₀) (F : Fr h₀ L s.heap m)
    (N : News h₀ L s.heap ((De, LCg.lst eys) :: R)) (me : m (S "entries") = some (.ref De)) (hz : eys.length ≤ 4096)
    (k : ∀ (Ix Dx Lx : Addr) (oX : Obj) (nx : Nat) (h' : Heap) (tk : Nat), VecD w "double" Lx .none oX → @LT.lt Nat _ Dx Ix → @LT.lt Nat _ Lx Dx → @LT.lt Nat _ De Lx → (∀ p ∈ R, p.1 < Lx) →
      Fr h₀ L h' (fun y => if y = S "x" then some (.ref Ix) else if y = S "entries" then some (.ref De) else m y) → News h₀ L h' ((Ix, instObj 92 Dx) :: (Dx, oX) :: (Lx, listOf eys.toArray nx) :: (De, LCg.lst eys) :: R) →
      wpAny (model PG w) (callerA.deeper (envLaw L fa cd)) (execs (lawBody.drop 6) (envLaw L fa cd)) Q (fun _ _ => False) { s with heap := h', toks := tk }) :
    wpAny (model PG w) (callerA.deeper (envLaw L fa cd)) (execs (lawBody.drop 5) (envLaw L fa cd)) Q (fun _ _ => False) s := by
  refine as_cons (show lawBody.drop 5 = _ :: lawBody.drop 6 by with_unfolding_all rfl) ?_
  generalize lawBody.drop 6 = rest at k ⊢
  have F1 := Fr.see F me
  clear F
  w_top off
  w_strict k_steps
  (rename Fr _ _ _ _ => Fz; rename News _ _ _ _ => Nz)
  try dsimp only
  refine' k _ _ _ _ _ _ _ ?v ?a ?b ?c ?d Fz Nz
  case v => assumption
  case a => assumption
  case b => assumption
  case c => assumption
  case d => assumption
end

/-! The law's entries: statement 4. -/
section
variable {w : World} {s : Shared} {Q : Flow → Shared → Prop} {pv : Program} {loose : List Str} {mean : ExcName → Option Value} {mg mb : Str → Option Value} {h₀ : Heap} {L fa : Addr} {m : Str → Option Value} {cd : Value}
theorem said_62 : True := by
  (k_with "CompEnd" => (k_here; k_dflt ((rename Fr _ _ _ _ => F8); (rename News _ _ _ _ => N8); (rename UpdF _ _ _ _ => U8); (with_unfolding_all refine' ent_end F8 N8 U8 ?off_r162 ?di_r162 ?en_r162 ?tE_r162 ?ne_r162 ?hI_r162 ?hC_r162 ?hX_r162 ?dY_r162 ?eY_r162 ?tY_r162 ?hi_r162 ?hl_r162 ?hS_r162 ?sub_r162); (case off_r162 => assumption); (case di_r162 => assumption); (case en_r162 => assumption); (case tE_r162 => assumption); (case ne_r162 => assumption); (case hI_r162 => k_memK); (case hC_r162 => k_memK); (case hX_r162 => k_memK); (case dY_r162 => assumption); (case eY_r162 => assumption); (case tY_r162 => assumption); (case hi_r162 => assumption); (case hl_r162 => assumption); (case hS_r162 => exact fun _ => trivial); (case sub_r162 => with_unfolding_all exact fun _ h => h))))
  trivial
theorem law_ents0 {C rt : Addr} {oc1 oc2 : Obj} {us : List Value} {l : List Int} {n : Nat} {R : List (Addr × Obj)} {c p p' : Int} {tc t1 t2 : Tok}
    (X₀ : (hd.heap_1 w.params).In h₀) (T : Top pv loose mean mg mb h₀) (B : Below callerA {} [] h₀) (F : Fr h₀ L s.heap m)
    (N : News h₀ L s.heap ((C, listOf us.toArray n) :: (L + 1, oc1) :: (L + 1 + 1, oc2) :: (rt, rootT p p' t1 t2) :: R))
    (g1 : oc1.data = .cell (some (.ref C))) (g2 : oc2.data = .cell (some (.ref rt))) (hi : IntsAre us l) (hl : us.length ≤ 1000) (hro : IsRoot p p')
    (l1 : @LT.lt Nat _ C rt) (l2 : @Ne Nat (L + 1) C) (l3 : @Ne Nat (L + 1 + 1) C) (lR : ∀ p ∈ R, p.1 ≠ C) (mc : m (S "count") = some (.int c tc)) (hc : 0 ≤ c ∧ c ≤ 4)
    (k : ∀ (De : Addr) (ys : List Value) (ds : List D) (Y : List (Addr × Obj)) (us : List Value) (l : List Int) (n : Nat) (h' : Heap) (tk : Nat), IntsAre us l → us.length ≤ 1000 → ys.length = (c - 0).toNat → TupsOnly Y → DAll h₀ Y ys ds → (∀ d ∈ ds, Ent d) → @Ne Nat C De → LCg.Off1 De (R ++ Y) →
      Fr h₀ L h' (fun y => if y = S "entries" then some (.ref De) else if y = S "count" then some (.int c tc) else m y) → News h₀ L h' ((De, LCg.lst ys) :: (C, listOf us.toArray n) :: (L + 1, oc1) :: (L + 1 + 1, oc2) :: (rt, rootT p p' t1 t2) :: (R ++ Y)) →
      wpAny (model PG w) (callerA.deeper (envLaw L fa cd)) (execs (lawBody.drop 5) (envLaw L fa cd)) Q (fun _ _ => False) { s with heap := h', toks := tk }) :
    wpAny (model PG w) (callerA.deeper (envLaw L fa cd)) (execs (lawBody.drop 4) (envLaw L fa cd)) Q (fun _ _ => False) s := by
  refine as_cons (show lawBody.drop 4 = _ :: lawBody.drop 5 by with_unfolding_all rfl) ?_
  generalize lawBody.drop 5 = rest at k ⊢
  have F1 := Fr.see F mc
  clear F
  w_top off
  w_strict k_steps
  (rename Fr _ _ _ _ => Fz; rename News _ _ _ _ => Nz; rename IntsAre _ _ => hi'; rename TupsOnly _ => tY; rename DAll _ _ _ _ => dY; rename ∀ d ∈ _, Ent d => eY; rename List.length _ = Int.toNat _ => hy; rename _ ∧ _ => o1)
  exact k _ _ _ _ _ _ _ _ _ hi' (by assumption) hy tY dY eY o1.1 o1.2.2.2.2 Fz Nz
end

/-! The law's root: statement 3. -/
theorem four_ways {r : Int} (h0 : 0 ≤ r) (h4 : r < 4) : r = 0 ∨ r = 1 ∨ r = 2 ∨ r = 3 := by omega
/-- set where the walk is to stop at a subscription -/
def CutHere : Prop := True
theorem said_63 : True := by
  (k_with "subscriptTail" => (k_here; (rename CutHere => ct9); (refine of_stop ?_)))
  trivial
section
variable {w : World} {s : Shared} {Q : Flow → Shared → Prop} {pv : Program} {loose : List Str} {mean : ExcName → Option Value} {mg mb : Str → Option Value} {h₀ : Heap} {L fa : Addr} {m : Str → Option Value} {cd : Value}
theorem law_root0 {C : Addr} {oc1 oc2 : Obj} {us : List Value} {l : List Int} {n : Nat} {R : List (Addr × Obj)} {c : Int} {tc : Tok}
    (X₀ : (hd.heap_1 w.params).In h₀) (T : Top pv loose mean mg mb h₀) (B : Below callerA {} [] h₀) (F : Fr h₀ L s.heap m)
    (N : News h₀ L s.heap ((C, listOf us.toArray n) :: (L + 1, oc1) :: (L + 1 + 1, oc2) :: R))
    (g1 : oc1.data = .cell (some (.ref C))) (g2 : oc2.data = .cell none) (hi : IntsAre us l) (hl : us.length ≤ 1000)
    (l2 : @Ne Nat (L + 1) C) (l3 : @Ne Nat (L + 1 + 1) C) (lR : ∀ p ∈ R, p.1 ≠ C) (lR2 : ∀ p ∈ R, p.1 ≠ L + 1 + 1) (mc : m (S "count") = some (.int c tc)) (hc : 0 ≤ c ∧ c ≤ 4)
    (k : ∀ (oc2 : Obj) (rt : Addr) (p p' : Int) (t1 t2 : Tok) (us : List Value) (l : List Int) (n : Nat) (h' : Heap) (tk : Nat), oc2.data = .cell (some (.ref rt)) → IntsAre us l → us.length ≤ 1000 → @LT.lt Nat _ C rt → IsRoot p p' →
      Fr h₀ L h' (fun y => if y = S "count" then some (.int c tc) else m y) → News h₀ L h' ((C, listOf us.toArray n) :: (L + 1, oc1) :: (L + 1 + 1, oc2) :: (rt, rootT p p' t1 t2) :: R) →
      wpAny (model PG w) (callerA.deeper (envLaw L fa cd)) (execs (lawBody.drop 4) (envLaw L fa cd)) Q (fun _ _ => False) { s with heap := h', toks := tk }) :
    wpAny (model PG w) (callerA.deeper (envLaw L fa cd)) (execs (lawBody.drop 3) (envLaw L fa cd)) Q (fun _ _ => False) s := by
  refine as_cons (show lawBody.drop 3 = _ :: lawBody.drop 4 by with_unfolding_all rfl) ?_
  generalize lawBody.drop 4 = rest at k ⊢
  have F1 := Fr.see F mc
  clear F
  have ct8 : CutHere := trivial
  w_top off
  w_strict k_steps
  · unfold Stop
    rename CutHere => ct9
    clear ct9
    rcases four_ways (by assumption) (by assumption) with rfl | rfl | rfl | rfl
    all_goals w_strict k_steps
    all_goals (rename Fr _ _ _ _ => Fz; rename News _ _ _ _ => Nz; rename IntsAre _ _ => hi')
    all_goals (refine' k _ _ _ _ _ _ _ _ _ _ _ ?hd hi' ?hl ?hlt ?hr Fz (newsSub Nz ?hs); (case hd => assumption); (case hs => walk_at "mine subs"); (case hl => assumption); (case hlt => assumption); (case hr => (unfold IsRoot; omega)))
  · (rename Fr _ _ _ _ => Fz; rename News _ _ _ _ => Nz; rename IntsAre _ _ => hi')
    (refine' k _ _ _ _ _ _ _ _ _ _ _ ?hd hi' ?hl ?hlt ?hr Fz (newsSub Nz ?hs); (case hd => assumption); (case hs => walk_at "mine subs"); (case hl => assumption); (case hlt => assumption); (case hr => (unfold IsRoot; omega)))
end

/-! The law from its root to the end: statements 3 to 19. -/
section
variable {w : World} {s : Shared} {Q : Flow → Shared → Prop} {pv : Program} {loose : List Str} {mean : ExcName → Option Value} {mg mb : Str → Option Value} {h₀ : Heap} {L fa : Addr} {m : Str → Option Value} {cd : Value}
theorem sub_up {a b c d e f g i p : Addr × Obj} {R : List (Addr × Obj)} (hp : p ∈ e :: f :: a :: b :: g :: i :: c :: d :: R) : p ∈ a :: b :: c :: d :: e :: f :: g :: i :: R := by
  simp only [List.mem_cons] at hp ⊢
  grind
theorem law_up {C Ii Di W : Addr} {oc1 oc2 oD : Obj} {us : List Value} {l : List Int} {n kW : Nat} {R : List (Addr × Obj)} {c : Int} {tc : Tok}
    (X₀ : (hd.heap_1 w.params).In h₀) (T : Top pv loose mean mg mb h₀) (B : Below callerA {} [] h₀) (F : Fr h₀ L s.heap m)
    (N : News h₀ L s.heap ((C, listOf us.toArray n) :: (L + 1, oc1) :: (L + 1 + 1, oc2) :: R))
    (g1 : oc1.data = .cell (some (.ref C))) (g2 : oc2.data = .cell none) (hi : IntsAre us l) (hl : us.length ≤ 1000)
    (l2 : @Ne Nat (L + 1) C) (l3 : @Ne Nat (L + 1 + 1) C) (lR : ∀ p ∈ R, p.1 ≠ C) (lR2 : ∀ p ∈ R, p.1 ≠ L + 1 + 1) (mc : m (S "count") = some (.int c tc)) (hc : 0 ≤ c ∧ c ≤ 4)
    (mi : m (S "interp") = some (.ref Ii)) (mm : m (S "message") = none) (hri : ∀ p ∈ R, p.2.cls ≠ .type "range_iterator")
    (hD : InterpD w W oD) (rIi : (Ii, instObj 654 Di) ∈ R) (rDi : (Di, oD) ∈ R) (rW : (W, listOf #[] kW) ∈ R) (gl : Value) (hG : lookIn (S "globals") oD = some (some gl)) (hgl : handedIn gl = true)
    (kT : ∀ (h : Heap) (tk : Nat), h₀.StaysIn h → Q (.ret (.bool true)) { s with heap := h, toks := tk }) :
    wpAny (model PG w) (callerA.deeper (envLaw L fa cd)) (execs (lawBody.drop 3) (envLaw L fa cd)) Q (fun _ _ => False) s := by
  refine law_root0 X₀ T B F N g1 g2 hi hl l2 l3 lR lR2 mc hc ?_
  intro oc2 rt p p' t1 t2 us l n h1 tk1 g2 hi hl l1 hro F1 N1
  refine law_ents0 (tc := tc) (s := { s with heap := h1, toks := tk1 }) X₀ T B F1 N1 g1 g2 hi hl hro l1 l2 l3 lR ?mc1 hc ?_
  case mc1 => rw [if_pos rfl]
  intro De ys ds Y us l n h2 tk2 hi hl hy tY dY eY n1 off F2 N2
  have hdl := dY.length
  refine law_x0 (s := { s with heap := h2, toks := tk2 }) X₀ T B F2 N2 ?me1 (by walk_at "mine om") ?_
  case me1 => rw [if_pos rfl]
  intro Ix Dx Lx oX nx h3 tk3 hX a b c3 d F3 N3
  have hcd : c = ds.length := by walk_at "mine om"
  have h4 : ds.length ≤ 4 := by walk_at "mine om"
  have dR : ∀ p ∈ R ++ Y, @LT.lt Nat _ p.1 Lx := fun p hp => d p (.tail _ (.tail _ (.tail _ (.tail _ hp))))
  have yC : ∀ p ∈ Y, p.1 ≠ C := tup_off tY N2 (fun p hp => .tail _ (.tail _ (.tail _ (.tail _ (.tail _ (List.mem_append_right _ hp)))))) (.tail _ (.head _)) (by simp)
  have dC : @LT.lt Nat _ C Lx := d _ (.head _)
  have drt : @LT.lt Nat _ rt Lx := d (rt, rootT p p' t1 t2) (.tail _ (.tail _ (.tail _ (.head _))))
  have sub : ∀ p ∈ R, p ∈ (Lx, listOf ys.toArray nx) :: (De, LCg.lst ys) :: (R ++ Y) := fun p hp => .tail _ (.tail _ (List.mem_append_left _ hp))
  have subY : ∀ p ∈ Y, p ∈ (Lx, listOf ys.toArray nx) :: (De, LCg.lst ys) :: (R ++ Y) := fun p hp => .tail _ (.tail _ (List.mem_append_right _ hp))
  refine law_dress (tc := tc) (R := (Lx, listOf ys.toArray nx) :: (De, LCg.lst ys) :: (R ++ Y)) (ys := ys) (eys := ys) (nx := nx) (ne := ys.length) (s := { s with heap := h3, toks := tk3 }) X₀ T B F3 (newsSub N3 fun p hp => sub_up hp) hX g1 g2 hi hl hro l1 l2 l3 (Nat.lt_trans drt b) a ?lR ?lD ?mc ?me ?mx ?mi ?mm hcd ?hri hD (.head _) (sub _ rIi) (sub _ rDi) (sub _ rW) (dY.mono subY) (dY.mono subY) eY h4 (Nat.ne_of_gt (dR _ (List.mem_append_left _ rW))) (Ne.symm (off1_all off _ (List.mem_append_left _ rW))) (.tail _ (.head _)) gl hG hgl (fun h tk hk => kT h tk hk)
  case lR => exact List.forall_mem_cons.mpr ⟨Nat.ne_of_gt dC, List.forall_mem_cons.mpr ⟨Ne.symm n1, List.forall_mem_append.mpr ⟨lR, yC⟩⟩⟩
  case lD => exact List.forall_mem_cons.mpr ⟨Nat.ne_of_lt b, List.forall_mem_cons.mpr ⟨Nat.ne_of_lt (Nat.lt_trans c3 b), fun p hp => Nat.ne_of_lt (Nat.lt_trans (dR p hp) b)⟩⟩
  case hri => exact List.forall_mem_cons.mpr ⟨by simp, List.forall_mem_cons.mpr ⟨by simp, List.forall_mem_append.mpr ⟨hri, fun p hp => by rw [tY p hp]; simp⟩⟩⟩
  all_goals (try dsimp only)
  all_goals (repeat (first | rw [if_neg (by decide +kernel)] | rw [if_pos rfl]))
  all_goals first | assumption | rfl
end

/-! The law's interpreter: statement 1. -/
theorem lt_all3 {d x : Addr} {l : List (Addr × Obj)} (h2 : @LT.lt Nat _ d x) (h : ∀ p ∈ l, p.1 < d) : ∀ p ∈ l, p.1 ≠ x := lt_all2 h h2
theorem News.cons3 {h₀ h : Heap} {L : Addr} {p : Addr × Obj} {R : List (Addr × Obj)} (N : News h₀ L h R) (x : h.get? p.1 = some p.2 ∧ p.1 ≠ L ∧ h₀.get? p.1 = none) : News h₀ L h (p :: R) := List.forall_mem_cons.mpr ⟨x, N⟩
theorem no_it {R : List (Addr × Obj)} {x : Addr × Obj} {l : List (Addr × Obj)} (h : x.2.cls ≠ .type "range_iterator") (h2 : ∀ p ∈ l, p ∈ R ∨ p.2.cls ≠ .type "range_iterator") : ∀ p ∈ x :: l, p ∈ R ∨ p.2.cls ≠ .type "range_iterator" := List.forall_mem_cons.mpr ⟨.inr h, h2⟩
theorem dict_ne {w : World} {o : Obj} {l : List (Str × Value)} (h : o.IsDictOf (PySem.strKind PG w) l) : o.cls ≠ .type "range_iterator" := by rw [dict_cls h]; simp
theorem no_it0 {R : List (Addr × Obj)} : ∀ p ∈ R, p ∈ R ∨ p.2.cls ≠ .type "range_iterator" := fun _ h => .inl h
theorem said_64 : True := by
  (k_with "call ref" => (k_here; (with_reducible show wpAny _ _ (call (Value.ref 654) [_]) _ _ _); (refine of_stopC ?_)))
  trivial
section
variable {w : World} {s : Shared} {Q : Flow → Shared → Prop} {pv : Program} {loose : List Str} {mean : ExcName → Option Value} {mg mb : Str → Option Value} {h₀ : Heap} {L fa : Addr} {m : Str → Option Value} {cd : Value}
theorem law_interp0 {R : List (Addr × Obj)}
    (X₀ : (hd.heap_1 w.params).In h₀) (T : Top pv loose mean mg mb h₀) (B : Below callerA {} [] h₀) (F : Fr h₀ L s.heap m) (N : News h₀ L s.heap R)
    (k : ∀ (Ii Di W : Addr) (oD : Obj) (kW : Nat) (gl : Value) (R' : List (Addr × Obj)) (h' : Heap) (tk : Nat), InterpD w W oD → (Ii, instObj 654 Di) ∈ R' → (Di, oD) ∈ R' → (W, listOf #[] kW) ∈ R' → lookIn (S "globals") oD = some (some gl) → handedIn gl = true → (∀ p ∈ R, p.1 ≠ Ii) → (∀ p ∈ R, p.1 ≠ Di) → (∀ p ∈ R, p.1 ≠ W) →
      (∀ p ∈ R, p ∈ R') → (∀ p ∈ R', p ∈ R ∨ p.2.cls ≠ .type "range_iterator") → Fr h₀ L h' (fun y => if y = S "interp" then some (.ref Ii) else m y) → News h₀ L h' R' →
      wpAny (model PG w) (callerA.deeper (envLaw L fa cd)) (execs (lawBody.drop 2) (envLaw L fa cd)) Q (fun _ _ => False) { s with heap := h', toks := tk }) :
    wpAny (model PG w) (callerA.deeper (envLaw L fa cd)) (execs (lawBody.drop 1) (envLaw L fa cd)) Q (fun _ _ => False) s := by
  refine as_cons (show lawBody.drop 1 = _ :: lawBody.drop 2 by with_unfolding_all rfl) ?_
  generalize lawBody.drop 2 = rest at k ⊢
  w_top off
  w_strict k_steps
  all_goals (unfold StopC; rename Fr _ _ _ _ => Fz; rename News _ _ _ _ => Nz)
  refine c_interp B Fz X₀ T rfl rfl rfl (of_decide_eq_true (by with_unfolding_all rfl)) ?_
  intro Ii Di W oD gl h' tk lz lx lW fx fd fW gx gd gW hD hG ks
  obtain ⟨F1, N1, l1, l2⟩ := make2 Fz Nz lz lx fx fd gx gd ks
  have N2 := News.cons3 N1 ((ledger_add Fz Nz ks fW gW).2.1 _ (.head _))
  clear Fz Nz N1 ks fx fd fW gx gd gW lz
  try dsimp only
  w_strict k_steps
  (rename Fr _ _ _ _ => Fz; rename News _ _ _ _ => Nz)
  try dsimp only
  exact k Ii Di W oD 0 _ _ _ _ hD (.tail _ (.head _)) (.tail _ (.tail _ (.head _))) (.head _) hG rfl (fun p hp => Nat.ne_of_lt (l2 p (.tail _ hp))) (lt_all l1) (fun p hp => Nat.ne_of_lt (Nat.lt_trans (l2 p (.tail _ hp)) lW)) (fun p hp => .tail _ (.tail _ (.tail _ hp))) (no_it (by simp) (no_it (by simp) (no_it (by rw [hD.cls]; simp) no_it0))) Fz Nz
end

/-! The law's start: statements 0 and 2. -/
section
variable {w : World} {s : Shared} {Q : Flow → Shared → Prop} {pv : Program} {loose : List Str} {mean : ExcName → Option Value} {mg mb : Str → Option Value} {h₀ : Heap} {L fa : Addr} {m : Str → Option Value} {cd : Value}
theorem law_coins0 {a : Addr} {vs : List Value} {ns : List Int} {oc1 oc2 : Obj}
    (X₀ : (hd.heap_1 w.params).In h₀) (T : Top pv loose mean mg mb h₀) (B : Below callerA {} [] h₀) (F : Fr h₀ L s.heap m) (N : News h₀ L s.heap [(L + 1 + 1, oc2), (L + 1, oc1)])
    (ms : m (S "script") = some (.ref a)) (hL₀ : h₀.IsList a vs.toArray) (hi : IntsAre vs ns) (hlen : vs.length ≤ 63) (g1 : oc1.data = .cell none)
    (k : ∀ (C : Addr) (oc1 : Obj) (us : List Value) (l : List Int) (n : Nat) (h' : Heap) (tk : Nat), oc1.data = .cell (some (.ref C)) → IntsAre us l → us.length ≤ 1000 → @Ne Nat (L + 1 + 1) C → @Ne Nat (L + 1) C →
      Fr h₀ L h' (fun y => if y = S "script" then some (.ref a) else m y) → News h₀ L h' [(C, listOf us.toArray n), (L + 1 + 1, oc2), (L + 1, oc1)] →
      wpAny (model PG w) (callerA.deeper (envLaw L fa cd)) (execs (lawBody.drop 1) (envLaw L fa cd)) Q (fun _ _ => False) { s with heap := h', toks := tk }) :
    wpAny (model PG w) (callerA.deeper (envLaw L fa cd)) (execs (lawBody.drop 0) (envLaw L fa cd)) Q (fun _ _ => False) s := by
  refine as_cons (show lawBody.drop 0 = _ :: lawBody.drop 1 by with_unfolding_all rfl) ?_
  generalize lawBody.drop 1 = rest at k ⊢
  have F1 := Fr.see F ms
  clear F
  w_top off
  w_strict k_steps
  (rename Fr _ _ _ _ => Fz; rename News _ _ _ _ => Nz; rename IntsAre _ _ => hi'; rename _ ∧ _ => hn)
  exact k _ _ _ _ _ _ _ (by assumption) hi' (by assumption) hn.1 hn.2.1 Fz Nz
theorem law_count0 {C : Addr} {oc1 : Obj} {us : List Value} {l : List Int} {n : Nat} {R : List (Addr × Obj)}
    (X₀ : (hd.heap_1 w.params).In h₀) (T : Top pv loose mean mg mb h₀) (B : Below callerA {} [] h₀) (F : Fr h₀ L s.heap m)
    (N : News h₀ L s.heap ((C, listOf us.toArray n) :: (L + 1, oc1) :: R))
    (g1 : oc1.data = .cell (some (.ref C))) (hi : IntsAre us l) (hl : us.length ≤ 1000) (l2 : @Ne Nat (L + 1) C) (lR : ∀ p ∈ R, p.1 ≠ C)
    (k : ∀ (c : Int) (tc : Tok) (us : List Value) (l : List Int) (n : Nat) (h' : Heap) (tk : Nat), 0 ≤ c ∧ c ≤ 4 → IntsAre us l → us.length ≤ 1000 →
      Fr h₀ L h' (fun y => if y = S "count" then some (.int c tc) else m y) → News h₀ L h' ((C, listOf us.toArray n) :: (L + 1, oc1) :: R) →
      wpAny (model PG w) (callerA.deeper (envLaw L fa cd)) (execs (lawBody.drop 3) (envLaw L fa cd)) Q (fun _ _ => False) { s with heap := h', toks := tk }) :
    wpAny (model PG w) (callerA.deeper (envLaw L fa cd)) (execs (lawBody.drop 2) (envLaw L fa cd)) Q (fun _ _ => False) s := by
  refine as_cons (show lawBody.drop 2 = _ :: lawBody.drop 3 by with_unfolding_all rfl) ?_
  generalize lawBody.drop 3 = rest at k ⊢
  w_top off
  w_strict k_steps
  (rename Fr _ _ _ _ => Fz; rename News _ _ _ _ => Nz; rename IntsAre _ _ => hi')
  exact k _ _ _ _ _ _ _ (by walk_at "mine om") hi' (by assumption) Fz Nz
end

/-! The whole law. -/
section
variable {w : World} {s : Shared} {Q : Flow → Shared → Prop} {pv : Program} {loose : List Str} {mean : ExcName → Option Value} {mg mb : Str → Option Value} {h₀ : Heap} {L fa : Addr} {m : Str → Option Value} {cd : Value}
/-- all of a ledger but three objects -/
def But3 (a b c : Addr) (R : List (Addr × Obj)) : List (Addr × Obj) := R.filter fun p => decide (p.1 ≠ a ∧ p.1 ≠ b ∧ p.1 ≠ c)
theorem but3_in {a b c : Addr} {R : List (Addr × Obj)} {p : Addr × Obj} (h : p ∈ R) (h1 : p.1 ≠ a) (h2 : p.1 ≠ b) (h3 : p.1 ≠ c) : p ∈ But3 a b c R := List.mem_filter.mpr ⟨h, decide_eq_true ⟨h1, h2, h3⟩⟩
theorem but3_of {a b c : Addr} {R : List (Addr × Obj)} {p : Addr × Obj} (h : p ∈ But3 a b c R) : p ∈ R ∧ p.1 ≠ a ∧ p.1 ≠ b ∧ p.1 ≠ c := ⟨(List.mem_filter.mp h).1, of_decide_eq_true (List.mem_filter.mp h).2⟩
theorem law_all {a : Addr} {vs : List Value} {ns : List Int} {oc1 oc2 : Obj}
    (X₀ : (hd.heap_1 w.params).In h₀) (T : Top pv loose mean mg mb h₀) (F : Fr h₀ L s.heap m) (N : News h₀ L s.heap [(L + 1 + 1, oc2), (L + 1, oc1)])
    (ms : m (S "script") = some (.ref a)) (mm : m (S "message") = none) (hL₀ : h₀.IsList a vs.toArray) (hi : IntsAre vs ns) (hlen : vs.length ≤ 63) (g1 : oc1.data = .cell none) (g2 : oc2.data = .cell none)
    (kT : ∀ (h : Heap) (tk : Nat), h₀.StaysIn h → Q (.ret (.bool true)) { s with heap := h, toks := tk }) :
    wpAny (model PG w) (callerA.deeper (envLaw L fa cd)) (execs (lawBody.drop 0) (envLaw L fa cd)) Q (fun _ _ => False) s := by
  have B : Below callerA {} [] h₀ := ⟨rfl, fun b o e => absurd (Heap.lt_size e) (Nat.not_lt_zero _), trivial⟩
  refine law_coins0 X₀ T B F N ms hL₀ hi hlen g1 ?_
  intro C oc1 us l n h1 tk1 g1 hi hl n2 n1 F1 N1
  refine law_interp0 (s := { s with heap := h1, toks := tk1 }) X₀ T B F1 N1 ?_
  intro Ii Di W oD kW gl R' h2 tk2 hD rIi rDi rW hG hgl f1 f2 f3 sub hri F2 N2
  have mC : (C, listOf us.toArray n) ∈ R' := sub _ (.head _)
  have m1 : (L + 1, oc1) ∈ R' := sub _ (.tail _ (.tail _ (.head _)))
  have m2 : (L + 1 + 1, oc2) ∈ R' := sub _ (.tail _ (.head _))
  have ib : ∀ {x : Addr} {o : Obj}, (x, o) ∈ R' → (∀ p ∈ [(C, listOf us.toArray n), (L + 1 + 1, oc2), (L + 1, oc1)], p.1 ≠ x) → (x, o) ∈ But3 C (L + 1) (L + 1 + 1) R' := fun h f => but3_in h (Ne.symm (f _ (.head _))) (Ne.symm (f _ (.tail _ (.tail _ (.head _))))) (Ne.symm (f _ (.tail _ (.head _))))
  have it : ∀ p ∈ But3 C (L + 1) (L + 1 + 1) R', p.2.cls ≠ .type "range_iterator" := fun p hp => by
    obtain ⟨h, h1, h2, h3⟩ := but3_of hp
    rcases hri p h with q | q
    · simp only [List.mem_cons, List.not_mem_nil, or_false] at q
      rcases q with rfl | rfl | rfl
      · exact absurd rfl h1
      · exact absurd rfl h3
      · exact absurd rfl h2
    · exact q
  have N3 : News h₀ L h2 ((C, listOf us.toArray n) :: (L + 1, oc1) :: (L + 1 + 1, oc2) :: But3 C (L + 1) (L + 1 + 1) R') :=
    newsSub N2 (List.forall_mem_cons.mpr ⟨mC, List.forall_mem_cons.mpr ⟨m1, List.forall_mem_cons.mpr ⟨m2, fun p hp => (but3_of hp).1⟩⟩⟩)
  refine law_count0 (s := { s with heap := h2, toks := tk2 }) X₀ T B F2 N3 g1 hi hl n1 (List.forall_mem_cons.mpr ⟨n2, fun p hp => (but3_of hp).2.1⟩) ?_
  intro c tc us l n h3 tk3 hc hi hl F3 N4
  refine law_up (s := { s with heap := h3, toks := tk3 }) (tc := tc) (gl := gl) X₀ T B F3 N4 g1 g2 hi hl n1 n2 (fun p hp => (but3_of hp).2.1) (fun p hp => (but3_of hp).2.2.2) ?mc hc ?mi ?mm it hD (ib rIi f1) (ib rDi f2) (ib rW f3) hG hgl (fun h tk hk => kT h tk hk)
  all_goals (repeat (first | rw [if_neg (by decide +kernel)] | rw [if_pos rfl]))
  all_goals first | assumption | rfl
end

/-! The end: the theorem of the row. -/
theorem good_true {c : ClaimW} {cl : Str → Option Addr} {mean : ExcName → Option Value} {args : List WData} {s : Shared} {h : Heap} {tk : Nat} (hk : s.heap.StaysIn h) (hg : s.gens = #[]) (hn : ∀ cls, c.raises args cls = false) (hp : c.post args (.bool true) args = true) : GoodW c cl mean args s (.ok (.ret (.bool true))) { s with heap := h, toks := tk } :=
  ⟨.inl ⟨_, .bool true, [], rfl, hn, .bool true, hp, fun _ => ⟨.nil, fun _ h => nomatch h⟩⟩, hk, rfl, hg⟩
local macro_rules | `(tactic| k_qdec) => `(tactic| decide +kernel)
theorem law_holds : PySem.Challenge.rw_pq1419_01.Holds := hd (by
  w_top off
  k_go0
  rename Shared => s9
  (rename Fr _ _ _ _ => Fz; rename News _ _ _ _ => Nz; rename Heap.IsList _ _ _ => hl9; rename IntsAre _ _ => hi9; rename Top _ _ _ _ _ _ => T9; rename Frag.In _ _ => X9; rename Shared.gens _ = _ => hg9)
  have hlen := hi9.length
  refine wpAny_mono (Q := fun f s' => f = .ret (.bool true) ∧ ∃ h tk, s9.heap.StaysIn h ∧ s' = { s9 with heap := h, toks := tk }) (E := fun _ _ => False) ?body9 ?end9 (fun _ _ z => z.elim)
  case body9 =>
    with_unfolding_all refine law_all X9 T9 Fz Nz ?ms9 ?mm9 hl9 hi9 ?hlen9 ?g19 ?g29 ?kT9
    case ms9 => rfl
    case mm9 => rfl
    case hlen9 => omega
    case g19 => assumption
    case g29 => assumption
    case kT9 => exact fun h tk hk => ⟨rfl, h, tk, hk, rfl⟩
  case end9 =>
    rintro f s' ⟨rfl, h, tk, hk, rfl⟩
    refine good_true hk hg9 (raisesW_false ?_) ?_
    · wrow_none_raised
    · wrow_post)

end Mine
theorem PySem.Challenge.cw_pq1419_01_holds : PySem.Challenge.rw_pq1419_01.Holds :=
  Mine.law_holds
