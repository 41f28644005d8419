import PyProof.Rows.All
import Wide.All
import OpenK.AllK
import Wide.FinOn
import PySem.Challenge.RW_pb0365_01
open PySem PySem.W PyProof.Rows
set_option Elab.async false
set_option maxRecDepth 100000
set_option maxHeartbeats 4000000
set_option linter.unusedVariables false
set_option linter.unusedSimpArgs false
namespace Mine
set_option hygiene false
set_option compiler.extract_closed false
theorem lt0 {a b n : Nat} (h : b ≤ n) (e : Nat.ble a b = true) : a ≤ n := Nat.le_trans (Nat.le_of_ble_eq_true e) h
theorem lt1 {a b n : Nat} (h : b ≤ n) (e : Nat.ble (a + 1) b = true) : a ≤ n - 1 := Nat.le_sub_one_of_lt (Nat.lt_of_lt_of_le (Nat.le_of_ble_eq_true e) h)
theorem lt2 {m c n : Nat} (h : m + c ≤ n) (e : Nat.ble 1 c = true) : m ≤ n - 1 := Nat.le_sub_one_of_lt (Nat.lt_of_lt_of_le (Nat.lt_of_lt_of_le (Nat.lt_succ_self m) (Nat.add_le_add_left (Nat.le_of_ble_eq_true e) m)) h)
theorem lt3 {m c L : Nat} (h : m + c ≤ L) : m ≤ L := Nat.le_trans (Nat.le_add_right m c) h
theorem lt4 {m c d L : Nat} (h : m + c ≤ L) (e : Nat.ble d c = true) : m + d ≤ L := Nat.le_trans (Nat.add_le_add_left (Nat.le_of_ble_eq_true e) m) h
theorem lt5 {m c L M : Nat} (h : m + c ≤ L) (e : Nat.ble L M = true) : m ≤ M := Nat.le_trans (lt3 h) (Nat.le_of_ble_eq_true e)
theorem lt5' {m L M : Nat} (h : m ≤ L) (e : Nat.ble L M = true) : m ≤ M := Nat.le_trans h (Nat.le_of_ble_eq_true e)
theorem lt7 {k a b : Nat} (e : Nat.ble a b = true) : k + a ≤ k + b := Nat.add_le_add_left (Nat.le_of_ble_eq_true e) k
theorem lt8 {k a b c : Nat} (e : Nat.ble (a + b) c = true) : k + a + b ≤ k + c := by have := Nat.le_of_ble_eq_true e; omega
theorem lk3 {k : Nat} (h : k < 3) : k = 0 ∨ k = 1 ∨ k = 2 := by omega
theorem ldp {deep d c L : Nat} (h : deep + 2 * (d + 1) ≤ L) (e : Nat.ble c 2 = true) : deep + c + 2 * d ≤ L := by have := Nat.le_of_ble_eq_true e; omega
local macro_rules | `(tactic| walk_at "om") => `(tactic| first
  | (with_reducible first
    | assumption
    | exact Nat.le_refl _
    | exact Nat.le_add_right _ _
    | exact lt1 (by assumption) rfl
    | exact lt0 (by assumption) rfl
    | exact lt2 (by assumption) rfl
    | exact lt3 (by assumption)
    | exact lt4 (by assumption) rfl
    | exact lt5' (by assumption) rfl
    | exact lt5 (by assumption) rfl
    | exact lt7 rfl
    | exact lt8 rfl
    | exact And.left (by assumption)
    | exact And.right (by assumption)
    | exact ldp (by assumption) rfl
    | exact lk3 (by assumption))
  | omega)
local macro_rules | `(tactic| walk_at "nm") => `(tactic| with_reducible first | exact N357_rows | exact N357_pieces | exact N357_before | exact N357_depth | exact N357_blocks | exact N357_open_brackets | exact N357_arrays | exact N357_naming | exact N357_heading | exact N357_fields | exact N357_base_open | exact N357_unary | exact N357_starred | exact N357_broken | exact N357_after_remark | exact N182_word | exact N182_base | exact N182_body | exact N182_section | exact N182_label | exact N91_kind | exact N91_text | exact N91_place)
local macro_rules | `(tactic| walk_at "km") => `(tactic| with_reducible first | exact M_Formatter_top | exact M_Formatter_end_row | exact M_Formatter_write | exact M_Formatter_usual_depth | exact M_Formatter_write_at | exact M_Formatter_is_tight | exact M_Formatter_token | exact M_Formatter_word | exact M_Formatter_opening | exact M_Formatter_middle | exact M_Formatter_part | exact M_Formatter_procedure | exact M_Formatter_section | exact M_Formatter_sign | exact M_Formatter_bracket | exact M_Formatter_finish | exact M_Formatter_pop)
local macro_rules | `(tactic| walk_at "kf") => `(tactic| with_reducible first | exact F_is_letter | exact F_is_digit | exact F_is_hex_digit | exact F_SourceItem | exact F_gap_end | exact F_word_end | exact F_digits_end | exact F_number_end | exact F_sign_end | exact F_item_at | exact F_source_items | exact F_keywords | exact F_Block | exact F_is_unary | exact F_would_join | exact F_is_close | exact F_Formatter | exact F_formatted | exact F_law_stock | exact F_law_pick | exact F_law_tree | exact F_law_block | exact F_law_joined | exact F_law_flat | exact F_law_rows | exact F_law_laid | exact F_law_shift)
local macro_rules | `(tactic| walk_at "cm") => `(tactic| first
  | ((with_reducible show EvalOk _ _ _ (.Call (.Attribute _ (Str.ofString "append") _) _ _ _) _ _ _); refine ok_append ?_)
  | ((with_reducible show EvalOk _ _ _ (.Call (.Attribute (.Name _ _) (Str.ofString "pop") _) _ _ _) _ _ _); refine ok_me cls_fmt M_Formatter_pop (by intro env; exact ⟨_, rfl⟩) ?_)
  | ((with_reducible show EvalOk _ _ _ (.Call (.Attribute _ (Str.ofString "pop") _) _ _ _) _ _ _); refine ok_lpop ?_)
  | ((with_reducible show EvalOk _ _ _ (.Call (.Attribute _ (Str.ofString "reverse") _) _ _ _) _ _ _); refine ok_reverse ?_)
  | ((with_reducible show EvalOk _ _ _ (.Call (.Attribute _ (Str.ofString "lstrip") _) _ _ _) _ _ _); refine ok_lstrip ?_)
  | ((with_reducible show EvalOk _ _ _ (.Call (.Attribute _ (Str.ofString "join") _) _ _ _) _ _ _); refine ok_join ?_)
  | refine ok_me cls_fmt (by walk_at "km") (by intro env; exact ⟨_, rfl⟩) ?_)
local macro_rules | `(tactic| walk_at "cn") => `(tactic| first
  | ((with_reducible show EvalOk _ _ _ (.Call (.Name (Str.ofString "range") _) _ _ _) _ _ _); refine ok_range ?_ (kind_of (by assumption) (by kernel_rfl)))
  | refine ok_fn (by walk_at "kf") ?_ (kind_of (by assumption) (by kernel_rfl))
  | refine ok_bi (by with_reducible first | exact B_len | exact B_ord | exact B_max | exact B_sum) ?_ (kind_of (by assumption) (by kernel_rfl)))
local macro_rules | `(tactic| walk_at "ev") => `(tactic| first
  | ((with_reducible show EvalOk _ _ _ (.Name _ _) _ _ _); first
    | ((with_reducible show EvalOk _ _ _ (.Name (Str.ofString "STEP") _) _ _ _); refine ok_step (kind_of (by assumption) (by kernel_rfl)) ?_)
    | refine ok_name (by first | rfl | assumption) ?_)
  | (with_reducible first | refine ok_int ?_ | refine ok_str ?_ | refine ok_bool ?_ | refine ok_none ?_ | refine ok_binop ?_ | refine ok_boolop ?_ | refine ok_unary ?_ | refine ok_ifexp ?_ | refine ok_tuple ?_ | refine ok_list ?_)
  | ((with_reducible show EvalOk _ _ _ (.Call (.Attribute _ _ _) _ _ _) _ _ _); walk_at "cm")
  | ((with_reducible show EvalOk _ _ _ (.Call (.Name _ _) _ _ _) _ _ _); walk_at "cn")
  | ((with_reducible show EvalOk _ _ _ (.Attribute _ _ _) _ _ _); refine ok_attr ?_)
  | ((with_reducible show EvalOk _ _ _ (.Compare _ _ _ _) _ _ _); refine ok_compare ?_)
  | ((with_reducible show EvalOk _ _ _ (.Subscript _ _ _) _ _ _); first
    | ((with_reducible show EvalOk _ _ _ (.Subscript _ (.Slice (some _) (some _) none _) _) _ _ _); refine ok_slice ?_)
    | ((with_reducible show EvalOk _ _ _ (.Subscript _ (.Slice (some _) none none _) _) _ _ _); refine ok_slice_from ?_)
    | refine ok_sub ?_)
  | ((with_reducible show EvalOk _ _ _ (.Dict _ _ _) _ _ _); refine ok_dict3 (by decide) ?_))
local macro_rules | `(tactic| walk_at "sx") => `(tactic| first
  | ((with_reducible show ExecOk _ _ _ (.Assign [.Name _ _] _ _) _ _ _); refine ok_assign ?_ (kind_of (by assumption) (by kernel_rfl)))
  | (with_reducible first | refine ok_if ?_ | refine ok_ret ?_ | refine ok_ret0 ?_)
  | ((with_reducible show ExecOk _ _ _ (.Assign [.Attribute (.Name (Str.ofString "self") _) _ _] _ _) _ _ _); refine ok_selfset (by rfl) ?_)
  | ((with_reducible show ExecOk _ _ _ (.Assign [.Attribute _ _ _] _ _) _ _ _); refine ok_blkset ?_)
  | ((with_reducible show ExecOk _ _ _ (.Expr _ _) _ _ _); refine ok_expr ?_))
local macro_rules | `(tactic| walk_at "ts") => `(tactic| first
  | ((with_reducible show TestOk _ _ _ (.Compare _ _ _ _) _ _ _); refine test_compare ?_)
  | (with_reducible first | refine test_bool ?_ | refine test_not ?_)
  | ((with_reducible show TestOk _ _ _ (.Name _ _) _ _ _); refine test_value ?_)
  | ((with_reducible show TestOk _ _ _ (.Attribute _ _ _) _ _ _); refine test_value ?_)
  | ((with_reducible show TestOk _ _ _ (.Call _ _ _ _) _ _ _); refine test_value ?_)
  | ((with_reducible show TestOk _ _ _ (.Subscript _ _ _) _ _ _); refine test_value ?_))
local macro_rules | `(tactic| walk_at "o2") => `(tactic| first
  | (with_reducible first | refine op_eq_str ?_ | refine op_add_int ?_ | refine op_sub_int ?_ | refine op_eq_int ?_ | refine op_lt_int ?_ | refine op_gt_int ?_ | refine op_ne_str ?_ | refine op_le_str ?_ | refine op_in_char ?_ | refine op_le_int ?_ | refine op_ge_int ?_ | refine op_is_none_none ?_ | refine op_is_none_ref ?_ | refine op_is_none ?_)
  | ((with_reducible show Op2Ok _ _ _ (compareOp .In) (.str _) (.tup _) _ _ _); refine op_in_tup' ?_)
  | ((with_reducible show Op2Ok _ _ _ (compareOp .NotIn) (.str _) (.tup _) _ _ _); refine op_notin_tup' ?_))
local macro_rules | `(tactic| walk_at "lg") => `(tactic| first
  | ((with_reducible show ∃ b, V.bool _ = V.bool b ∧ _); refine ⟨_, rfl, ?_⟩)
  | ((with_reducible show ∃ C fs w, (V.ref _ = V.ins C fs ∨ _) ∧ _); refine ⟨_, _, _, .inr ⟨_, rfl, by first | assumption | exact Own.at0 (by assumption) | exact Own.base (by assumption) _ _ (by assumption) | exact Own.c4 (by assumption)⟩, by first | exact cls_fmt | exact cls_block | exact cls_item, by walk_at "nm", by first | rfl | assumption, ?_⟩)
  | ((with_reducible show ∃ (B : Nat → Option O), ∃ fs l, Own B _ ((_, O.inst 357 fs) :: l) ∧ _); refine ⟨_, _, _, by assumption, by walk_at "nm", le900 rfl, fun _ _ _ => ?_⟩)
  | ((with_reducible show ∃ fs, (∃ i, V.ref _ = V.ref i ∧ _ = some (O.inst 357 fs)) ∧ _); refine ⟨_, ⟨_, rfl, Own.at0 (by assumption)⟩, by first | rfl | assumption, ?_⟩)
  | ((with_reducible show _ ∧ _); first
    | (with_reducible first | refine tf_tt ?_ | refine nf_t ?_ | refine nt_f ?_ | refine tf_ff ?_ | refine ft_tt ?_ | refine ft_ff ?_)
    | ((with_reducible show (_ = true → _) ∧ (_ = false → _)); refine ⟨fun _ => ?_, fun _ => ?_⟩)
    | ((with_reducible show (_ = false → _) ∧ (_ = true → _)); refine ⟨fun _ => ?_, fun _ => ?_⟩)
    | ((with_reducible show List.length (_ : List V) ≤ sizeLine ∧ _); refine ⟨Nat.le_trans (m := 64) (by simp) (by decide), ?_⟩)))
local macro_rules | `(tactic| walk_at "t0") => `(tactic| first
  | ((with_reducible show EvalOk _ _ _ _ _ _ _); walk_at "ev")
  | ((with_reducible show Op2Ok _ _ _ _ _ _ _ _ _); walk_at "o2")
  | ((with_reducible show EvalsOk _ _ _ _ _ _ _); first | with_reducible refine oks_nil ?_ | refine oks_cons ?_)
  | ((with_reducible show TestOk _ _ _ _ _ _ _); walk_at "ts")
  | ((with_reducible show OpsOk _ _ _ _ _ _ _ _); with_reducible first | refine call_range1 ?_ | refine call_range2 ?_ | refine call_len_str (by assumption) ?_ | refine call_ord ?_ | refine call_max ?_)
  | ((with_reducible show SubOk _ _ _ (.tup _) (.int _) _ _ _); refine sub_tup (by decide) rfl ?_)
  | ((with_reducible show BoolsOk _ _ _ _ _ _ _ _); with_reducible first | refine bools_last ?_ | refine bools_or ?_ | refine bools_and ?_)
  | ((with_reducible show AllOk _ _ _ _ _ _ _ _); with_reducible first | refine all_and_nil ?_ | refine all_or_nil ?_ | refine all_and_cons ?_ | refine all_or_cons ?_)
  | ((with_reducible show Op1Ok _ _ _ _ _ _ _ _); with_reducible first | refine op_neg_int ?_ | refine op_not_bool ?_)
  | walk_at "lg")
local macro_rules | `(tactic| walk_at "s0") => `(tactic| first
  | ((with_reducible show ExecOk _ _ _ _ _ _ _); walk_at "sx")
  | ((with_reducible show ExecsOk _ _ _ _ _ _ _); with_reducible first | refine oks_seq ?_ | refine oks_end ?_)
  | with_reducible refine seq_ret ?_
  | walk_at "t0")
local macro_rules | `(tactic| walk_at "tt") => `(tactic| (repeat' walk_at "t0"))
local macro_rules | `(tactic| walk_at "tb") => `(tactic| ((repeat' walk_at "t0") <;> (refine And.intro ?_ rfl <;> first | rfl | exact bt2 (by assumption) (by assumption) | exact bf1 (by assumption) | exact bf2 (by assumption) | exact bo1 (by assumption) | exact bo2 (by assumption) | exact bo3 (by assumption) (by assumption) | exact bo4 (by assumption) (by assumption) (by assumption) | exact bo5 (by assumption) (by assumption) | exact bo6 (by assumption) (by assumption))))
local macro_rules | `(tactic| walk_at "tw") => `(tactic| ((repeat' walk_at "t0") <;> (refine And.intro (congrArg V.bool ?_) rfl <;> first | rfl | exact bv1 (by assumption) | exact bf1 (by assumption) | exact bv2 (by assumption) (by assumption) | exact bf3 (by assumption) | exact bf4 (by assumption) | exact bv3 (by assumption) | exact bo1 (by assumption))))
local macro_rules | `(tactic| walk_at "st") => `(tactic| first | with_reducible refine seq_next ?_ | walk_at "s0")
local macro_rules | `(tactic| walk_at "g1") => `(tactic| (repeat' walk_at "s0"))
local macro_rules | `(tactic| walk_at "ge") => `(tactic| (repeat (first | with_reducible refine seq_next ?_ | with_reducible refine oks_end ?_)))
local macro_rules | `(tactic| walk_at "go") => `(tactic| (repeat' walk_at "st"))
set_option hygiene true
section
open PySem PySem.W PyProof.Rows
/- the head: the top is run whole, once, by the kernel; what stands then is K0 -/
noncomputable abbrev PW : Program := PySem.Challenge.pw_pb0365_01
noncomputable def topT (tb : String → Option Builtin) (p : Program) (w : World) (n₀ : Nat) (ann : Option Value) : Nat → SharedT → Thread → Option SharedT
  | 0, _, _ => none
  | n + 1, s, t => match through t with
    | true => some s
    | false => match stepOk n₀ ann t with
      | false => none
      | true => match stepT (denote tb) p w s t with
        | some (s', t') => topT tb p w n₀ ann n s' t'
        | none => none
theorem topT_of {tb : String → Option Builtin} {p : Program} {w : World} {n₀ : Nat} {ann : Option Value} : ∀ {n : Nat} {s s' : SharedT} {t : Thread}, topT tb p w n₀ ann n s t = some s' → topRun tb p w n₀ ann n s.abs t = some s'.abs
  | 0, _, _, _, h => by cases h
  | n + 1, s, s', t, h => by
    unfold topT at h
    unfold topRun
    cases he : through t with
    | true => rw [he] at h; cases h; rfl
    | false =>
      rw [he] at h
      cases hk : stepOk n₀ ann t with
      | false => rw [hk] at h; cases h
      | true =>
        rw [hk] at h
        cases hs : stepT (denote tb) p w s t with
        | none => rw [hs] at h; cases h
        | some r => obtain ⟨s₂, t₂⟩ := r; rw [hs] at h; rw [stepT_spec hs]; exact topT_of h
noncomputable def treeOfL : List Obj → Nat → BT → BT
  | [], _, t => t
  | o :: r, n, t => treeOfL r (n + 1) (t.ins n o)
noncomputable def S0 (w : World) (os : OsState) : SharedT := ⟨treeOfL (boot_heap w.params).objs.toList 0 .nil, (boot_heap w.params).objs.size, (boot_heap w.params).life, #[], boot_drawn, boot_toks, os⟩

noncomputable def sv (s : String) (t : Nat) : Value := .str (Str.ofString s) t
noncomputable def de (P : Params) (k : String) (t : Nat) (v : Value) : DictEntry := ⟨PyData.keyHash P (Str.ofString k), .str (Str.ofString k) t, v⟩
noncomputable def tS (i : Nat) : Stmt := (PW.main.body[i]?).getD default
noncomputable def mS (i j : Nat) : Stmt := match tS i with
  | .ClassDef _ _ _ b _ _ _ _ _ _ _ => (b[j]?).getD default
  | _ => default
noncomputable def nS : Stmt → Str
  | .FunctionDef n _ _ _ _ _ _ _ _ _ => n
  | _ => default
noncomputable def pS : Stmt → Arguments
  | .FunctionDef _ p _ _ _ _ _ _ _ _ => p
  | _ => default
noncomputable def bS : Stmt → List Stmt
  | .FunctionDef _ _ b _ _ _ _ _ _ _ => b
  | _ => []
noncomputable def sS : Stmt → Scope
  | .FunctionDef _ _ _ _ _ _ s _ _ _ => s
  | _ => default
noncomputable abbrev fO (s : Stmt) (q m : String) (t : Nat) (c : Addr) : Obj :=
  { cls := .type "function", data := .func (fnOf (nS s) (Str.ofString q) (pS s) (bS s) (sS s) .none .none .none (sv m t) none (.ref c) .none) }
noncomputable def K0 (P : Params) : Frag := [
  (3, { cls := (.type "dict"), data := (.dict #[de P "__name__" 165 (sv "law_pb0365_01" 664), de P "__doc__" 166 .none, de P "__package__" 167 .none, de P "__loader__" 168 (.builtin "__main__.__loader__#opaque"), de P "__spec__" 169 .none, de P "__annotations__" 170 (.ref 6), de P "__builtins__" 171 (.ref 4), de P "__file__" 173 (sv "/claim/cut.py" 172), de P "__cached__" 174 .none, de P "YardError" 208 (.ref 24), de P "FormatError" 235 (.ref 44), de P "keywords" 243 (.ref 53), de P "is_letter" 250 (.ref 60), de P "is_digit" 257 (.ref 67), de P "is_hex_digit" 264 (.ref 74), de P "SourceItem" 299 (.ref 91), de P "gap_end" 307 (.ref 102), de P "remark_end" 317 (.ref 109), de P "string_end" 326 (.ref 116), de P "word_end" 334 (.ref 123), de P "digits_end" 342 (.ref 130), de P "number_end" 353 (.ref 137), de P "sign_end" 361 (.ref 144), de P "row_stop" 369 (.ref 151), de P "item_at" 381 (.ref 158), de P "source_items" 392 (.ref 165), de P "STEP" 396 (.int 2 395), de P "Block" 430 (.ref 182), de P "is_unary" 438 (.ref 193), de P "would_join" 446 (.ref 200), de P "is_close" 454 (.ref 207), de P "Formatter" 657 (.ref 357), de P "formatted" 663 (.ref 366), de P "_law_stock" 676 (.ref 373), de P "_law_pick" 684 (.ref 380), de P "_law_tree" 690 (.ref 385), de P "_law_block" 696 (.ref 390), de P "_law_joined" 702 (.ref 395), de P "_law_flat" 708 (.ref 400), de P "_law_rows" 718 (.ref 407), de P "_law_laid" 734 (.ref 414), de P "_law_shift" 748 (.ref 421), de P "law" 759 (.ref 428)] 43) }),
  (52, { cls := .type "code", data := (.fields #[(sv "keywords" 238), (sv "keywords" 239), (sv "/claim/cut.py" 240), (.int 10 0), (.int 0 0), (.int 0 0), (.int 0 0), (.int 3 0), (.ref 47), (.bool true), (.int 181 0), (.ref 48), .none, (.ref 49), (.ref 50), (.ref 51), (.int 241 0), (.int 10 0), (sv "/claim/cut.py" 242)]) }),
  (53, fO (tS 4) "keywords" "moduleyard.scanner" 236 52),
  (59, { cls := .type "code", data := (.fields #[(sv "is_letter" 244), (sv "is_letter" 245), (sv "/claim/cut.py" 246), (.int 12 0), (.int 1 0), (.int 0 0), (.int 0 0), (.int 3 0), (.ref 54), (.bool true), (.int 181 0), (.ref 55), .none, (.ref 56), (.ref 57), (.ref 58), (.int 248 0), (.int 12 0), (sv "/claim/cut.py" 249)]) }),
  (60, fO (tS 5) "is_letter" "moduleyard.scanner" 236 59),
  (66, { cls := .type "code", data := (.fields #[(sv "is_digit" 251), (sv "is_digit" 252), (sv "/claim/cut.py" 253), (.int 14 0), (.int 1 0), (.int 0 0), (.int 0 0), (.int 3 0), (.ref 61), (.bool true), (.int 181 0), (.ref 62), .none, (.ref 63), (.ref 64), (.ref 65), (.int 255 0), (.int 14 0), (sv "/claim/cut.py" 256)]) }),
  (67, fO (tS 6) "is_digit" "moduleyard.scanner" 236 66),
  (73, { cls := .type "code", data := (.fields #[(sv "is_hex_digit" 258), (sv "is_hex_digit" 259), (sv "/claim/cut.py" 260), (.int 16 0), (.int 1 0), (.int 0 0), (.int 0 0), (.int 3 0), (.ref 68), (.bool true), (.int 181 0), (.ref 69), .none, (.ref 70), (.ref 71), (.ref 72), (.int 262 0), (.int 16 0), (sv "/claim/cut.py" 263)]) }),
  (74, fO (tS 7) "is_hex_digit" "moduleyard.scanner" 236 73),
  (87, { cls := .type "code", data := (.fields #[(sv "__init__" 279), (sv "SourceItem.__init__" 280), (sv "/claim/cut.py" 281), (.int 21 0), (.int 4 0), (.int 0 0), (.int 0 0), (.int 3 0), (.ref 82), (.bool true), (.int 181 0), (.ref 83), .none, (.ref 84), (.ref 85), (.ref 86), (.int 286 0), (.int 21 0), (sv "/claim/cut.py" 287)]) }),
  (88, fO (mS 9 0) "SourceItem.__init__" "moduleyard.srcitems" 265 87),
  (90, { cls := (.type "dict"), data := (.dict #[de P "__module__" 274 (sv "moduleyard.srcitems" 265), de P "__firstlineno__" 278 (.int 19 277), de P "__init__" 288 (.ref 88), de P "__static_attributes__" 292 (.ref 89), de P "__dict__" 294 (.ref 92), de P "__weakref__" 296 (.ref 93), de P "__doc__" 297 .none] 4) }),
  (91, { cls := (.type "type"), data := (.cls { name := "SourceItem", bases := [(.type "object")], mro := [(.ref 91), (.type "object")], ns := 90, qualname := "SourceItem", hasDict := true, slotNames := [], subclasses := [], abstract := false, collection := none, hasDel := false }), slots := #[none, none, some (sv "SourceItem" 267), some (sv "SourceItem" 275), some (.builtin "object.__new__"), some (.bool true)] }),
  (101, { cls := .type "code", data := (.fields #[(sv "gap_end" 300), (sv "gap_end" 301), (sv "/claim/cut.py" 302), (.int 25 0), (.int 2 0), (.int 0 0), (.int 0 0), (.int 3 0), (.ref 96), (.bool true), (.int 181 0), (.ref 97), .none, (.ref 98), (.ref 99), (.ref 100), (.int 305 0), (.int 25 0), (sv "/claim/cut.py" 306)]) }),
  (102, fO (tS 10) "gap_end" "moduleyard.srcitems" 265 101),
  (108, { cls := .type "code", data := (.fields #[(sv "remark_end" 308), (sv "remark_end" 309), (sv "/claim/cut.py" 310), (.int 29 0), (.int 2 0), (.int 0 0), (.int 0 0), (.int 3 0), (.ref 103), (.bool true), (.int 181 0), (.ref 104), .none, (.ref 105), (.ref 106), (.ref 107), (.int 315 0), (.int 29 0), (sv "/claim/cut.py" 316)]) }),
  (109, fO (tS 11) "remark_end" "moduleyard.srcitems" 265 108),
  (115, { cls := .type "code", data := (.fields #[(sv "string_end" 318), (sv "string_end" 319), (sv "/claim/cut.py" 320), (.int 44 0), (.int 2 0), (.int 0 0), (.int 0 0), (.int 3 0), (.ref 110), (.bool true), (.int 181 0), (.ref 111), .none, (.ref 112), (.ref 113), (.ref 114), (.int 324 0), (.int 44 0), (sv "/claim/cut.py" 325)]) }),
  (116, fO (tS 12) "string_end" "moduleyard.srcitems" 265 115),
  (122, { cls := .type "code", data := (.fields #[(sv "word_end" 327), (sv "word_end" 328), (sv "/claim/cut.py" 329), (.int 51 0), (.int 2 0), (.int 0 0), (.int 0 0), (.int 3 0), (.ref 117), (.bool true), (.int 181 0), (.ref 118), .none, (.ref 119), (.ref 120), (.ref 121), (.int 332 0), (.int 51 0), (sv "/claim/cut.py" 333)]) }),
  (123, fO (tS 13) "word_end" "moduleyard.srcitems" 265 122),
  (129, { cls := .type "code", data := (.fields #[(sv "digits_end" 335), (sv "digits_end" 336), (sv "/claim/cut.py" 337), (.int 55 0), (.int 2 0), (.int 0 0), (.int 0 0), (.int 3 0), (.ref 124), (.bool true), (.int 181 0), (.ref 125), .none, (.ref 126), (.ref 127), (.ref 128), (.int 340 0), (.int 55 0), (sv "/claim/cut.py" 341)]) }),
  (130, fO (tS 14) "digits_end" "moduleyard.srcitems" 265 129),
  (136, { cls := .type "code", data := (.fields #[(sv "number_end" 343), (sv "number_end" 344), (sv "/claim/cut.py" 345), (.int 59 0), (.int 2 0), (.int 0 0), (.int 0 0), (.int 3 0), (.ref 131), (.bool true), (.int 181 0), (.ref 132), .none, (.ref 133), (.ref 134), (.ref 135), (.int 351 0), (.int 59 0), (sv "/claim/cut.py" 352)]) }),
  (137, fO (tS 15) "number_end" "moduleyard.srcitems" 265 136),
  (143, { cls := .type "code", data := (.fields #[(sv "sign_end" 354), (sv "sign_end" 355), (sv "/claim/cut.py" 356), (.int 76 0), (.int 2 0), (.int 0 0), (.int 0 0), (.int 3 0), (.ref 138), (.bool true), (.int 181 0), (.ref 139), .none, (.ref 140), (.ref 141), (.ref 142), (.int 359 0), (.int 76 0), (sv "/claim/cut.py" 360)]) }),
  (144, fO (tS 16) "sign_end" "moduleyard.srcitems" 265 143),
  (150, { cls := .type "code", data := (.fields #[(sv "row_stop" 362), (sv "row_stop" 363), (sv "/claim/cut.py" 364), (.int 82 0), (.int 2 0), (.int 0 0), (.int 0 0), (.int 3 0), (.ref 145), (.bool true), (.int 181 0), (.ref 146), .none, (.ref 147), (.ref 148), (.ref 149), (.int 367 0), (.int 82 0), (sv "/claim/cut.py" 368)]) }),
  (151, fO (tS 17) "row_stop" "moduleyard.srcitems" 265 150),
  (157, { cls := .type "code", data := (.fields #[(sv "item_at" 370), (sv "item_at" 371), (sv "/claim/cut.py" 372), (.int 86 0), (.int 3 0), (.int 0 0), (.int 0 0), (.int 3 0), (.ref 152), (.bool true), (.int 181 0), (.ref 153), .none, (.ref 154), (.ref 155), (.ref 156), (.int 379 0), (.int 86 0), (sv "/claim/cut.py" 380)]) }),
  (158, fO (tS 18) "item_at" "moduleyard.srcitems" 265 157),
  (164, { cls := .type "code", data := (.fields #[(sv "source_items" 382), (sv "source_items" 383), (sv "/claim/cut.py" 384), (.int 109 0), (.int 1 0), (.int 0 0), (.int 0 0), (.int 3 0), (.ref 159), (.bool true), (.int 181 0), (.ref 160), .none, (.ref 161), (.ref 162), (.ref 163), (.int 390 0), (.int 109 0), (sv "/claim/cut.py" 391)]) }),
  (165, fO (tS 19) "source_items" "moduleyard.srcitems" 265 164),
  (178, { cls := .type "code", data := (.fields #[(sv "__init__" 409), (sv "Block.__init__" 410), (sv "/claim/cut.py" 411), (.int 122 0), (.int 3 0), (.int 0 0), (.int 0 0), (.int 3 0), (.ref 173), (.bool true), (.int 181 0), (.ref 174), .none, (.ref 175), (.ref 176), (.ref 177), (.int 415 0), (.int 122 0), (sv "/claim/cut.py" 416)]) }),
  (179, fO (mS 22 0) "Block.__init__" "moduleyard.formatter" 393 178),
  (181, { cls := (.type "dict"), data := (.dict #[de P "__module__" 404 (sv "moduleyard.formatter" 393), de P "__firstlineno__" 408 (.int 120 407), de P "__init__" 417 (.ref 179), de P "__static_attributes__" 423 (.ref 180), de P "__dict__" 425 (.ref 183), de P "__weakref__" 427 (.ref 184), de P "__doc__" 428 .none] 4) }),
  (182, { cls := (.type "type"), data := (.cls { name := "Block", bases := [(.type "object")], mro := [(.ref 182), (.type "object")], ns := 181, qualname := "Block", hasDict := true, slotNames := [], subclasses := [], abstract := false, collection := none, hasDel := false }), slots := #[none, none, some (sv "Block" 397), some (sv "Block" 405), some (.builtin "object.__new__"), some (.bool true)] }),
  (192, { cls := .type "code", data := (.fields #[(sv "is_unary" 431), (sv "is_unary" 432), (sv "/claim/cut.py" 433), (.int 128 0), (.int 2 0), (.int 0 0), (.int 0 0), (.int 3 0), (.ref 187), (.bool true), (.int 181 0), (.ref 188), .none, (.ref 189), (.ref 190), (.ref 191), (.int 436 0), (.int 128 0), (sv "/claim/cut.py" 437)]) }),
  (193, fO (tS 23) "is_unary" "moduleyard.formatter" 393 192),
  (199, { cls := .type "code", data := (.fields #[(sv "would_join" 439), (sv "would_join" 440), (sv "/claim/cut.py" 441), (.int 134 0), (.int 2 0), (.int 0 0), (.int 0 0), (.int 3 0), (.ref 194), (.bool true), (.int 181 0), (.ref 195), .none, (.ref 196), (.ref 197), (.ref 198), (.int 444 0), (.int 134 0), (sv "/claim/cut.py" 445)]) }),
  (200, fO (tS 24) "would_join" "moduleyard.formatter" 393 199),
  (206, { cls := .type "code", data := (.fields #[(sv "is_close" 447), (sv "is_close" 448), (sv "/claim/cut.py" 449), (.int 140 0), (.int 2 0), (.int 0 0), (.int 0 0), (.int 3 0), (.ref 201), (.bool true), (.int 181 0), (.ref 202), .none, (.ref 203), (.ref 204), (.ref 205), (.int 452 0), (.int 140 0), (sv "/claim/cut.py" 453)]) }),
  (207, fO (tS 25) "is_close" "moduleyard.formatter" 393 206),
  (220, { cls := .type "code", data := (.fields #[(sv "__init__" 467), (sv "Formatter.__init__" 468), (sv "/claim/cut.py" 469), (.int 150 0), (.int 1 0), (.int 0 0), (.int 0 0), (.int 3 0), (.ref 215), (.bool true), (.int 181 0), (.ref 216), .none, (.ref 217), (.ref 218), (.ref 219), (.int 471 0), (.int 150 0), (sv "/claim/cut.py" 472)]) }),
  (221, fO (mS 26 0) "Formatter.__init__" "moduleyard.formatter" 393 220),
  (227, { cls := .type "code", data := (.fields #[(sv "top" 474), (sv "Formatter.top" 475), (sv "/claim/cut.py" 476), (.int 167 0), (.int 1 0), (.int 0 0), (.int 0 0), (.int 3 0), (.ref 222), (.bool true), (.int 181 0), (.ref 223), .none, (.ref 224), (.ref 225), (.ref 226), (.int 478 0), (.int 167 0), (sv "/claim/cut.py" 479)]) }),
  (228, fO (mS 26 1) "Formatter.top" "moduleyard.formatter" 393 227),
  (234, { cls := .type "code", data := (.fields #[(sv "usual_depth" 481), (sv "Formatter.usual_depth" 482), (sv "/claim/cut.py" 483), (.int 170 0), (.int 1 0), (.int 0 0), (.int 0 0), (.int 3 0), (.ref 229), (.bool true), (.int 181 0), (.ref 230), .none, (.ref 231), (.ref 232), (.ref 233), (.int 487 0), (.int 170 0), (sv "/claim/cut.py" 488)]) }),
  (235, fO (mS 26 2) "Formatter.usual_depth" "moduleyard.formatter" 393 234),
  (241, { cls := .type "code", data := (.fields #[(sv "end_row" 490), (sv "Formatter.end_row" 491), (sv "/claim/cut.py" 492), (.int 184 0), (.int 1 0), (.int 0 0), (.int 0 0), (.int 3 0), (.ref 236), (.bool true), (.int 181 0), (.ref 237), .none, (.ref 238), (.ref 239), (.ref 240), (.int 494 0), (.int 184 0), (sv "/claim/cut.py" 495)]) }),
  (242, fO (mS 26 3) "Formatter.end_row" "moduleyard.formatter" 393 241),
  (248, { cls := .type "code", data := (.fields #[(sv "write" 497), (sv "Formatter.write" 498), (sv "/claim/cut.py" 499), (.int 194 0), (.int 2 0), (.int 0 0), (.int 0 0), (.int 3 0), (.ref 243), (.bool true), (.int 181 0), (.ref 244), .none, (.ref 245), (.ref 246), (.ref 247), (.int 503 0), (.int 194 0), (sv "/claim/cut.py" 504)]) }),
  (249, fO (mS 26 4) "Formatter.write" "moduleyard.formatter" 393 248),
  (255, { cls := .type "code", data := (.fields #[(sv "write_at" 506), (sv "Formatter.write_at" 507), (sv "/claim/cut.py" 508), (.int 206 0), (.int 3 0), (.int 0 0), (.int 0 0), (.int 3 0), (.ref 250), (.bool true), (.int 181 0), (.ref 251), .none, (.ref 252), (.ref 253), (.ref 254), (.int 512 0), (.int 206 0), (sv "/claim/cut.py" 513)]) }),
  (256, fO (mS 26 5) "Formatter.write_at" "moduleyard.formatter" 393 255),
  (262, { cls := .type "code", data := (.fields #[(sv "is_tight" 515), (sv "Formatter.is_tight" 516), (sv "/claim/cut.py" 517), (.int 212 0), (.int 2 0), (.int 0 0), (.int 0 0), (.int 3 0), (.ref 257), (.bool true), (.int 181 0), (.ref 258), .none, (.ref 259), (.ref 260), (.ref 261), (.int 521 0), (.int 212 0), (sv "/claim/cut.py" 522)]) }),
  (263, fO (mS 26 6) "Formatter.is_tight" "moduleyard.formatter" 393 262),
  (269, { cls := .type "code", data := (.fields #[(sv "remark" 524), (sv "Formatter.remark" 525), (sv "/claim/cut.py" 526), (.int 224 0), (.int 3 0), (.int 0 0), (.int 0 0), (.int 3 0), (.ref 264), (.bool true), (.int 181 0), (.ref 265), .none, (.ref 266), (.ref 267), (.ref 268), (.int 531 0), (.int 224 0), (sv "/claim/cut.py" 532)]) }),
  (270, fO (mS 26 7) "Formatter.remark" "moduleyard.formatter" 393 269),
  (276, { cls := .type "code", data := (.fields #[(sv "token" 534), (sv "Formatter.token" 535), (sv "/claim/cut.py" 536), (.int 238 0), (.int 2 0), (.int 0 0), (.int 0 0), (.int 3 0), (.ref 271), (.bool true), (.int 181 0), (.ref 272), .none, (.ref 273), (.ref 274), (.ref 275), (.int 539 0), (.int 238 0), (sv "/claim/cut.py" 540)]) }),
  (277, fO (mS 26 8) "Formatter.token" "moduleyard.formatter" 393 276),
  (283, { cls := .type "code", data := (.fields #[(sv "begin_fields" 542), (sv "Formatter.begin_fields" 543), (sv "/claim/cut.py" 544), (.int 248 0), (.int 1 0), (.int 0 0), (.int 0 0), (.int 3 0), (.ref 278), (.bool true), (.int 181 0), (.ref 279), .none, (.ref 280), (.ref 281), (.ref 282), (.int 546 0), (.int 248 0), (sv "/claim/cut.py" 547)]) }),
  (284, fO (mS 26 9) "Formatter.begin_fields" "moduleyard.formatter" 393 283),
  (290, { cls := .type "code", data := (.fields #[(sv "pop" 549), (sv "Formatter.pop" 550), (sv "/claim/cut.py" 551), (.int 253 0), (.int 1 0), (.int 0 0), (.int 0 0), (.int 3 0), (.ref 285), (.bool true), (.int 181 0), (.ref 286), .none, (.ref 287), (.ref 288), (.ref 289), (.int 553 0), (.int 253 0), (sv "/claim/cut.py" 554)]) }),
  (291, fO (mS 26 10) "Formatter.pop" "moduleyard.formatter" 393 290),
  (297, { cls := .type "code", data := (.fields #[(sv "word" 556), (sv "Formatter.word" 557), (sv "/claim/cut.py" 558), (.int 258 0), (.int 2 0), (.int 0 0), (.int 0 0), (.int 3 0), (.ref 292), (.bool true), (.int 181 0), (.ref 293), .none, (.ref 294), (.ref 295), (.ref 296), (.int 562 0), (.int 258 0), (sv "/claim/cut.py" 563)]) }),
  (298, fO (mS 26 11) "Formatter.word" "moduleyard.formatter" 393 297),
  (304, { cls := .type "code", data := (.fields #[(sv "opening" 565), (sv "Formatter.opening" 566), (sv "/claim/cut.py" 567), (.int 277 0), (.int 2 0), (.int 0 0), (.int 0 0), (.int 3 0), (.ref 299), (.bool true), (.int 181 0), (.ref 300), .none, (.ref 301), (.ref 302), (.ref 303), (.int 570 0), (.int 277 0), (sv "/claim/cut.py" 571)]) }),
  (305, fO (mS 26 12) "Formatter.opening" "moduleyard.formatter" 393 304),
  (311, { cls := .type "code", data := (.fields #[(sv "middle" 573), (sv "Formatter.middle" 574), (sv "/claim/cut.py" 575), (.int 286 0), (.int 2 0), (.int 0 0), (.int 0 0), (.int 3 0), (.ref 306), (.bool true), (.int 181 0), (.ref 307), .none, (.ref 308), (.ref 309), (.ref 310), (.int 578 0), (.int 286 0), (sv "/claim/cut.py" 579)]) }),
  (312, fO (mS 26 13) "Formatter.middle" "moduleyard.formatter" 393 311),
  (318, { cls := .type "code", data := (.fields #[(sv "part" 581), (sv "Formatter.part" 582), (sv "/claim/cut.py" 583), (.int 300 0), (.int 2 0), (.int 0 0), (.int 0 0), (.int 3 0), (.ref 313), (.bool true), (.int 181 0), (.ref 314), .none, (.ref 315), (.ref 316), (.ref 317), (.int 587 0), (.int 300 0), (sv "/claim/cut.py" 588)]) }),
  (319, fO (mS 26 14) "Formatter.part" "moduleyard.formatter" 393 318),
  (325, { cls := .type "code", data := (.fields #[(sv "procedure" 590), (sv "Formatter.procedure" 591), (sv "/claim/cut.py" 592), (.int 316 0), (.int 2 0), (.int 0 0), (.int 0 0), (.int 3 0), (.ref 320), (.bool true), (.int 181 0), (.ref 321), .none, (.ref 322), (.ref 323), (.ref 324), (.int 596 0), (.int 316 0), (sv "/claim/cut.py" 597)]) }),
  (326, fO (mS 26 15) "Formatter.procedure" "moduleyard.formatter" 393 325),
  (332, { cls := .type "code", data := (.fields #[(sv "section" 599), (sv "Formatter.section" 600), (sv "/claim/cut.py" 601), (.int 329 0), (.int 2 0), (.int 0 0), (.int 0 0), (.int 3 0), (.ref 327), (.bool true), (.int 181 0), (.ref 328), .none, (.ref 329), (.ref 330), (.ref 331), (.int 605 0), (.int 329 0), (sv "/claim/cut.py" 606)]) }),
  (333, fO (mS 26 16) "Formatter.section" "moduleyard.formatter" 393 332),
  (339, { cls := .type "code", data := (.fields #[(sv "sign" 608), (sv "Formatter.sign" 609), (sv "/claim/cut.py" 610), (.int 336 0), (.int 2 0), (.int 0 0), (.int 0 0), (.int 3 0), (.ref 334), (.bool true), (.int 181 0), (.ref 335), .none, (.ref 336), (.ref 337), (.ref 338), (.int 615 0), (.int 336 0), (sv "/claim/cut.py" 616)]) }),
  (340, fO (mS 26 17) "Formatter.sign" "moduleyard.formatter" 393 339),
  (346, { cls := .type "code", data := (.fields #[(sv "bracket" 618), (sv "Formatter.bracket" 619), (sv "/claim/cut.py" 620), (.int 359 0), (.int 2 0), (.int 0 0), (.int 0 0), (.int 3 0), (.ref 341), (.bool true), (.int 181 0), (.ref 342), .none, (.ref 343), (.ref 344), (.ref 345), (.int 623 0), (.int 359 0), (sv "/claim/cut.py" 624)]) }),
  (347, fO (mS 26 18) "Formatter.bracket" "moduleyard.formatter" 393 346),
  (353, { cls := .type "code", data := (.fields #[(sv "finish" 626), (sv "Formatter.finish" 627), (sv "/claim/cut.py" 628), (.int 368 0), (.int 1 0), (.int 0 0), (.int 0 0), (.int 3 0), (.ref 348), (.bool true), (.int 181 0), (.ref 349), .none, (.ref 350), (.ref 351), (.ref 352), (.int 632 0), (.int 368 0), (sv "/claim/cut.py" 633)]) }),
  (354, fO (mS 26 19) "Formatter.finish" "moduleyard.formatter" 393 353),
  (356, { cls := (.type "dict"), data := (.dict #[de P "__module__" 462 (sv "moduleyard.formatter" 393), de P "__firstlineno__" 466 (.int 148 465), de P "__init__" 473 (.ref 221), de P "top" 480 (.ref 228), de P "usual_depth" 489 (.ref 235), de P "end_row" 496 (.ref 242), de P "write" 505 (.ref 249), de P "write_at" 514 (.ref 256), de P "is_tight" 523 (.ref 263), de P "remark" 533 (.ref 270), de P "token" 541 (.ref 277), de P "begin_fields" 548 (.ref 284), de P "pop" 555 (.ref 291), de P "word" 564 (.ref 298), de P "opening" 572 (.ref 305), de P "middle" 580 (.ref 312), de P "part" 589 (.ref 319), de P "procedure" 598 (.ref 326), de P "section" 607 (.ref 333), de P "sign" 617 (.ref 340), de P "bracket" 625 (.ref 347), de P "finish" 634 (.ref 354), de P "__static_attributes__" 650 (.ref 355), de P "__dict__" 652 (.ref 358), de P "__weakref__" 654 (.ref 359), de P "__doc__" 655 .none] 4) }),
  (357, { cls := (.type "type"), data := (.cls { name := "Formatter", bases := [(.type "object")], mro := [(.ref 357), (.type "object")], ns := 356, qualname := "Formatter", hasDict := true, slotNames := [], subclasses := [], abstract := false, collection := none, hasDel := false }), slots := #[none, none, some (sv "Formatter" 455), some (sv "Formatter" 463), some (.builtin "object.__new__"), some (.bool true)] }),
  (365, { cls := .type "code", data := (.fields #[(sv "formatted" 658), (sv "formatted" 659), (sv "/claim/cut.py" 660), (.int 375 0), (.int 1 0), (.int 0 0), (.int 0 0), (.int 3 0), (.ref 362), (.bool true), (.int 181 0), (.ref 363), .none, .none, .none, (.ref 364), (.int 661 0), (.int 375 0), (sv "/claim/cut.py" 662)]) }),
  (366, fO (tS 27) "formatted" "moduleyard.formatter" 393 365),
  (372, { cls := .type "code", data := (.fields #[(sv "_law_stock" 666), (sv "_law_stock" 667), (sv "/claim/cut.py" 668), (.int 393 0), (.int 1 0), (.int 0 0), (.int 0 0), (.int 3 0), (.ref 367), (.bool true), (.int 181 0), (.ref 368), .none, (.ref 369), (.ref 370), (.ref 371), (.int 674 0), (.int 393 0), (sv "/claim/cut.py" 675)]) }),
  (373, fO (tS 29) "_law_stock" "law_pb0365_01" 664 372),
  (379, { cls := .type "code", data := (.fields #[(sv "_law_pick" 677), (sv "_law_pick" 678), (sv "/claim/cut.py" 679), (.int 407 0), (.int 2 0), (.int 0 0), (.int 0 0), (.int 3 0), (.ref 374), (.bool true), (.int 181 0), (.ref 375), .none, (.ref 376), (.ref 377), (.ref 378), (.int 682 0), (.int 407 0), (sv "/claim/cut.py" 683)]) }),
  (380, fO (tS 30) "_law_pick" "law_pb0365_01" 664 379),
  (384, { cls := .type "code", data := (.fields #[(sv "_law_tree" 685), (sv "_law_tree" 686), (sv "/claim/cut.py" 687), (.int 413 0), (.int 3 0), (.int 0 0), (.int 0 0), (.int 3 0), (.ref 381), (.bool true), (.int 181 0), (.ref 382), .none, .none, .none, (.ref 383), (.int 688 0), (.int 413 0), (sv "/claim/cut.py" 689)]) }),
  (385, fO (tS 31) "_law_tree" "law_pb0365_01" 664 384),
  (389, { cls := .type "code", data := (.fields #[(sv "_law_block" 691), (sv "_law_block" 692), (sv "/claim/cut.py" 693), (.int 423 0), (.int 3 0), (.int 0 0), (.int 0 0), (.int 3 0), (.ref 386), (.bool true), (.int 181 0), (.ref 387), .none, .none, .none, (.ref 388), (.int 694 0), (.int 423 0), (sv "/claim/cut.py" 695)]) }),
  (390, fO (tS 32) "_law_block" "law_pb0365_01" 664 389),
  (394, { cls := .type "code", data := (.fields #[(sv "_law_joined" 697), (sv "_law_joined" 698), (sv "/claim/cut.py" 699), (.int 425 0), (.int 1 0), (.int 0 0), (.int 0 0), (.int 3 0), (.ref 391), (.bool true), (.int 181 0), (.ref 392), .none, .none, .none, (.ref 393), (.int 700 0), (.int 425 0), (sv "/claim/cut.py" 701)]) }),
  (395, fO (tS 33) "_law_joined" "law_pb0365_01" 664 394),
  (399, { cls := .type "code", data := (.fields #[(sv "_law_flat" 703), (sv "_law_flat" 704), (sv "/claim/cut.py" 705), (.int 427 0), (.int 1 0), (.int 0 0), (.int 0 0), (.int 3 0), (.ref 396), (.bool true), (.int 181 0), (.ref 397), .none, .none, .none, (.ref 398), (.int 706 0), (.int 427 0), (sv "/claim/cut.py" 707)]) }),
  (400, fO (tS 34) "_law_flat" "law_pb0365_01" 664 399),
  (406, { cls := .type "code", data := (.fields #[(sv "_law_rows" 709), (sv "_law_rows" 710), (sv "/claim/cut.py" 711), (.int 440 0), (.int 2 0), (.int 0 0), (.int 0 0), (.int 3 0), (.ref 401), (.bool true), (.int 181 0), (.ref 402), .none, (.ref 403), (.ref 404), (.ref 405), (.int 716 0), (.int 440 0), (sv "/claim/cut.py" 717)]) }),
  (407, fO (tS 35) "_law_rows" "law_pb0365_01" 664 406),
  (413, { cls := .type "code", data := (.fields #[(sv "_law_laid" 719), (sv "_law_laid" 720), (sv "/claim/cut.py" 721), (.int 447 0), (.int 2 0), (.int 0 0), (.int 0 0), (.int 3 0), (.ref 408), (.bool true), (.int 181 0), (.ref 409), .none, (.ref 410), (.ref 411), (.ref 412), (.int 732 0), (.int 447 0), (sv "/claim/cut.py" 733)]) }),
  (414, fO (tS 36) "_law_laid" "law_pb0365_01" 664 413),
  (420, { cls := .type "code", data := (.fields #[(sv "_law_shift" 735), (sv "_law_shift" 736), (sv "/claim/cut.py" 737), (.int 473 0), (.int 4 0), (.int 0 0), (.int 0 0), (.int 3 0), (.ref 415), (.bool true), (.int 181 0), (.ref 416), .none, (.ref 417), (.ref 418), (.ref 419), (.int 746 0), (.int 473 0), (sv "/claim/cut.py" 747)]) }),
  (421, fO (tS 37) "_law_shift" "law_pb0365_01" 664 420),
  (427, { cls := .type "code", data := (.fields #[(sv "law" 749), (sv "law" 750), (sv "/claim/cut.py" 751), (.int 480 0), (.int 1 0), (.int 0 0), (.int 0 0), (.int 3 0), (.ref 422), (.bool true), (.int 181 0), (.ref 423), .none, (.ref 424), (.ref 425), (.ref 426), (.int 757 0), (.int 480 0), (sv "/claim/cut.py" 758)]) }),
  (428, fO (tS 38) "law" "law_pb0365_01" 664 427)]
noncomputable def KA : List Addr := [3, 52, 53, 59, 60, 66, 67, 73, 74, 87, 88, 90, 91, 101, 102, 108, 109, 115, 116, 122, 123, 129, 130, 136, 137, 143, 144, 150, 151, 157, 158, 164, 165, 178, 179, 181, 182, 192, 193, 199, 200, 206, 207, 220, 221, 227, 228, 234, 235, 241, 242, 248, 249, 255, 256, 262, 263, 269, 270, 276, 277, 283, 284, 290, 291, 297, 298, 304, 305, 311, 312, 318, 319, 325, 326, 332, 333, 339, 340, 346, 347, 353, 354, 356, 357, 365, 366, 372, 373, 379, 380, 384, 385, 389, 390, 394, 395, 399, 400, 406, 407, 413, 414, 420, 421, 427, 428]

noncomputable def HK : Hook := kHook K0 KA (fun P => by kernel_rfl)
noncomputable def QV : Program := view PW [1,2,4,5,6,7,9,10,11,12,13,14,15,16,17,18,19,21,22,23,24,25,26,27,29,30,31,32,33,34,35,36,37,38]
noncomputable abbrev RR := PySem.Challenge.rw_pb0365_01.row
noncomputable def XT : Shared → Bool := fun s => xlAt QV [] s && recOk (RowW.records RR.toRowW) s
noncomputable abbrev AN (w : World) := (boot_heap w.params).nsMap mainGlobals "__annotations__"
theorem run1 (w : World) : (fun os => (topT treeTable PW w 11 (AN w) 5430 (S0 w os) (topStub PW)).map (fun t => (fun s =>
   ((staticsOk (importedModules PW.main.body) (boot_heap w.params) s.heap && namesBound PW s.heap && gensDone s && laidKept (boot_heap w.params) s.heap),
        openSeen QV [] (importedModules PW.main.body) XT true s, HK.obs s)) t.abs)) = fun _ => some (true, openGood QV [], HK.val w) := by kernel_rfl
theorem S0_abs (w : World) (os : OsState) : (S0 w os).abs = ⟨boot_heap w.params, #[], boot_drawn, boot_toks, os⟩ := by kernel_rfl
theorem open0 : ∀ w : World, (fencedOpening treeTable PW w 5430).map (fun s => (s.heap, s.gens, s.drawn, s.toks)) = some (boot_heap w.params, Array.mk [], boot_drawn, boot_toks) :=
  boot_open (by kernel_rfl) (by decide) (fun s => by kernel_rfl)
theorem size1 (w : World) : (boot_heap w.params).objs.size = 11 := by kernel_rfl
theorem size2 (w : World) : ((boot_heap w.params).isNs mainGlobals && (#[] : Array GenState).size == 0) = true := by kernel_rfl
theorem left : LeftO PW QV [] XT HK.obs HK.val 5430 := fun w => by
  obtain ⟨⟨h, gs, d, k, os⟩, e, e'⟩ := Option.map_eq_some_iff.mp (open0 w)
  obtain ⟨rfl, rfl, rfl, rfl⟩ : h = boot_heap w.params ∧ gs = #[] ∧ d = boot_drawn ∧ k = boot_toks := by simpa using e'
  obtain ⟨t, r, l⟩ := Option.map_eq_some_iff.mp (congrFun (run1 w) os)
  obtain ⟨l1, l2, l3⟩ : _ ∧ _ ∧ _ := by simpa only [Prod.mk.injEq] using l
  have r := topT_of r
  rw [S0_abs, ← table_eq_tree] at r
  have tf : topFrom treeTable PW w 5430 ⟨boot_heap w.params, #[], boot_drawn, boot_toks, os⟩ = some t.abs := by
    rw [← table_eq_tree]
    unfold topFrom
    dsimp only
    rw [size2 w, size1 w, r]
    show (match staticsOk (importedModules PW.main.body) (boot_heap w.params) t.abs.heap && namesBound PW t.abs.heap && gensDone t.abs && laidKept (boot_heap w.params) t.abs.heap with | true => _ | false => _) = _
    rw [l1]
  unfold openEnds
  rw [e]
  show (topFrom treeTable PW w 5430 _).map _ = _
  rw [tf]
  exact congrArg some (Prod.ext l2 l3)
end
section
open PySem PySem.W PyProof.Rows

/-- codes of a written text -/
noncomputable def cd (s : String) : List Nat := s.toList.map Char.toNat
noncomputable abbrev sx (l : List Nat) : Str := ⟨l.toArray⟩
theorem ofString_cd (s : String) : Str.ofString s = sx (cd s) := Str.ofString_eq_toList s
theorem cd_inj {a b : String} (h : cd a = cd b) : a = b := by
  unfold cd at h
  have : a.toList = b.toList := by
    have hc : ∀ l m : List Char, l.map Char.toNat = m.map Char.toNat → l = m := by
      intro l
      induction l with
      | nil => intro m h; cases m with | nil => rfl | cons _ _ => cases h
      | cons x l ih =>
        intro m h
        cases m with
        | nil => cases h
        | cons y m =>
          simp only [List.map_cons, List.cons.injEq] at h
          have hxy : x = y := by
            exact Char.toNat_inj.mp h.1
          rw [hxy, ih m h.2]
    exact hc _ _ h
  rw [← String.ofList_toList (s := a), ← String.ofList_toList (s := b), this]
theorem ofString_inj {a b : String} (h : Str.ofString a = Str.ofString b) : a = b := by
  rw [ofString_cd, ofString_cd] at h
  have h' := congrArg (fun s => s.cps.toList) h
  exact cd_inj h'

set_option genSizeOf false in
inductive V where
  | none
  | bool (b : Bool)
  | int (i : Int)
  | str (s : List Nat)
  | ref (i : Nat)
  | tup (vs : List V)
  | lst (vs : List V)
  | rng (a b : Int)
  | dic (w : World) (es : List (String × List Nat))
  | ins (c : Addr) (fs : List (String × V))
  deriving Inhabited

set_option genSizeOf false in
inductive O where
  | list (xs : List V)
  | inst (c : Addr) (fs : List (String × V))

noncomputable abbrev Gh := Addr → Option (Bool × Obj)
set_option genSizeOf false in
set_option genInjectivity false in
structure Loc where
  a : Addr
  d : Option Addr
noncomputable def Loc.foot (l : Loc) : List Addr := l.a :: l.d.toList

noncomputable def rangeObj (a b : Int) (t u v : Tok) : Obj := { cls := .type "range", data := .fields #[.int a t, .int b u, .int 1 v] }
noncomputable def seqObj (c : String) (cs : List Value) (n : Nat) : Obj := { cls := .type c, data := .seq cs.toArray n }

mutual
noncomputable def VR (G : Gh) (μ : List Loc) : V → Value → Prop
  | .none, c => c = .none
  | .bool b, c => c = .bool b
  | .int i, c => ∃ t, c = .int i t
  | .str s, c => ∃ t, c = .str (sx s) t
  | .ref i, c => ∃ l, μ[i]? = some l ∧ c = .ref l.a
  | .tup vs, c => ∃ a cs n, c = .ref a ∧ G a = some (true, seqObj "tuple" cs n) ∧ VRs G μ vs cs
  | .lst vs, c => ∃ a cs n, c = .ref a ∧ G a = some (true, seqObj "list" cs n) ∧ VRs G μ vs cs
  | .rng x y, c => ∃ a t u v, c = .ref a ∧ G a = some (true, rangeObj x y t u v)
  | .dic w es, c => ∃ a o kvs, c = .ref a ∧ G a = some (true, o) ∧ (∀ h : Heap, h.get? a = some o → Heap.DictOf (PySem.strKind PW w) h a kvs) ∧ ∀ x s, es.lookup x = some s → ∃ t, valueAt kvs (Str.ofString x) = some (Value.str (sx s) t)
  | .ins C fs, c => ∃ a d ds n, c = .ref a ∧ G a = some (true, instObj C d) ∧ G d = some (true, dictOf ds n) ∧ DRs G μ fs ds
noncomputable def VRs (G : Gh) (μ : List Loc) : List V → List Value → Prop
  | [], cs => cs = []
  | v :: vs, cs => ∃ c r, cs = c :: r ∧ VR G μ v c ∧ VRs G μ vs r
noncomputable def DRs (G : Gh) (μ : List Loc) : List (String × V) → List DictEntry → Prop
  | [], ds => ds = []
  | (x, v) :: es, ds => ∃ hh t c r, ds = ⟨hh, .str (Str.ofString x) t, c⟩ :: r ∧ VR G μ v c ∧ DRs G μ es r
end

noncomputable def GLe (G G' : Gh) : Prop := ∀ a o, G a = some o → G' a = some o
noncomputable def VLe (G G' : Gh) : Prop := ∀ a o, G a = some (true, o) → G' a = some (true, o)
noncomputable def MLe (μ μ' : List Loc) : Prop := ∀ (i : Nat) (l : Loc), μ[i]? = some l → μ'[i]? = some l
theorem GLe.refl (G : Gh) : GLe G G := by intro _ _ h; exact h
theorem VLe.refl (G : Gh) : VLe G G := by intro _ _ h; exact h
theorem MLe.refl (μ : List Loc) : MLe μ μ := by intro _ _ h; exact h
theorem GLe.trans {a b c : Gh} (x : GLe a b) (y : GLe b c) : GLe a c := by intro _ _ h; exact y _ _ (x _ _ h)
theorem VLe.trans {a b c : Gh} (x : VLe a b) (y : VLe b c) : VLe a c := by intro _ _ h; exact y _ _ (x _ _ h)
theorem MLe.trans {a b c : List Loc} (x : MLe a b) (y : MLe b c) : MLe a c := by intro _ _ h; exact y _ _ (x _ _ h)
theorem GLe.v {a b : Gh} (x : GLe a b) : VLe a b := by intro _ _ h; exact x _ _ h

mutual
theorem VR.mono {G G' : Gh} {μ μ' : List Loc} (g : VLe G G') (m : MLe μ μ') : ∀ (v : V) (c : Value), VR G μ v c → VR G' μ' v c
  | .none, _, h => by simpa [VR] using h
  | .bool _, _, h => by simpa [VR] using h
  | .int _, _, h => by simpa [VR] using h
  | .str _, _, h => by simpa [VR] using h
  | .ref _, _, h => by
    simp only [VR] at h ⊢
    obtain ⟨l, h1, h2⟩ := h
    exact ⟨l, m _ _ h1, h2⟩
  | .tup vs, _, h => by
    simp only [VR] at h ⊢
    obtain ⟨a, cs, n, h1, h2, h3⟩ := h
    exact ⟨a, cs, n, h1, g _ _ h2, VRs.mono g m vs cs h3⟩
  | .lst vs, _, h => by
    simp only [VR] at h ⊢
    obtain ⟨a, cs, n, h1, h2, h3⟩ := h
    exact ⟨a, cs, n, h1, g _ _ h2, VRs.mono g m vs cs h3⟩
  | .rng _ _, _, h => by
    simp only [VR] at h ⊢
    obtain ⟨a, t, u, v, h1, h2⟩ := h
    exact ⟨a, t, u, v, h1, g _ _ h2⟩
  | .dic w es, _, h => by
    simp only [VR] at h ⊢
    obtain ⟨a, o, kvs, h1, h2, h3⟩ := h
    exact ⟨a, o, kvs, h1, g _ _ h2, h3⟩
  | .ins _ fs, _, h => by
    simp only [VR] at h ⊢
    obtain ⟨a, d, ds, n, h1, h2, h2', h3⟩ := h
    exact ⟨a, d, ds, n, h1, g _ _ h2, g _ _ h2', DRs.mono g m fs ds h3⟩
theorem VRs.mono {G G' : Gh} {μ μ' : List Loc} (g : VLe G G') (m : MLe μ μ') : ∀ (vs : List V) (cs : List Value), VRs G μ vs cs → VRs G' μ' vs cs
  | [], _, h => by simpa [VRs] using h
  | v :: vs, _, h => by
    simp only [VRs] at h ⊢
    obtain ⟨c, r, h1, h2, h3⟩ := h
    exact ⟨c, r, h1, VR.mono g m v c h2, VRs.mono g m vs r h3⟩
theorem DRs.mono {G G' : Gh} {μ μ' : List Loc} (g : VLe G G') (m : MLe μ μ') : ∀ (es : List (String × V)) (ds : List DictEntry), DRs G μ es ds → DRs G' μ' es ds
  | [], _, h => by simpa [DRs] using h
  | (x, v) :: es, _, h => by
    simp only [DRs] at h ⊢
    obtain ⟨hh, t, c, r, h1, h2, h3⟩ := h
    exact ⟨hh, t, c, r, h1, VR.mono g m v c h2, DRs.mono g m es r h3⟩
end
theorem VRs.nil (G : Gh) (μ : List Loc) : VRs G μ [] [] := by simp [VRs]
theorem VRs.cons {G : Gh} {μ : List Loc} {v : V} {c : Value} {vs : List V} {cs : List Value} (h : VR G μ v c) (hs : VRs G μ vs cs) : VRs G μ (v :: vs) (c :: cs) := by
  simp only [VRs]; exact ⟨c, cs, rfl, h, hs⟩
theorem VRs.len {G : Gh} {μ : List Loc} : ∀ {vs : List V} {cs : List Value}, VRs G μ vs cs → cs.length = vs.length
  | [], _, h => by simp only [VRs] at h; subst h; rfl
  | v :: vs, _, h => by
    simp only [VRs] at h
    obtain ⟨c, r, rfl, _, h3⟩ := h
    simp [VRs.len h3]
theorem VRs.append {G : Gh} {μ : List Loc} : ∀ {vs : List V} {cs : List Value} {ws ds}, VRs G μ vs cs → VRs G μ ws ds → VRs G μ (vs ++ ws) (cs ++ ds)
  | [], _, _, _, h, k => by simp only [VRs] at h; subst h; exact k
  | v :: vs, _, _, _, h, k => by
    simp only [VRs] at h
    obtain ⟨c, r, rfl, h2, h3⟩ := h
    exact VRs.cons h2 (VRs.append h3 k)
theorem VRs.get {G : Gh} {μ : List Loc} : ∀ {vs : List V} {cs : List Value} {i : Nat} {v : V}, VRs G μ vs cs → vs[i]? = some v → ∃ c, cs[i]? = some c ∧ VR G μ v c
  | [], _, _, _, _, e => by cases e
  | v :: vs, _, 0, _, h, e => by
    simp only [VRs] at h
    obtain ⟨c, r, rfl, h2, h3⟩ := h
    cases e
    exact ⟨c, rfl, h2⟩
  | v :: vs, _, i + 1, _, h, e => by
    simp only [VRs] at h
    obtain ⟨c, r, rfl, h2, h3⟩ := h
    exact VRs.get (i := i) h3 e
theorem VRs.set {G : Gh} {μ : List Loc} {v : V} {c : Value} (hv : VR G μ v c) : ∀ {vs : List V} {cs : List Value} {i : Nat}, VRs G μ vs cs → VRs G μ (vs.set i v) (cs.set i c)
  | [], _, _, h => by simp only [VRs] at h; subst h; exact VRs.nil G μ
  | w :: vs, _, 0, h => by
    simp only [VRs] at h
    obtain ⟨d, r, rfl, h2, h3⟩ := h
    exact VRs.cons hv h3
  | w :: vs, _, i + 1, h => by
    simp only [VRs] at h
    obtain ⟨d, r, rfl, h2, h3⟩ := h
    exact VRs.cons h2 (VRs.set hv h3)
theorem VRs.take {G : Gh} {μ : List Loc} : ∀ {vs : List V} {cs : List Value} (n : Nat), VRs G μ vs cs → VRs G μ (vs.take n) (cs.take n)
  | [], _, n, h => by simp only [VRs] at h; subst h; simp [VRs]
  | w :: vs, _, 0, h => by simp [VRs]
  | w :: vs, _, i + 1, h => by
    simp only [VRs] at h
    obtain ⟨d, r, rfl, h2, h3⟩ := h
    exact VRs.cons h2 (VRs.take i h3)
theorem VRs.reverse {G : Gh} {μ : List Loc} : ∀ {vs : List V} {cs : List Value}, VRs G μ vs cs → VRs G μ vs.reverse cs.reverse
  | [], _, h => by simp only [VRs] at h; subst h; exact VRs.nil G μ
  | v :: vs, _, h => by
    simp only [VRs] at h
    obtain ⟨c, r, rfl, h2, h3⟩ := h
    rw [List.reverse_cons, List.reverse_cons]
    exact VRs.append (VRs.reverse h3) (VRs.cons h2 (VRs.nil G μ))
end
section
open PySem PySem.W PyProof.Rows

set_option genSizeOf false in
set_option genInjectivity false in
structure W0 where
  w : World
  B : Heap
  mg : Str → Option Value
  mb : Str → Option Value
  X : (K0 w.params).In B
  T : TopRead QV (looseW QV []) mg mb B
  gens : Array GenState
  drawn : Drawn
  os : OsState

noncomputable def W0.K (W : W0) : Frag := K0 W.w.params
noncomputable abbrev thePr : Program := PW
noncomputable abbrev W0.M (W : W0) : Model := model thePr W.w

noncomputable def ObjR (G : Gh) (μ : List Loc) (h : Heap) (l : Loc) : O → Prop
  | .list xs => ∃ cs n, l.d = none ∧ h.get? l.a = some (seqObj "list" cs n) ∧ VRs G μ xs cs
  | .inst c fs => ∃ dx ds n, l.d = some dx ∧ h.get? l.a = some (instObj c dx) ∧ h.get? dx = some (dictOf ds n) ∧ DRs G μ fs ds

set_option genSizeOf false in
structure HP (W : W0) (G : Gh) (μ : List Loc) (H : List O) (h : Heap) : Prop where
  base : ∀ b o, W.B.get? b = some o → ∃ t, G b = some (t, o)
  keep : ∀ b t o, G b = some (t, o) → h.get? b = some o
  len : μ.length = H.length
  obj : ∀ (i : Nat) o l, H[i]? = some o → μ[i]? = some l → ObjR G μ h l o
  fresh : ∀ b ∈ μ.flatMap Loc.foot, G b = none
  sep : (μ.flatMap Loc.foot).Nodup

theorem mem_foot {μ : List Loc} {i : Nat} {l : Loc} {b : Addr} (h : μ[i]? = some l) (hb : b ∈ l.foot) : b ∈ μ.flatMap Loc.foot :=
  List.mem_flatMap.mpr ⟨l, List.mem_of_getElem? h, hb⟩

theorem ObjR.alive {G : Gh} {μ : List Loc} {h : Heap} {l : Loc} {o : O} (x : ObjR G μ h l o) {b : Addr} (hb : b ∈ l.foot) : ∃ o', h.get? b = some o' := by
  obtain ⟨a, d⟩ := l
  cases o with
  | list xs =>
    obtain ⟨cs, n, hd, ha, _⟩ := x
    simp only at hd ha
    subst hd
    simp only [Loc.foot, Option.toList, List.mem_cons, List.not_mem_nil, or_false] at hb
    subst hb
    exact ⟨_, ha⟩
  | inst c fs =>
    obtain ⟨dx, ds, n, hd, ha, hdx, _⟩ := x
    simp only at hd ha
    subst hd
    simp only [Loc.foot, Option.toList, List.mem_cons, List.not_mem_nil, or_false] at hb
    rcases hb with rfl | rfl
    · exact ⟨_, ha⟩
    · exact ⟨_, hdx⟩

theorem HP.alive {W : W0} {G : Gh} {μ : List Loc} {H : List O} {h : Heap} (P : HP W G μ H h) {b : Addr} (hb : b ∈ μ.flatMap Loc.foot) : ∃ o, h.get? b = some o := by
  obtain ⟨l, hl, hb⟩ := List.mem_flatMap.mp hb
  obtain ⟨i, hi, e⟩ := List.getElem_of_mem hl
  have hi' : i < H.length := by rw [← P.len]; exact hi
  have h1 : H[i]? = some H[i] := List.getElem?_eq_getElem hi'
  have h2 : μ[i]? = some l := by rw [List.getElem?_eq_getElem hi, e]
  exact (P.obj i _ l h1 h2).alive hb

theorem HP.K {W : W0} {G : Gh} {μ : List Loc} {H : List O} {h : Heap} (P : HP W G μ H h) : W.K.In h := fun a o e => by
  obtain ⟨t, ht⟩ := P.base a o (W.X a o e)
  exact P.keep _ _ _ ht
theorem HP.stays {W : W0} {G : Gh} {μ : List Loc} {H : List O} {h : Heap} (P : HP W G μ H h) : ∀ b o, W.B.get? b = some o → h.get? b = some o := fun a o e => by
  obtain ⟨t, ht⟩ := P.base a o e
  exact P.keep _ _ _ ht
theorem HP.top {W : W0} {G : Gh} {μ : List Loc} {H : List O} {h : Heap} (P : HP W G μ H h) : TopRead QV (looseW QV []) W.mg W.mb h := W.T.keeps P.stays

theorem ObjR.mono {G G' : Gh} {μ μ' : List Loc} {h h' : Heap} {l : Loc} {o : O} (x : ObjR G μ h l o) (g : VLe G G') (m : MLe μ μ') (k : ∀ b ∈ l.foot, h'.get? b = h.get? b) : ObjR G' μ' h' l o := by
  obtain ⟨a, d⟩ := l
  cases o with
  | list xs =>
    obtain ⟨cs, n, hd, ha, hv⟩ := x
    exact ⟨cs, n, hd, (k a (List.mem_cons_self)).trans ha, VRs.mono g m _ _ hv⟩
  | inst c fs =>
    obtain ⟨dx, ds, n, hd, ha, hdx, hv⟩ := x
    simp only at hd
    subst hd
    exact ⟨dx, ds, n, rfl, (k a (by simp [Loc.foot])).trans ha, (k dx (by simp [Loc.foot])).trans hdx, DRs.mono g m _ _ hv⟩

/-- nothing of what is known is touched -/
theorem HP.same {W : W0} {G : Gh} {μ : List Loc} {H : List O} {h h' : Heap} (P : HP W G μ H h) (k : ∀ b o, h.get? b = some o → h'.get? b = some o) : HP W G μ H h' where
  base := P.base
  keep := fun b t o e => k b o (P.keep b t o e)
  len := P.len
  obj := fun i o l h1 h2 => (P.obj i o l h1 h2).mono (VLe.refl G) (MLe.refl μ) (fun b hb => by
    obtain ⟨o', e⟩ := (P.obj i o l h1 h2).alive hb
    rw [e]; exact k _ _ e)
  fresh := P.fresh
  sep := P.sep

noncomputable def Gh.put (G : Gh) (a : Addr) (x : Bool × Obj) : Gh := fun b => if b = a then some x else G b
noncomputable def Gh.del (G : Gh) (a : Addr) : Gh := fun b => if b = a then none else G b
theorem put_le {G : Gh} {a : Addr} {x : Bool × Obj} (h : G a = none) : GLe G (G.put a x) := by
  intro b o e
  unfold Gh.put
  by_cases hb : b = a
  · subst hb; rw [h] at e; cases e
  · rw [if_neg hb]; exact e
theorem put_get {G : Gh} {a : Addr} {x : Bool × Obj} : (G.put a x) a = some x := by unfold Gh.put; rw [if_pos rfl]

/-- a fresh object is frozen -/
theorem HP.put {W : W0} {G : Gh} {μ : List Loc} {H : List O} {h : Heap} (P : HP W G μ H h) {a : Addr} {t : Bool} {o : Obj} (ha : h.get? a = some o) (hn : G a = none) (hf : a ∉ μ.flatMap Loc.foot) : HP W (G.put a (t, o)) μ H h where
  base := fun b x e => by
    obtain ⟨t', e'⟩ := P.base b x e
    exact ⟨t', put_le hn _ _ e'⟩
  keep := fun b t' x e => by
    unfold Gh.put at e
    by_cases hb : b = a
    · rw [if_pos hb] at e; cases e; rw [hb]; exact ha
    · rw [if_neg hb] at e; exact P.keep b t' x e
  len := P.len
  obj := fun i x l h1 h2 => (P.obj i x l h1 h2).mono (put_le hn).v (MLe.refl μ) fun _ _ => rfl
  fresh := fun b hb => by
    unfold Gh.put
    rw [if_neg (fun e => hf (by rw [← e]; exact hb))]
    exact P.fresh b hb
  sep := P.sep

theorem HP.not_known {W : W0} {G : Gh} {μ : List Loc} {H : List O} {h : Heap} (P : HP W G μ H h) {a : Addr} (ha : h.get? a = none) : G a = none ∧ a ∉ μ.flatMap Loc.foot := by
  refine ⟨?_, fun hb => ?_⟩
  · cases e : G a with
    | none => rfl
    | some x => rw [P.keep a x.1 x.2 e] at ha; cases ha
  · obtain ⟨o, e⟩ := P.alive hb
    rw [e] at ha; cases ha

theorem size_none (h : Heap) : h.get? h.objs.size = none := by
  cases e : h.get? h.objs.size with
  | none => rfl
  | some o => exact absurd (Heap.lt_size e) (Nat.lt_irrefl _)

theorem HP.frozen {W : W0} {G : Gh} {μ : List Loc} {H : List O} {h : Heap} (P : HP W G μ H h) {o : Obj} (hf : o.isFreed = false) (t : Bool) :
    GLe G (G.put h.objs.size (t, o)) ∧ HP W (G.put h.objs.size (t, o)) μ H (h.push o) := by
  obtain ⟨n1, n2⟩ := P.not_known (size_none h)
  exact ⟨put_le n1, (P.same fun b x e => Heap.get?_push_of_some _ e).put (Heap.get?_push_size _ hf) n1 n2⟩

theorem mle_app (μ ν : List Loc) : MLe μ (μ ++ ν) := by
  intro i l e
  rw [List.getElem?_append_left (List.getElem?_eq_some_iff.mp e).1]; exact e

theorem VRs.up {G G' : Gh} {μ μ' : List Loc} {vs : List V} {cs : List Value} (h : VRs G μ vs cs) (g : GLe G G') (m : MLe μ μ') : VRs G' μ' vs cs := VRs.mono g.v m _ _ h
theorem VR.up {G G' : Gh} {μ μ' : List Loc} {v : V} {c : Value} (h : VR G μ v c) (g : GLe G G') (m : MLe μ μ') : VR G' μ' v c := VR.mono g.v m _ _ h
/-- a fresh list is owned -/
theorem HP.newList {W : W0} {G : Gh} {μ : List Loc} {H : List O} {h h' : Heap} (P : HP W G μ H h) {a : Addr} {xs : List V} {cs : List Value} {n : Nat} (ha : h.get? a = none) (k : ∀ b o, h.get? b = some o → h'.get? b = some o)
    (ho : h'.get? a = some (seqObj "list" cs n)) (hv : VRs G μ xs cs) : HP W G (μ ++ [⟨a, none⟩]) (H ++ [.list xs]) h' := by
  obtain ⟨n1, n2⟩ := P.not_known ha
  have hm := mle_app μ [⟨a, none⟩]
  refine ⟨P.base, fun b t o e => k b o (P.keep b t o e), by simp [P.len], fun i o l h1 h2 => ?_, fun b hb => ?_, ?_⟩
  · by_cases hi : i < H.length
    · rw [List.getElem?_append_left hi] at h1
      rw [List.getElem?_append_left (by rw [P.len]; exact hi)] at h2
      refine (P.obj i o l h1 h2).mono (VLe.refl G) hm fun b hb => ?_
      obtain ⟨o', e⟩ := (P.obj i o l h1 h2).alive hb
      rw [e]; exact k _ _ e
    · have h1' := List.getElem?_eq_some_iff.mp h1
      have hi' : i = H.length := by have := h1'.1; simp at this; omega
      subst hi'
      rw [List.getElem?_append_right (Nat.le_refl _), Nat.sub_self] at h1
      rw [← P.len, List.getElem?_append_right (Nat.le_refl _), Nat.sub_self] at h2
      cases h1; cases h2
      exact ⟨cs, n, rfl, ho, VRs.mono (VLe.refl G) hm _ _ hv⟩
  · rw [List.flatMap_append, List.mem_append] at hb
    rcases hb with hb | hb
    · exact P.fresh b hb
    · simp [Loc.foot] at hb; rw [hb]; exact n1
  · rw [List.flatMap_append, List.nodup_append]
    refine ⟨P.sep, by simp [Loc.foot], fun b hb c hc => ?_⟩
    simp [Loc.foot] at hc
    rintro rfl
    exact n2 (hc ▸ hb)

theorem HP.newInst {W : W0} {G : Gh} {μ : List Loc} {H : List O} {h h' : Heap} (P : HP W G μ H h) {a d c : Addr} {n : Nat} (ha : h.get? a = none) (hd : h.get? d = none) (hne : a ≠ d) (k : ∀ b o, h.get? b = some o → h'.get? b = some o)
    (ho : h'.get? a = some (instObj c d)) (hdo : h'.get? d = some (dictOf [] n)) : HP W G (μ ++ [⟨a, some d⟩]) (H ++ [.inst c []]) h' := by
  obtain ⟨n1, n2⟩ := P.not_known ha
  obtain ⟨n3, n4⟩ := P.not_known hd
  have hm := mle_app μ [⟨a, some d⟩]
  refine ⟨P.base, fun b t o e => k b o (P.keep b t o e), by simp [P.len], fun i o l h1 h2 => ?_, fun b hb => ?_, ?_⟩
  · by_cases hi : i < H.length
    · rw [List.getElem?_append_left hi] at h1
      rw [List.getElem?_append_left (by rw [P.len]; exact hi)] at h2
      refine (P.obj i o l h1 h2).mono (VLe.refl G) hm fun b hb => ?_
      obtain ⟨o', e⟩ := (P.obj i o l h1 h2).alive hb
      rw [e]; exact k _ _ e
    · have h1' := List.getElem?_eq_some_iff.mp h1
      have hi' : i = H.length := by have := h1'.1; simp at this; omega
      subst hi'
      rw [List.getElem?_append_right (Nat.le_refl _), Nat.sub_self] at h1
      rw [← P.len, List.getElem?_append_right (Nat.le_refl _), Nat.sub_self] at h2
      cases h1; cases h2
      exact ⟨d, [], n, rfl, ho, hdo, by simp [DRs]⟩
  · rw [List.flatMap_append, List.mem_append] at hb
    rcases hb with hb | hb
    · exact P.fresh b hb
    · simp [Loc.foot] at hb
      rcases hb with rfl | rfl
      · exact n1
      · exact n3
  · rw [List.flatMap_append, List.nodup_append]
    refine ⟨P.sep, by simp [Loc.foot, hne], fun b hb c' hc => ?_⟩
    simp [Loc.foot] at hc
    rintro rfl
    rcases hc with rfl | rfl
    · exact n2 hb
    · exact n4 hb

theorem foot_ne {μ : List Loc} (sep : (μ.flatMap Loc.foot).Nodup) {i j : Nat} {l m : Loc} (hi : μ[i]? = some l) (hj : μ[j]? = some m) (ne : i ≠ j) {a b : Addr} (ha : a ∈ l.foot) (hb : b ∈ m.foot) : a ≠ b := by
  induction μ generalizing i j with
  | nil => cases hi
  | cons x μ ih =>
    rw [List.flatMap_cons, List.nodup_append] at sep
    cases i with
    | zero =>
      cases j with
      | zero => exact absurd rfl ne
      | succ j =>
        cases hi
        exact sep.2.2 a ha b (mem_foot hj hb)
    | succ i =>
      cases j with
      | zero =>
        cases hj
        exact (sep.2.2 b hb a (mem_foot hi ha)).symm
      | succ j => exact ih sep.2.1 hi hj (by walk_at "om")

/-- a known address is written anew -/
theorem HP.write {W : W0} {G : Gh} {μ : List Loc} {H : List O} {h h' : Heap} (P : HP W G μ H h) {i : Nat} {o o' : O} {l : Loc} {b : Addr} (hi : H[i]? = some o) (hl : μ[i]? = some l) (hb : b ∈ l.foot) (hs : Heap.SameBut b h h') (hn : ObjR G μ h' l o') : HP W G μ (H.set i o') h' := by
  have hG := P.fresh b (mem_foot hl hb)
  refine ⟨P.base, fun c t x e => ?_, by simp [P.len], fun j x m h1 h2 => ?_, P.fresh, P.sep⟩
  · rw [hs.2 c (by rintro rfl; rw [hG] at e; cases e)]; exact P.keep c t x e
  · rw [List.getElem?_set] at h1
    by_cases hij : i = j
    · subst hij
      rw [if_pos rfl] at h1
      rw [hl] at h2
      cases h2
      split at h1
      · cases h1; exact hn
      · cases h1
    · rw [if_neg hij] at h1
      exact (P.obj j x m h1 h2).mono (VLe.refl G) (MLe.refl μ) fun c hc => hs.2 c (foot_ne P.sep hl h2 hij hb hc).symm
end
section
open PySem PySem.W PyProof.Rows

noncomputable abbrev Rho := List (String × V)
noncomputable def RhoR (G : Gh) (μ : List Loc) (env : Env) (ρ : Rho) (m : Str → Option Value) : Prop :=
  ∀ x v, ρ.lookup x = some v → ∃ c, VR G μ v c ∧ ((env.kindOf (Str.ofString x) = some .local ∧ m (Str.ofString x) = some c) ∨
    ((env.kindOf (Str.ofString x) = some .cell ∨ env.kindOf (Str.ofString x) = some .free) ∧ (Str.ofString x == ("__classdict__" : Str)) = false ∧ ∃ a o, env.cells.lookup (Str.ofString x) = some a ∧ G a = some (false, o) ∧ o.data = .cell (some c)))

set_option genSizeOf false in
structure GoodEnv (env : Env) : Prop where
  kind : env.scope.kind = .function
  globals : env.globals = mainGlobals
  builtins : env.builtins = builtinsNs

set_option genSizeOf false in
structure SG (W : W0) (s : Shared) : Prop where
  gens : s.gens = W.gens
  drawn : s.drawn = W.drawn
  os : s.os = W.os

set_option genSizeOf false in
structure St (W : W0) (env : Env) (ρ : Rho) (G : Gh) (μ : List Loc) (H : List O) (s : Shared) : Prop where
  sg : SG W s
  hp : HP W G μ H s.heap
  genv : GoodEnv env
  ns : ∃ m, s.heap.Ns env.locals m ∧ RhoR G μ env ρ m
  nG : G env.locals = none
  nF : env.locals ∉ μ.flatMap Loc.foot

set_option genSizeOf false in
structure Room (n : Nat) (A : Around) : Prop where
  depth : A.depth + 4 * n + 8 ≤ recursionLimit
  units : A.units + 16 * n + 128 ≤ cLine
  handled : A.handled = none

theorem Room.deeper {n : Nat} {A : Around} (r : Room (n + 1) A) (env : Env) : Room n (A.deeper env) := ⟨by have := r.depth; show A.depth + 1 + 4 * n + 8 ≤ _; omega, by have := r.units; show A.units + 3 + 16 * n + 128 ≤ _; omega, r.handled⟩

noncomputable abbrev NoE : Value → Shared → Prop := fun _ _ => False

section
variable {W : W0} {n : Nat} {env : Env} {ρ : Rho} {G : Gh} {μ : List Loc} {H : List O} {s : Shared}

theorem SG.toks (h : SG W s) (k : Nat) : SG W { s with toks := k } := ⟨h.gens, h.drawn, h.os⟩
theorem SG.heap (h : SG W s) (hp : Heap) (k : Nat) : SG W { s with heap := hp, toks := k } := ⟨h.gens, h.drawn, h.os⟩
theorem St.toks (h : St W env ρ G μ H s) (k : Nat) : St W env ρ G μ H { s with toks := k } := ⟨h.sg.toks k, h.hp, h.genv, h.ns, h.nG, h.nF⟩

theorem RhoR.mono {G' : Gh} {μ' : List Loc} {m : Str → Option Value} (h : RhoR G μ env ρ m) (g : GLe G G') (mm : MLe μ μ') : RhoR G' μ' env ρ m := fun x v e => by
  obtain ⟨c, hc, r⟩ := h x v e
  refine ⟨c, hc.up g mm, r.imp id ?_⟩
  rintro ⟨h1, h1', a, o, h2, h3, h4⟩
  exact ⟨h1, h1', a, o, h2, g _ _ h3, h4⟩

/-- the heap has grown, nothing known is touched -/
theorem St.grow (h : St W env ρ G μ H s) {h' : Heap} (k : ∀ b o, s.heap.get? b = some o → h'.get? b = some o) (t : Nat) : St W env ρ G μ H { s with heap := h', toks := t } := by
  obtain ⟨m, hn, hr⟩ := h.ns
  exact ⟨h.sg.heap _ _, h.hp.same k, h.genv, ⟨m, hn.keeps k, hr⟩, h.nG, h.nF⟩

/-- a new state over the same frame -/
theorem St.next (h : St W env ρ G μ H s) {G' : Gh} {μ' : List Loc} {H' : List O} {h' : Heap} {t : Nat} (g : GLe G G') (mm : MLe μ μ') (P : HP W G' μ' H' h') (kL : h'.get? env.locals = s.heap.get? env.locals) (nG : G' env.locals = none) (nF : env.locals ∉ μ'.flatMap Loc.foot) :
    St W env ρ G' μ' H' { s with heap := h', toks := t } := by
  obtain ⟨m, ⟨o, es, ep, ho, r⟩, hr⟩ := h.ns
  exact ⟨h.sg.heap _ _, P, h.genv, ⟨m, ⟨o, es, ep, kL.trans ho, r⟩, hr.mono g mm⟩, nG, nF⟩

theorem St.loc_lt (h : St W env ρ G μ H s) : env.locals < s.heap.objs.size := by
  obtain ⟨m, hn, _⟩ := h.ns
  exact hn.lt

/-- a fresh frozen object -/
theorem St.frozen (h : St W env ρ G μ H s) {o : Obj} (hf : o.isFreed = false) (t : Nat) :
    GLe G (G.put s.heap.objs.size (true, o)) ∧ St W env ρ (G.put s.heap.objs.size (true, o)) μ H { s with heap := s.heap.push o, toks := t } := by
  obtain ⟨g, P⟩ := h.hp.frozen hf true
  refine ⟨g, h.next g (MLe.refl μ) P ?_ ?_ h.nF⟩
  · obtain ⟨m, ⟨o', es, ep, ho, r⟩, hr⟩ := h.ns
    rw [ho]; exact Heap.get?_push_of_some _ ho
  · unfold Gh.put; rw [if_neg (Nat.ne_of_lt h.loc_lt)]; exact h.nG

/-- a fresh list -/
theorem St.newList (h : St W env ρ G μ H s) {xs : List V} {cs : List Value} (hv : VRs G μ xs cs) (t : Nat) :
    St W env ρ G (μ ++ [⟨s.heap.objs.size, none⟩]) (H ++ [.list xs]) { s with heap := s.heap.push (seqObj "list" cs 0), toks := t } := by
  have P := h.hp.newList (h' := s.heap.push (seqObj "list" cs 0)) (size_none s.heap) (fun b o e => Heap.get?_push_of_some _ e) (Heap.get?_push_size _ rfl) hv
  refine h.next (GLe.refl G) (mle_app _ _) P ?_ h.nG ?_
  · obtain ⟨m, ⟨o', es, ep, ho, r⟩, hr⟩ := h.ns
    rw [ho]; exact Heap.get?_push_of_some _ ho
  · rw [List.flatMap_append, List.mem_append]
    rintro (hb | hb)
    · exact h.nF hb
    · simp [Loc.foot] at hb
      exact absurd hb (Nat.ne_of_lt h.loc_lt)

/-- a known address is written anew -/
theorem St.write (h : St W env ρ G μ H s) {h' : Heap} {t : Nat} {i : Nat} {o o' : O} {l : Loc} {b : Addr} (hi : H[i]? = some o) (hl : μ[i]? = some l) (hb : b ∈ l.foot) (hs : Heap.SameBut b s.heap h') (hn : ObjR G μ h' l o') :
    St W env ρ G μ (H.set i o') { s with heap := h', toks := t } := by
  refine h.next (GLe.refl G) (MLe.refl μ) (h.hp.write hi hl hb hs hn) (hs.2 _ ?_) h.nG h.nF
  rintro e
  exact h.nF (e ▸ mem_foot hl hb)
end

/-- what an expression's walk leaves -/
noncomputable def PostV (W : W0) (env : Env) (ρ : Rho) (G : Gh) (μ : List Loc) (Q : V → List O → Prop) (c : Value) (s' : Shared) : Prop :=
  ∃ v G' μ' H', GLe G G' ∧ MLe μ μ' ∧ St W env ρ G' μ' H' s' ∧ VR G' μ' v c ∧ Q v H'
noncomputable def PostVs (W : W0) (env : Env) (ρ : Rho) (G : Gh) (μ : List Loc) (Q : List V → List O → Prop) (cs : List Value) (s' : Shared) : Prop :=
  ∃ vs G' μ' H', GLe G G' ∧ MLe μ μ' ∧ St W env ρ G' μ' H' s' ∧ VRs G' μ' vs cs ∧ Q vs H'
noncomputable def PostB (W : W0) (env : Env) (ρ : Rho) (G : Gh) (μ : List Loc) (Q : Bool → List O → Prop) (b : Bool) (s' : Shared) : Prop :=
  ∃ G' μ' H', GLe G G' ∧ MLe μ μ' ∧ St W env ρ G' μ' H' s' ∧ Q b H'
set_option genSizeOf false in
inductive Fl where
  | next | brk | cont
  | ret (v : V)
noncomputable def FlR (G : Gh) (μ : List Loc) : Fl → Flow → Prop
  | .next, f => f = .next
  | .brk, f => f = .brk
  | .cont, f => f = .cont
  | .ret v, f => ∃ c, f = .ret c ∧ VR G μ v c
noncomputable def PostF (W : W0) (env : Env) (G : Gh) (μ : List Loc) (Q : Fl → Rho → List O → Prop) (f : Flow) (s' : Shared) : Prop :=
  ∃ fl ρ' G' μ' H', GLe G G' ∧ MLe μ μ' ∧ St W env ρ' G' μ' H' s' ∧ FlR G' μ' fl f ∧ Q fl ρ' H'
noncomputable def EvalOk (W : W0) (n : Nat) (env : Env) (e : Expr) (ρ : Rho) (H : List O) (Q : V → List O → Prop) : Prop :=
  ∀ A G μ s, Room n A → St W env ρ G μ H s → wpAny W.M A (eval e env) (PostV W env ρ G μ Q) NoE s
noncomputable def EvalsOk (W : W0) (n : Nat) (env : Env) (es : List Expr) (ρ : Rho) (H : List O) (Q : List V → List O → Prop) : Prop :=
  ∀ A G μ s pos, Room n A → St W env ρ G μ H s → wpAny W.M A (spliced (backTo pos (starEach es env))) (PostVs W env ρ G μ Q) NoE s
noncomputable def TestOk (W : W0) (n : Nat) (env : Env) (e : Expr) (ρ : Rho) (H : List O) (Q : Bool → List O → Prop) : Prop :=
  ∀ A G μ s, Room n A → St W env ρ G μ H s → wpAny W.M A (isTrue e env (eval e env)) (PostB W env ρ G μ Q) NoE s
noncomputable def ExecOk (W : W0) (n : Nat) (env : Env) (st : Stmt) (ρ : Rho) (H : List O) (Q : Fl → Rho → List O → Prop) : Prop :=
  ∀ A G μ s, Room n A → St W env ρ G μ H s → wpAny W.M A (exec st env) (PostF W env G μ Q) NoE s
noncomputable def ExecsOk (W : W0) (n : Nat) (env : Env) (sts : List Stmt) (ρ : Rho) (H : List O) (Q : Fl → Rho → List O → Prop) : Prop :=
  ∀ A G μ s, Room n A → St W env ρ G μ H s → wpAny W.M A (execs sts env) (PostF W env G μ Q) NoE s
/-- one operand, in hand -/
noncomputable def Op1Ok (W : W0) (n : Nat) (env : Env) (f : Value → Sem Value) (a : V) (ρ : Rho) (H : List O) (Q : V → List O → Prop) : Prop :=
  ∀ A G μ s ca, Room n A → St W env ρ G μ H s → VR G μ a ca → wpAny W.M A (f ca) (PostV W env ρ G μ Q) NoE s
noncomputable def Op2Ok (W : W0) (n : Nat) (env : Env) (f : Value → Value → Sem Value) (a b : V) (ρ : Rho) (H : List O) (Q : V → List O → Prop) : Prop :=
  ∀ A G μ s ca cb, Room n A → St W env ρ G μ H s → VR G μ a ca → VR G μ b cb → wpAny W.M A (f ca cb) (PostV W env ρ G μ Q) NoE s
/-- a call, from any frame -/
noncomputable def CallOk (W : W0) (n : Nat) (f : Value) (args : List V) (H : List O) (Q : V → List O → Prop) : Prop :=
  ∀ A G μ s cs, Room n A → SG W s → HP W G μ H s.heap → VRs G μ args cs →
    codeAny W.M A (.call f ⟨cs, []⟩) (fun r s' => ∃ c v G' μ' H', r = .ok (.ret c) ∧ GLe G G' ∧ MLe μ μ' ∧ SG W s' ∧ HP W G' μ' H' s'.heap ∧ VR G' μ' v c ∧ Q v H') s

section
variable {W : W0} {n : Nat} {env : Env} {ρ : Rho} {G : Gh} {μ : List Loc} {H : List O} {s : Shared} {A : Around}

theorem postV {Q : V → List O → Prop} {v : V} {c : Value} (h : St W env ρ G μ H s) (r : VR G μ v c) (q : Q v H) : PostV W env ρ G μ Q c s := ⟨v, G, μ, H, GLe.refl G, MLe.refl μ, h, r, q⟩
theorem postVs {Q : List V → List O → Prop} {v : List V} {c : List Value} (h : St W env ρ G μ H s) (r : VRs G μ v c) (q : Q v H) : PostVs W env ρ G μ Q c s := ⟨v, G, μ, H, GLe.refl G, MLe.refl μ, h, r, q⟩
theorem postB {Q : Bool → List O → Prop} {b : Bool} (h : St W env ρ G μ H s) (q : Q b H) : PostB W env ρ G μ Q b s := ⟨G, μ, H, GLe.refl G, MLe.refl μ, h, q⟩

theorem PostV.up {G₀ : Gh} {μ₀ : List Loc} {Q : V → List O → Prop} {c : Value} (g : GLe G₀ G) (m : MLe μ₀ μ) (h : PostV W env ρ G μ Q c s) : PostV W env ρ G₀ μ₀ Q c s :=
  let ⟨v, G', μ', H', g', m', r⟩ := h; ⟨v, G', μ', H', g.trans g', m.trans m', r⟩
theorem PostB.up {G₀ : Gh} {μ₀ : List Loc} {Q : Bool → List O → Prop} {c : Bool} (g : GLe G₀ G) (m : MLe μ₀ μ) (h : PostB W env ρ G μ Q c s) : PostB W env ρ G₀ μ₀ Q c s :=
  let ⟨G', μ', H', g', m', r⟩ := h; ⟨G', μ', H', g.trans g', m.trans m', r⟩
theorem PostF.up {G₀ : Gh} {μ₀ : List Loc} {Q : Fl → Rho → List O → Prop} {c : Flow} (g : GLe G₀ G) (m : MLe μ₀ μ) (h : PostF W env G μ Q c s) : PostF W env G₀ μ₀ Q c s :=
  let ⟨v, ρ', G', μ', H', g', m', r⟩ := h; ⟨v, ρ', G', μ', H', g.trans g', m.trans m', r⟩
theorem wpVp {Q : V → List O → Prop} {t : Sem Value} {P : Value → Shared → Prop} (h : wpAny W.M A t (PostV W env ρ G μ Q) NoE s)
    (hk : ∀ c s' v G' μ' H', GLe G G' → MLe μ μ' → St W env ρ G' μ' H' s' → VR G' μ' v c → Q v H' → P c s') : wpAny W.M A t P NoE s :=
  wpAny_mono h (fun c s' ⟨v, G', μ', H', g, m, x, r, q⟩ => hk c s' v G' μ' H' g m x r q) fun _ _ x => x

/- constants -/
theorem ok_none {k pos} {Q : V → List O → Prop} (h : Q .none H) : EvalOk W n env (.Constant .none k pos) ρ H Q := fun A G μ s hA hs => wpAny_Constant_none (postV hs (by simp [VR]) h)
theorem ok_bool {b k pos} {Q : V → List O → Prop} (h : Q (.bool b) H) : EvalOk W n env (.Constant (.bool b) k pos) ρ H Q := fun A G μ s hA hs => wpAny_Constant_bool (postV hs (by simp [VR]) h)
theorem ok_int {i k pos} {Q : V → List O → Prop} (h : Q (.int i) H) : EvalOk W n env (.Constant (.int i) k pos) ρ H Q := fun A G μ s hA hs => wpAny_Constant_int (postV (hs.toks _) (by simp [VR]) h)
theorem ok_str {x : String} {k pos} {Q : V → List O → Prop} (h : Q (.str (cd x)) H) : EvalOk W n env (.Constant (.str (Str.ofString x)) k pos) ρ H Q :=
  fun A G μ s hA hs => wpAny_Constant_str (postV (hs.toks _) (by simp only [VR]; exact ⟨_, by rw [ofString_cd]⟩) h)

/- names -/
theorem ok_name {x : String} {pos : Pos} {v : V} {Q : V → List O → Prop} (hv : ρ.lookup x = some v) (h : Q v H) (hd : (Str.ofString x == ("__debug__" : Str)) = false := by decide +kernel) :
    EvalOk W n env (.Name (Str.ofString x) pos) ρ H Q := fun A G μ s hA hs => by
  obtain ⟨m, hn, hr⟩ := hs.ns
  obtain ⟨c, hc, r⟩ := hr x v hv
  refine wpAny_Name ?_ hd
  rcases r with ⟨hk, hm⟩ | ⟨hk, hcd, a, o, ha, ho, hod⟩
  · exact wpAny_loadName_local hs.genv.kind hk hn hm (postV hs hc h)
  · have hcell : s.heap.IsCell a (some c) := ⟨o, hs.hp.keep _ _ _ ho, hod⟩
    rcases hk with hk | hk
    · exact wpAny_loadName_cell hs.genv.kind hk ha hcell (postV hs hc h)
    · exact wpAny_loadName_free hs.genv.kind hk ha hcell (postV hs hc h) hcd

/-- a global name of the text's: what it holds, in hand -/
theorem name_global {x : String} {pos : Pos} {v : Value} {P : Value → Shared → Prop} (hs : St W env ρ G μ H s) (e : nsIn W.K mainGlobals (Str.ofString x) = some (some v)) (h : P v s)
    (hx : env.kindOf (Str.ofString x) = some .globalImplicit) (hd : (Str.ofString x == ("__debug__" : Str)) = false) : wpAny W.M A (eval (.Name (Str.ofString x) pos) env) P NoE s := by
  refine Calls.Name_function_global hs.genv.kind hx (Calls.loadGlobal_global (mg := W.mg) ?_ (mg_of W.X W.T.g e) h) hd
  rw [hs.genv.globals]; exact hs.hp.top.g
theorem name_builtin {x : String} {pos : Pos} {v : Value} {P : Value → Shared → Prop} (hs : St W env ρ G μ H s) (e : nsIn W.K mainGlobals (Str.ofString x) = some none) (hv : bootBuiltins (Str.ofString x) = some v) (hn : Str.ofString x ≠ "__name__") (h : P v s)
    (hx : env.kindOf (Str.ofString x) = some .globalImplicit) (hd : (Str.ofString x == ("__debug__" : Str)) = false) : wpAny W.M A (eval (.Name (Str.ofString x) pos) env) P NoE s := by
  refine Calls.Name_function_global hs.genv.kind hx (Calls.loadGlobal_builtin (mg := W.mg) (mb := W.mb) ?_ (mg_none_of W.X W.T.g e) ?_ ((W.T.builtins _ hn).trans hv) h) hd
  · rw [hs.genv.globals]; exact hs.hp.top.g
  · rw [hs.genv.builtins]; exact hs.hp.top.b

/- lists of expressions -/
theorem oks_nil {Q : List V → List O → Prop} (h : Q [] H) : EvalsOk W n env [] ρ H Q := fun A G μ s pos hA hs => Calls.spliced_nil (postVs hs (VRs.nil G μ) h)
theorem starEach_cons {e : Expr} {es : List Expr} (h : isStarred e = false) : starEach (e :: es) env = (false, eval e env) :: starEach es env := by
  cases e <;> first | rfl | cases h
theorem oks_cons {e : Expr} {es : List Expr} {Q : List V → List O → Prop} (h : EvalOk W n env e ρ H fun v H1 => EvalsOk W n env es ρ H1 fun vs H2 => Q (v :: vs) H2) (he : isStarred e = false := by rfl) : EvalsOk W n env (e :: es) ρ H Q := by
  intro A G μ s pos hA hs
  rw [starEach_cons he]
  refine Calls.spliced_cons (wpVp (h A G μ s hA hs) ?_)
  rintro c s1 v G1 μ1 H1 g1 m1 hs1 r1 q1
  refine wpAny_mono (q1 A G1 μ1 s1 pos hA hs1) ?_ (fun _ _ x => x)
  rintro cs s2 ⟨vs, G2, μ2, H2, g2, m2, hs2, r2, q2⟩
  exact ⟨v :: vs, G2, μ2, H2, g1.trans g2, m1.trans m2, hs2, VRs.cons (r1.up g2 m2) r2, q2⟩

/- displays -/
theorem ok_tuple {elts : List Expr} {k : Nat} {pos : Pos} {Q : V → List O → Prop} (h : EvalsOk W n env elts ρ H fun vs H1 => vs.length ≤ sizeLine ∧ Q (.tup vs) H1) : EvalOk W n env (.Tuple elts k pos) ρ H Q := by
  intro A G μ s hA hs
  refine Tuple_ (wpAny_mono (h A G μ s pos hA hs) ?_ (fun _ _ x => x))
  rintro cs s1 ⟨vs, G1, μ1, H1, g1, m1, hs1, r1, hl, q1⟩
  refine wpAny_newTuple ?_ (by rw [r1.len]; exact hl)
  obtain ⟨g2, hs2⟩ := hs1.frozen (o := seqObj "tuple" cs 0) rfl s1.toks
  refine ⟨.tup vs, _, μ1, H1, g1.trans g2, m1, hs2, ?_, q1⟩
  simp only [VR]
  exact ⟨_, cs, 0, rfl, put_get, r1.up g2 (MLe.refl _)⟩
theorem ok_list {elts : List Expr} {pos : Pos} {Q : V → List O → Prop} (h : EvalsOk W n env elts ρ H fun vs H1 => vs.length ≤ sizeLine ∧ Q (.ref H1.length) (H1 ++ [.list vs])) : EvalOk W n env (.List elts pos) ρ H Q := by
  intro A G μ s hA hs
  refine List_ (wpAny_mono (h A G μ s pos hA hs) ?_ (fun _ _ x => x))
  rintro cs s1 ⟨vs, G1, μ1, H1, g1, m1, hs1, r1, hl, q1⟩
  refine wpAny_newList ?_ (by rw [r1.len]; exact hl)
  have hs2 := hs1.newList r1 s1.toks
  refine ⟨.ref H1.length, G1, _, _, g1, m1.trans (mle_app _ _), hs2, ?_, q1⟩
  simp only [VR]
  refine ⟨⟨s1.heap.objs.size, none⟩, ?_, rfl⟩
  rw [← hs1.hp.len, List.getElem?_append_right (Nat.le_refl _), Nat.sub_self]
  rfl

/- operators -/
theorem ok_binop {l r : Expr} {op : Operator} {pos : Pos} {Q : V → List O → Prop} (h : EvalOk W n env l ρ H fun a H1 => EvalOk W n env r ρ H1 fun b H2 => Op2Ok W n env (binaryOp op) a b ρ H2 Q) : EvalOk W n env (.BinOp l op r pos) ρ H Q := by
  intro A G μ s hA hs
  refine wpAny_BinOp (wpVp (h A G μ s hA hs) ?_)
  rintro a s1 va G1 μ1 H1 g1 m1 hs1 r1 q1
  refine wpVp (q1 A G1 μ1 s1 hA hs1) ?_
  rintro b s2 vb G2 μ2 H2 g2 m2 hs2 r2 q2
  exact wpAny_mono (q2 A G2 μ2 s2 a b hA hs2 (r1.up g2 m2) r2) (fun _ _ p => p.up (g1.trans g2) (m1.trans m2)) fun _ _ x => x
theorem ok_compare {l r : Expr} {op : CmpOp} {pos : Pos} {Q : V → List O → Prop} (h : EvalOk W n env l ρ H fun a H1 => EvalOk W n env r ρ H1 fun b H2 => Op2Ok W n env (compareOp op) a b ρ H2 Q)
    (hm : behindInMarks op r = false := by rfl) : EvalOk W n env (.Compare l [op] [r] pos) ρ H Q := by
  intro A G μ s hA hs
  refine wpAny_Compare1 (wpVp (h A G μ s hA hs) ?_) hm
  rintro a s1 va G1 μ1 H1 g1 m1 hs1 r1 q1
  refine wpVp (q1 A G1 μ1 s1 hA hs1) ?_
  rintro b s2 vb G2 μ2 H2 g2 m2 hs2 r2 q2
  exact wpAny_mono (q2 A G2 μ2 s2 a b hA hs2 (r1.up g2 m2) r2) (fun _ _ p => p.up (g1.trans g2) (m1.trans m2)) fun _ _ x => x
theorem ok_unary {x : Expr} {op : UnaryOp} {pos : Pos} {Q : V → List O → Prop} (h : EvalOk W n env x ρ H fun a H1 => Op1Ok W n env (unaryOp op) a ρ H1 Q) : EvalOk W n env (.UnaryOp op x pos) ρ H Q := by
  intro A G μ s hA hs
  refine wpAny_UnaryOp (wpVp (h A G μ s hA hs) ?_)
  rintro a s1 va G1 μ1 H1 g1 m1 hs1 r1 q1
  exact wpAny_mono (q1 A G1 μ1 s1 a hA hs1 r1) (fun _ _ p => p.up g1 m1) fun _ _ x => x
theorem ok_ifexp {test body orelse : Expr} {pos : Pos} {Q : V → List O → Prop} (h : TestOk W n env test ρ H fun b H1 => (b = true → EvalOk W n env body ρ H1 Q) ∧ (b = false → EvalOk W n env orelse ρ H1 Q)) : EvalOk W n env (.IfExp test body orelse pos) ρ H Q := by
  intro A G μ s hA hs
  refine wpAny_IfExp (wpAny_mono (h A G μ s hA hs) ?_ (fun _ _ x => x))
  rintro b s1 ⟨G1, μ1, H1, g1, m1, hs1, q1⟩
  cases b with
  | true => exact wpAny_mono (q1.1 rfl A G1 μ1 s1 hA hs1) (fun _ _ p => p.up g1 m1) fun _ _ x => x
  | false => exact wpAny_mono (q1.2 rfl A G1 μ1 s1 hA hs1) (fun _ _ p => p.up g1 m1) fun _ _ x => x
end
end
section
open PySem PySem.W PyProof.Rows

theorem sx_app (a b : List Nat) : sx a ++ sx b = sx (a ++ b) := by
  show Str.mk (a.toArray ++ b.toArray) = Str.mk (a ++ b).toArray
  congr 1
  apply Array.ext'
  rw [Array.toList_append]
theorem sx_len (a : List Nat) : (sx a).length = a.length := by show a.toArray.size = _; simp
theorem sx_inj {a b : List Nat} (h : sx a = sx b) : a = b := by
  have := congrArg (fun s => s.cps.toList) h
  exact this
theorem sx_beq (a b : List Nat) : (sx a == sx b) = (a == b) := by
  by_cases h : a = b
  · subst h; simp
  · have : ¬ sx a = sx b := fun e => h (sx_inj e)
    rw [beq_eq_false_iff_ne.mpr h, beq_eq_false_iff_ne.mpr this]

section
variable {W : W0} {n : Nat} {env : Env} {ρ : Rho} {G : Gh} {μ : List Loc} {H : List O} {s : Shared} {A : Around} {Q : V → List O → Prop}

theorem vr_int {i : Int} {t : Tok} : VR G μ (.int i) (.int i t) := by simp only [VR]; exact ⟨t, rfl⟩
theorem vr_str {x : List Nat} {t : Tok} : VR G μ (.str x) (.str (sx x) t) := by simp only [VR]; exact ⟨t, rfl⟩
theorem vr_bool {b : Bool} : VR G μ (.bool b) (.bool b) := by simp only [VR]
theorem vr_none : VR G μ .none .none := by simp only [VR]
theorem op_add_int {a b : Int} (h : Q (.int (a + b)) H) : Op2Ok W n env (binaryOp .Add) (.int a) (.int b) ρ H Q := by
  intro A G μ s ca cb hA hs h1 h2
  simp only [VR] at h1 h2; obtain ⟨t, rfl⟩ := h1; obtain ⟨u, rfl⟩ := h2
  exact P.add_int (postV (hs.toks _) vr_int h)
theorem op_sub_int {a b : Int} (h : Q (.int (a - b)) H) : Op2Ok W n env (binaryOp .Sub) (.int a) (.int b) ρ H Q := by
  intro A G μ s ca cb hA hs h1 h2
  simp only [VR] at h1 h2; obtain ⟨t, rfl⟩ := h1; obtain ⟨u, rfl⟩ := h2
  exact P.sub_int (postV (hs.toks _) vr_int h)
theorem op_mul_int {a b : Int} (hm : -(2 ^ 64) < a ∧ a < 2 ^ 64) (h : Q (.int (a * b)) H) : Op2Ok W n env (binaryOp .Mult) (.int a) (.int b) ρ H Q := by
  intro A G μ s ca cb hA hs h1 h2
  simp only [VR] at h1 h2; obtain ⟨t, rfl⟩ := h1; obtain ⟨u, rfl⟩ := h2
  exact P.mul_int (postV (hs.toks _) vr_int h) (IntMulOk.of_left (intBits_le_64 hm.1 hm.2))
theorem op_mul_int' {a b : Int} (hm : -(2 ^ 64) < b ∧ b < 2 ^ 64) (h : Q (.int (a * b)) H) : Op2Ok W n env (binaryOp .Mult) (.int a) (.int b) ρ H Q := by
  intro A G μ s ca cb hA hs h1 h2
  simp only [VR] at h1 h2; obtain ⟨t, rfl⟩ := h1; obtain ⟨u, rfl⟩ := h2
  exact P.mul_int (postV (hs.toks _) vr_int h) (IntMulOk.of_right (intBits_le_64 hm.1 hm.2))
theorem op_div_int {a b : Int} (hb : b ≠ 0) (hs' : b.natAbs < 1073741824) (h : Q (.int (a.fdiv b)) H) : Op2Ok W n env (binaryOp .FloorDiv) (.int a) (.int b) ρ H Q := by
  intro A G μ s ca cb hA hs h1 h2
  simp only [VR] at h1 h2; obtain ⟨t, rfl⟩ := h1; obtain ⟨u, rfl⟩ := h2
  exact floordiv_int hb (postV (hs.toks _) vr_int h) (.inl (PyProof.noPylong_small hs'))
theorem op_mod_int {a b : Int} (hb : b ≠ 0) (h : Q (.int (a.fmod b)) H) : Op2Ok W n env (binaryOp .Mod) (.int a) (.int b) ρ H Q := by
  intro A G μ s ca cb hA hs h1 h2
  simp only [VR] at h1 h2; obtain ⟨t, rfl⟩ := h1; obtain ⟨u, rfl⟩ := h2
  exact mod_int' hb (postV (hs.toks _) vr_int h)
theorem op_add_str {a b : List Nat} (hl : a.length + b.length ≤ sizeLine) (h : Q (.str (a ++ b)) H) : Op2Ok W n env (binaryOp .Add) (.str a) (.str b) ρ H Q := by
  intro A G μ s ca cb hA hs h1 h2
  simp only [VR] at h1 h2; obtain ⟨t, rfl⟩ := h1; obtain ⟨u, rfl⟩ := h2
  refine SB.add (fun t' k => ?_) (by rw [sx_len, sx_len]; exact hl)
  rw [sx_app]; exact postV (hs.toks _) vr_str h
theorem op_iadd_str {a b : List Nat} (hl : a.length + b.length ≤ sizeLine) (h : Q (.str (a ++ b)) H) : Op2Ok W n env (inplaceOp .Add) (.str a) (.str b) ρ H Q := by
  intro A G μ s ca cb hA hs h1 h2
  simp only [VR] at h1 h2; obtain ⟨t, rfl⟩ := h1; obtain ⟨u, rfl⟩ := h2
  refine SB.iadd (fun t' k => ?_) (by rw [sx_len, sx_len]; exact hl)
  rw [sx_app]; exact postV (hs.toks _) vr_str h
theorem op_isub_int {a b : Int} (h : Q (.int (a - b)) H) : Op2Ok W n env (inplaceOp .Sub) (.int a) (.int b) ρ H Q := by
  intro A G μ s ca cb hA hs h1 h2
  simp only [VR] at h1 h2; obtain ⟨t, rfl⟩ := h1; obtain ⟨u, rfl⟩ := h2
  exact P.isub_int (postV (hs.toks _) vr_int h)

theorem foldl_app (x : Array Nat) : ∀ (k : Nat) (acc : Array Nat), (List.replicate k x).foldl (· ++ ·) acc = acc ++ ((List.replicate k x.toList).flatten).toArray := by
  intro k
  induction k with
  | zero => intro acc; simp
  | succ k ih =>
    intro acc
    rw [List.replicate_succ, List.foldl_cons, ih, List.replicate_succ, List.flatten_cons]
    apply Array.ext'
    simp
theorem txt_mul (a : List Nat) (k : Int) : Txt.mul (sx a) k = sx (List.replicate k.toNat a).flatten := by
  unfold Txt.mul
  by_cases h1 : k < 1
  · rw [if_pos h1]
    have : k.toNat = 0 := by walk_at "om"
    rw [this]; rfl
  · rw [if_neg h1]
    by_cases h2 : (k == 1 || (sx a).length == 0) = true
    · rw [if_pos h2]
      rw [Bool.or_eq_true] at h2
      rcases h2 with h2 | h2
      · have : k = 1 := by simpa using h2
        subst this
        simp
      · have : a = [] := by rw [sx_len] at h2; simpa using h2
        subst this
        simp
    · rw [if_neg h2, foldl_app]
      simp
theorem op_mul_str {a : List Nat} {k : Int} (hk : a.length * k.toNat ≤ 2 ^ 20) (hlo : -(2 ^ 63) ≤ k) (hhi : k < 2 ^ 63) (h : Q (.str (List.replicate k.toNat a).flatten) H) : Op2Ok W n env (binaryOp .Mult) (.str a) (.int k) ρ H Q := by
  intro A G μ s ca cb hA hs h1 h2
  simp only [VR] at h1 h2; obtain ⟨t, rfl⟩ := h1; obtain ⟨u, rfl⟩ := h2
  refine SB.mul ⟨?_, ?_, ?_⟩ (fun t' k' => ?_)
  · simp only [Bool.or_eq_false_iff, decide_eq_false_iff_not]; constructor <;> omega
  · intro h1 _
    rw [sx_len]
    have : (a.length : Int) * k ≤ 2 ^ 20 := by
      have e : (k.toNat : Int) = k := by walk_at "om"
      rw [← e]; exact_mod_cast hk
    intro h2
    have h3 : (2 ^ 63 - 1) / k * k > 2 ^ 63 - 1 - k := by
      have := Int.emod_add_mul_ediv (2 ^ 63 - 1) k
      have h4 := Int.emod_lt_of_pos (2 ^ 63 - 1) (show 0 < k by walk_at "om")
      rw [Int.mul_comm] at this
      omega
    have h5 : ((2 ^ 63 - 1) / k + 1) * k ≤ (a.length : Int) * k := Int.mul_le_mul_of_nonneg_right (by walk_at "om") (by walk_at "om")
    rw [Int.add_mul, Int.one_mul] at h5
    omega
  · intro _ _
    rw [sx_len]
    unfold Builtin.Str.tooLong
    simp only [decide_eq_false_iff_not]
    rw [sizeLine_eq]
    omega
  · rw [txt_mul]; exact postV (hs.toks _) vr_str h

theorem op_eq_str {a b : List Nat} (h : Q (.bool (a == b)) H) : Op2Ok W n env (compareOp .Eq) (.str a) (.str b) ρ H Q := by
  intro A G μ s ca cb hA hs h1 h2
  simp only [VR] at h1 h2; obtain ⟨t, rfl⟩ := h1; obtain ⟨u, rfl⟩ := h2
  exact P.eq_str (postV hs vr_bool (by simpa using h))
theorem op_ne_str {a b : List Nat} (h : Q (.bool (a != b)) H) : Op2Ok W n env (compareOp .NotEq) (.str a) (.str b) ρ H Q := by
  intro A G μ s ca cb hA hs h1 h2
  simp only [VR] at h1 h2; obtain ⟨t, rfl⟩ := h1; obtain ⟨u, rfl⟩ := h2
  exact P.ne_str (postV hs vr_bool (by simpa using h))
theorem op_le_str {a b : List Nat} (h : Q (.bool (!decide (b < a))) H) : Op2Ok W n env (compareOp .LtE) (.str a) (.str b) ρ H Q := by
  intro A G μ s ca cb hA hs h1 h2
  simp only [VR] at h1 h2; obtain ⟨t, rfl⟩ := h1; obtain ⟨u, rfl⟩ := h2
  exact P.le_str (postV hs vr_bool (by simpa using h))
theorem op_eq_int {a b : Int} (h : Q (.bool (a == b)) H) : Op2Ok W n env (compareOp .Eq) (.int a) (.int b) ρ H Q := by
  intro A G μ s ca cb hA hs h1 h2
  simp only [VR] at h1 h2; obtain ⟨t, rfl⟩ := h1; obtain ⟨u, rfl⟩ := h2
  exact P.eq_int (postV hs vr_bool h)
theorem op_lt_int {a b : Int} (h : Q (.bool (decide (a < b))) H) : Op2Ok W n env (compareOp .Lt) (.int a) (.int b) ρ H Q := by
  intro A G μ s ca cb hA hs h1 h2
  simp only [VR] at h1 h2; obtain ⟨t, rfl⟩ := h1; obtain ⟨u, rfl⟩ := h2
  exact P.lt_int (postV hs vr_bool h)
theorem op_le_int {a b : Int} (h : Q (.bool (decide (a ≤ b))) H) : Op2Ok W n env (compareOp .LtE) (.int a) (.int b) ρ H Q := by
  intro A G μ s ca cb hA hs h1 h2
  simp only [VR] at h1 h2; obtain ⟨t, rfl⟩ := h1; obtain ⟨u, rfl⟩ := h2
  exact P.le_int (postV hs vr_bool h)
theorem op_gt_int {a b : Int} (h : Q (.bool (decide (a > b))) H) : Op2Ok W n env (compareOp .Gt) (.int a) (.int b) ρ H Q := by
  intro A G μ s ca cb hA hs h1 h2
  simp only [VR] at h1 h2; obtain ⟨t, rfl⟩ := h1; obtain ⟨u, rfl⟩ := h2
  exact P.gt_int (postV hs vr_bool h)
theorem op_ge_int {a b : Int} (h : Q (.bool (decide (a ≥ b))) H) : Op2Ok W n env (compareOp .GtE) (.int a) (.int b) ρ H Q := by
  intro A G μ s ca cb hA hs h1 h2
  simp only [VR] at h1 h2; obtain ⟨t, rfl⟩ := h1; obtain ⟨u, rfl⟩ := h2
  exact P.ge_int (postV hs vr_bool h)

noncomputable def V.isNone : V → Bool
  | .none => true
  | _ => false
theorem VR.none_iff {v : V} {c : Value} (h : VR G μ v c) : (c == .none) = v.isNone := by
  cases v <;> simp only [VR] at h
  · subst h; rfl
  · subst h; rfl
  · obtain ⟨t, rfl⟩ := h; rfl
  · obtain ⟨t, rfl⟩ := h; rfl
  · obtain ⟨l, _, rfl⟩ := h; rfl
  · obtain ⟨a, cs, m, rfl, _⟩ := h; rfl
  · obtain ⟨a, cs, m, rfl, _⟩ := h; rfl
  · obtain ⟨a, t, u, v, rfl, _⟩ := h; rfl
  · obtain ⟨a, cs, m, rfl, _⟩ := h; rfl
  · obtain ⟨a, cs, m, n, rfl, _⟩ := h; rfl
theorem op_is_none {a : V} (h : Q (.bool a.isNone) H) : Op2Ok W n env (compareOp .Is) a .none ρ H Q := by
  intro A G μ s ca cb hA hs h1 h2
  simp only [VR] at h2; subst h2
  refine is_none_gen ?_
  rw [h1.none_iff]
  exact postV hs vr_bool h
/- membership in a written tuple of texts -/
noncomputable def isStrOf' (x : List Nat) : Value → Bool
  | .str s _ => s == sx x
  | _ => false
theorem strs_any {x : List Nat} : ∀ {ls : List (List Nat)} {cs : List Value}, VRs G μ (ls.map V.str) cs → cs.any (isStrOf' x) = ls.contains x
  | [], _, h => by simp only [List.map_nil, VRs] at h; subst h; rfl
  | l :: ls, _, h => by
    simp only [List.map_cons, VRs, VR] at h
    obtain ⟨c, r, rfl, ⟨t, rfl⟩, h3⟩ := h
    have hb : isStrOf' x (.str (sx l) t) = (x == l) := by
      show (sx l == sx x) = _
      rw [sx_beq]
      by_cases e : l = x
      · rw [e]
      · rw [beq_eq_false_iff_ne.mpr e, beq_eq_false_iff_ne.mpr (Ne.symm e)]
    rw [List.any_cons, strs_any h3, List.contains_cons, hb]
theorem strs_eq {x : List Nat} {t : Tok} : ∀ {ls : List (List Nat)} {cs : List Value}, VRs G μ (ls.map V.str) cs → ∀ y ∈ cs, MeetsSeq.EqGives y (.str (sx x) t) (isStrOf' x y)
  | [], _, h, y, hy => by simp only [List.map_nil, VRs] at h; subst h; cases hy
  | l :: ls, _, h, y, hy => by
    simp only [List.map_cons, VRs, VR] at h
    obtain ⟨c, r, rfl, ⟨t', rfl⟩, h3⟩ := h
    rcases List.mem_cons.mp hy with rfl | hy
    · exact eqGives_str _ _ _ _
    · exact strs_eq h3 y hy
theorem op_in_tup {x : List Nat} {ls : List (List Nat)} {vs : List V} (e : vs = ls.map V.str) (h : Q (.bool (ls.contains x)) H) : Op2Ok W n env (compareOp .In) (.str x) (.tup vs) ρ H Q := by
  subst e
  intro A G μ s ca cb hA hs h1 h2
  simp only [VR] at h1 h2; obtain ⟨t, rfl⟩ := h1; obtain ⟨a, cs, m, rfl, ha, hv⟩ := h2
  refine SeqAt.in_tupleAt (items := cs.toArray) (isStrOf' x) ⟨_, hs.hp.keep _ _ _ ha, rfl, m, rfl⟩ (fun y hy => (strs_eq hv y (by simpa using hy)).at _ _) ?_
  rw [show cs.toArray.any (isStrOf' x) = cs.any (isStrOf' x) by simp, strs_any hv]
  exact postV hs vr_bool h
theorem op_notin_tup {x : List Nat} {ls : List (List Nat)} {vs : List V} (e : vs = ls.map V.str) (h : Q (.bool (!ls.contains x)) H) : Op2Ok W n env (compareOp .NotIn) (.str x) (.tup vs) ρ H Q := by
  subst e
  intro A G μ s ca cb hA hs h1 h2
  simp only [VR] at h1 h2; obtain ⟨t, rfl⟩ := h1; obtain ⟨a, cs, m, rfl, ha, hv⟩ := h2
  refine SeqAt.notIn_tupleAt (items := cs.toArray) (isStrOf' x) ⟨_, hs.hp.keep _ _ _ ha, rfl, m, rfl⟩ (fun y hy => (strs_eq hv y (by simpa using hy)).at _ _) ?_
  rw [show cs.toArray.any (isStrOf' x) = cs.any (isStrOf' x) by simp, strs_any hv]
  exact postV hs vr_bool h

theorem op_neg_int {a : Int} (h : Q (.int (-a)) H) : Op1Ok W n env (unaryOp .USub) (.int a) ρ H Q := by
  intro A G μ s ca hA hs h1
  simp only [VR] at h1; obtain ⟨t, rfl⟩ := h1
  exact P.neg_int (postV (hs.toks _) vr_int h)
theorem op_not_bool {b : Bool} (h : Q (.bool (!b)) H) : Op1Ok W n env (unaryOp .Not) (.bool b) ρ H Q := by
  intro A G μ s ca hA hs h1
  simp only [VR] at h1; subst h1
  exact not_value (wpAny_truthy_bool (postV hs vr_bool h))

/- lists -/
theorem ref_list {i : Nat} {xs : List V} {c : Value} (hs : HP W G μ H s.heap) (hi : H[i]? = some (.list xs)) (h : VR G μ (.ref i) c) :
    ∃ l cs m, μ[i]? = some l ∧ c = .ref l.a ∧ l.d = none ∧ IsL s.heap l.a cs.toArray m ∧ VRs G μ xs cs := by
  simp only [VR] at h
  obtain ⟨l, hl, rfl⟩ := h
  obtain ⟨cs, m, hd, ha, hv⟩ := hs.obj i _ l hi hl
  exact ⟨l, cs, m, hl, rfl, hd, ha, hv⟩
theorem vr_new {xs : List V} {a : Addr} (hs : HP W G μ H s.heap) : VR G (μ ++ [⟨a, none⟩]) (.ref H.length) (.ref a) := by
  simp only [VR]
  refine ⟨⟨a, none⟩, ?_, rfl⟩
  rw [← hs.len, List.getElem?_append_right (Nat.le_refl _), Nat.sub_self]
  rfl
theorem op_add_list {i j : Nat} {xs ys : List V} (hi : H[i]? = some (.list xs)) (hj : H[j]? = some (.list ys)) (hl : xs.length + ys.length ≤ sizeLine) (h : Q (.ref H.length) (H ++ [.list (xs ++ ys)])) : Op2Ok W n env (binaryOp .Add) (.ref i) (.ref j) ρ H Q := by
  intro A G μ s ca cb hA hs h1 h2
  obtain ⟨l, cs, m, hl1, rfl, _, ho1, hv1⟩ := ref_list hs.hp hi h1
  obtain ⟨l', cs', m', hl2, rfl, _, ho2, hv2⟩ := ref_list hs.hp hj h2
  refine P.add_list ho1 ho2 ?_ (by simpa [hv1.len, hv2.len] using hl)
  have hs2 := hs.newList (hv1.append hv2) s.toks
  rw [show cs.toArray ++ cs'.toArray = (cs ++ cs').toArray by simp]
  exact ⟨.ref H.length, G, _, _, GLe.refl G, mle_app _ _, hs2, vr_new (xs := xs) hs.hp, h⟩

/- tests -/
theorem test_value {e : Expr} {Q : Bool → List O → Prop} (h : EvalOk W n env e ρ H fun v H1 => ∃ b, v = .bool b ∧ Q b H1)
    (he : ∀ whole, isTrue e env whole = (do let v ← whole; standAt e.pos; holding [v] (truthy v)) := by intro _; rfl) : TestOk W n env e ρ H Q := by
  intro A G μ s hA hs
  refine wpAny_isTrue_value (wpVp (h A G μ s hA hs) ?_) (he _)
  rintro c s1 v G1 μ1 H1 g1 m1 hs1 r1 ⟨b, rfl, q⟩
  simp only [VR] at r1; subst r1
  exact wpAny_truthy_bool ⟨G1, μ1, H1, g1, m1, hs1, q⟩
theorem test_compare {l r : Expr} {op : CmpOp} {pos : Pos} {Q : Bool → List O → Prop} (h : EvalOk W n env l ρ H fun a H1 => EvalOk W n env r ρ H1 fun b H2 => Op2Ok W n env (compareOp op) a b ρ H2 fun v H3 => ∃ b, v = .bool b ∧ Q b H3)
    (hm : behindInMarks op r = false := by rfl) : TestOk W n env (.Compare l [op] [r] pos) ρ H Q := by
  intro A G μ s hA hs
  refine wpAny_isTrue_Compare1 ?_ hm
  refine wpVp (h A G μ s hA hs) ?_
  rintro a s1 va G1 μ1 H1 g1 m1 hs1 r1 q1
  refine wpVp (q1 A G1 μ1 s1 hA hs1) ?_
  rintro b s2 vb G2 μ2 H2 g2 m2 hs2 r2 q2
  refine wpVp (q2 A G2 μ2 s2 a b hA hs2 (r1.up g2 m2) r2) ?_
  rintro c s3 v G3 μ3 H3 g3 m3 hs3 r3 ⟨b', rfl, q⟩
  simp only [VR] at r3; subst r3
  exact wpAny_truthy_bool ⟨G3, μ3, H3, g1.trans (g2.trans g3), m1.trans (m2.trans m3), hs3, q⟩
theorem test_not {x : Expr} {pos : Pos} {Q : Bool → List O → Prop} (h : TestOk W n env x ρ H fun b H1 => Q (!b) H1) : TestOk W n env (.UnaryOp .Not x pos) ρ H Q := by
  intro A G μ s hA hs
  refine wpAny_isTrue_Not (wpAny_mono (h A G μ s hA hs) ?_ fun _ _ x => x)
  rintro b s1 ⟨G1, μ1, H1, g1, m1, hs1, q1⟩
  exact ⟨G1, μ1, H1, g1, m1, hs1, q1⟩
noncomputable def AllOk (W : W0) (n : Nat) (env : Env) (op : BoolOp) (es : List Expr) (ρ : Rho) (H : List O) (Q : Bool → List O → Prop) : Prop :=
  ∀ A G μ s, Room n A → St W env ρ G μ H s → wpAny W.M A (allTrue op es env) (PostB W env ρ G μ Q) NoE s
theorem test_bool {op : BoolOp} {values : List Expr} {pos : Pos} {Q : Bool → List O → Prop} (h : AllOk W n env op values ρ H Q) : TestOk W n env (.BoolOp op values pos) ρ H Q := by
  intro A G μ s hA hs
  exact wpAny_isTrue_BoolOp (h A G μ s hA hs)
theorem all_and_nil {Q : Bool → List O → Prop} (h : Q true H) : AllOk W n env .And [] ρ H Q := fun A G μ s hA hs => wpAny_allTrue_And_nil (postB hs h)
theorem all_or_nil {Q : Bool → List O → Prop} (h : Q false H) : AllOk W n env .Or [] ρ H Q := fun A G μ s hA hs => wpAny_allTrue_Or_nil (postB hs h)
theorem all_and_cons {e : Expr} {es : List Expr} {Q : Bool → List O → Prop} (h : TestOk W n env e ρ H fun b H1 => (b = true → AllOk W n env .And es ρ H1 Q) ∧ (b = false → Q false H1)) : AllOk W n env .And (e :: es) ρ H Q := by
  intro A G μ s hA hs
  refine wpAny_allTrue_And_cons (wpAny_mono (h A G μ s hA hs) ?_ fun _ _ x => x)
  rintro b s1 ⟨G1, μ1, H1, g1, m1, hs1, q1⟩
  cases b with
  | true => exact wpAny_mono (q1.1 rfl A G1 μ1 s1 hA hs1) (fun _ _ p => p.up g1 m1) fun _ _ x => x
  | false => exact ⟨G1, μ1, H1, g1, m1, hs1, q1.2 rfl⟩
theorem all_or_cons {e : Expr} {es : List Expr} {Q : Bool → List O → Prop} (h : TestOk W n env e ρ H fun b H1 => (b = false → AllOk W n env .Or es ρ H1 Q) ∧ (b = true → Q true H1)) : AllOk W n env .Or (e :: es) ρ H Q := by
  intro A G μ s hA hs
  refine wpAny_allTrue_Or_cons (wpAny_mono (h A G μ s hA hs) ?_ fun _ _ x => x)
  rintro b s1 ⟨G1, μ1, H1, g1, m1, hs1, q1⟩
  cases b with
  | false => exact wpAny_mono (q1.1 rfl A G1 μ1 s1 hA hs1) (fun _ _ p => p.up g1 m1) fun _ _ x => x
  | true => exact ⟨G1, μ1, H1, g1, m1, hs1, q1.2 rfl⟩
/- and, or as values -/
noncomputable def BoolsOk (W : W0) (n : Nat) (env : Env) (op : BoolOp) (es : List Expr) (ρ : Rho) (H : List O) (Q : V → List O → Prop) : Prop :=
  ∀ A G μ s pos, Room n A → St W env ρ G μ H s → wpAny W.M A (boolOp pos op (evalEach es env)) (PostV W env ρ G μ Q) NoE s
theorem ok_boolop {op : BoolOp} {values : List Expr} {pos : Pos} (h : BoolsOk W n env op values ρ H Q) : EvalOk W n env (.BoolOp op values pos) ρ H Q := fun A G μ s hA hs => h A G μ s pos hA hs
theorem bools_last {op : BoolOp} {e : Expr} (h : EvalOk W n env e ρ H Q) : BoolsOk W n env op [e] ρ H Q := fun A G μ s pos hA hs => h A G μ s hA hs
theorem bools_and {e e' : Expr} {es : List Expr} (h : EvalOk W n env e ρ H fun v H1 => ∃ b, v = .bool b ∧ (b = true → BoolsOk W n env .And (e' :: es) ρ H1 Q) ∧ (b = false → Q (.bool false) H1)) : BoolsOk W n env .And (e :: e' :: es) ρ H Q := by
  intro A G μ s pos hA hs
  show wpAny W.M A (do
    let v ← eval e env
    standAt pos
    let t ← holding [v] (truthy v)
    match BoolOp.And, t with
    | .And, false | .Or, true => pure v
    | _, _ => boolOp pos .And (evalEach (e' :: es) env)) _ _ _
  refine wpAny_bind (wpVp (h A G μ s hA hs) ?_)
  rintro c s1 v G1 μ1 H1 g1 m1 hs1 r1 ⟨b, rfl, q1, q2⟩
  simp only [VR] at r1; subst r1
  refine wpAny_bind (wpAny_standAt (wpAny_bind (wpAny_holding (wpAny_truthy_bool ?_))))
  cases b with
  | true => exact wpAny_mono (q1 rfl A G1 μ1 s1 pos hA hs1) (fun _ _ p => p.up g1 m1) fun _ _ x => x
  | false => exact wpAny_pure ⟨_, G1, μ1, H1, g1, m1, hs1, vr_bool, q2 rfl⟩
theorem bools_or {e e' : Expr} {es : List Expr} (h : EvalOk W n env e ρ H fun v H1 => ∃ b, v = .bool b ∧ (b = false → BoolsOk W n env .Or (e' :: es) ρ H1 Q) ∧ (b = true → Q (.bool true) H1)) : BoolsOk W n env .Or (e :: e' :: es) ρ H Q := by
  intro A G μ s pos hA hs
  show wpAny W.M A (do
    let v ← eval e env
    standAt pos
    let t ← holding [v] (truthy v)
    match BoolOp.Or, t with
    | .And, false | .Or, true => pure v
    | _, _ => boolOp pos .Or (evalEach (e' :: es) env)) _ _ _
  refine wpAny_bind (wpVp (h A G μ s hA hs) ?_)
  rintro c s1 v G1 μ1 H1 g1 m1 hs1 r1 ⟨b, rfl, q1, q2⟩
  simp only [VR] at r1; subst r1
  refine wpAny_bind (wpAny_standAt (wpAny_bind (wpAny_holding (wpAny_truthy_bool ?_))))
  cases b with
  | false => exact wpAny_mono (q1 rfl A G1 μ1 s1 pos hA hs1) (fun _ _ p => p.up g1 m1) fun _ _ x => x
  | true => exact wpAny_pure ⟨_, G1, μ1, H1, g1, m1, hs1, vr_bool, q2 rfl⟩
end
end
section
open PySem PySem.W PyProof.Rows

theorem del_ne {G : Gh} {a b : Addr} (h : b ≠ a) : (G.del a) b = G b := by unfold Gh.del; rw [if_neg h]
theorem del_self {G : Gh} {a : Addr} : (G.del a) a = none := by unfold Gh.del; rw [if_pos rfl]
theorem del_v {G : Gh} {a : Addr} {o : Obj} (h : G a = some (false, o)) : VLe G (G.del a) := by
  intro b x e
  by_cases hb : b = a
  · subst hb; rw [h] at e; cases e
  · rw [del_ne hb]; exact e
/-- a guarded address is let go -/
theorem HP.free {W : W0} {G : Gh} {μ : List Loc} {H : List O} {h : Heap} (P : HP W G μ H h) {a : Addr} {o : Obj} (hG : G a = some (false, o)) (hb : W.B.get? a = none) : HP W (G.del a) μ H h where
  base := fun b x e => by
    have : b ≠ a := by rintro rfl; rw [hb] at e; cases e
    rw [del_ne this]; exact P.base b x e
  keep := fun b t x e => by
    by_cases h' : b = a
    · subst h'; rw [del_self] at e; cases e
    · rw [del_ne h'] at e; exact P.keep b t x e
  len := P.len
  obj := fun i x l h1 h2 => (P.obj i x l h1 h2).mono (del_v hG) (MLe.refl μ) fun _ _ => rfl
  fresh := fun b hb' => by
    by_cases h' : b = a
    · subst h'; exact del_self
    · rw [del_ne h']; exact P.fresh b hb'
  sep := P.sep

theorem HP.notB {W : W0} {G : Gh} {μ : List Loc} {H : List O} {h : Heap} (P : HP W G μ H h) {a : Addr} (hG : G a = none) : W.B.get? a = none := by
  cases e : W.B.get? a with
  | none => rfl
  | some o => obtain ⟨t, e'⟩ := P.base a o e; rw [hG] at e'; cases e'

section
variable {W : W0} {n : Nat} {env : Env} {ρ : Rho} {G : Gh} {μ : List Loc} {H : List O} {s : Shared} {A : Around}


/-- a call out of a frame: the frame's own dict is guarded meanwhile -/
theorem St.call {f : Value} {args : List V} {Q : V → List O → Prop} {cs : List Value} {P : Value → Shared → Prop} (hs : St W env ρ G μ H s) (hA : Room n A) (hv : VRs G μ args cs) (h : CallOk W n f args H Q)
    (k : ∀ c s', PostV W env ρ G μ Q c s' → P c s') : codeAny W.M A (.call f ⟨cs, []⟩) (fun r s' => match r with | .ok (.ret v) => P v s' | .ok _ => False | .error e => False) s := by
  obtain ⟨m, hn, hr⟩ := hs.ns
  obtain ⟨oL, es, ep, hL, hrest⟩ := hn
  have P1 := hs.hp.put (t := false) hL hs.nG hs.nF
  have g1 : GLe G (G.put env.locals (false, oL)) := put_le hs.nG
  refine codeAny_mono (h A _ μ s cs hA hs.sg P1 (hv.up g1 (MLe.refl μ))) ?_
  rintro r s' ⟨c, v, G', μ', H', rfl, g, mm, sg, P', rv, q⟩
  have hG' : G' env.locals = some (false, oL) := g _ _ put_get
  have hB := hs.hp.notB hs.nG
  have P2 := P'.free hG' hB
  have g2 : GLe G (G'.del env.locals) := by
    intro b x e
    have : b ≠ env.locals := by rintro rfl; rw [hs.nG] at e; cases e
    rw [del_ne this]; exact g _ _ (g1 _ _ e)
  refine k c s' ⟨v, _, μ', H', g2, mm, ⟨sg, P2, hs.genv, ⟨m, ⟨oL, es, ep, P'.keep _ _ _ hG', hrest⟩, hr.mono g2 mm⟩, del_self, ?_⟩, VR.mono (del_v hG') (MLe.refl _) v c rv, q⟩
  intro hb
  have := P'.fresh _ hb
  rw [hG'] at this; cases this

theorem wpCall {f : Value} {args : List V} {Q : V → List O → Prop} {cs : List Value} (hs : St W env ρ G μ H s) (hA : Room n A) (hv : VRs G μ args cs) (h : CallOk W n f args H Q) :
    wpAny W.M A (PySem.call f cs) (PostV W env ρ G μ Q) NoE s := by
  refine wpAny_call (codeAny_mono (hs.call hA hv h (P := PostV W env ρ G μ Q) fun _ _ p => p) ?_)
  intro r s' z
  rcases r with e | (v | _ | _ | _) <;> exact z

/- what a def hands back -/
noncomputable def Fl.val : Fl → V
  | .ret v => v
  | _ => .none
noncomputable def flowVal : Flow → Value
  | .ret v => v
  | _ => .none
theorem FlR.val {fl : Fl} {f : Flow} (h : FlR G μ fl f) : VR G μ fl.val (flowVal f) := by
  cases fl with
  | next => cases h; exact vr_none
  | brk => cases h; exact vr_none
  | cont => cases h; exact vr_none
  | ret v => obtain ⟨c, rfl, r⟩ := h; exact r

theorem lookup_zip {G : Gh} {μ : List Loc} : ∀ {ps : List String} {vs : List V} {cs : List Value} {x : String} {v : V}, VRs G μ vs cs → (ps.zip vs).lookup x = some v → ∃ c, VR G μ v c ∧ ((ps.map Str.ofString).zip cs).lookup (Str.ofString x) = some c
  | [], _, _, _, _, _, e => by simp at e
  | p :: ps, [], _, _, _, _, e => by simp at e
  | p :: ps, v :: vs, cs, x, w, h, e => by
    simp only [VRs] at h
    obtain ⟨c, r, rfl, h1, h2⟩ := h
    simp only [List.zip_cons_cons, List.lookup_cons, List.map_cons] at e ⊢
    by_cases hx : x = p
    · subst hx
      simp only [beq_self_eq_true] at e ⊢
      cases e
      exact ⟨c, h1, rfl⟩
    · have h1' : (x == p) = false := beq_eq_false_iff_ne.mpr hx
      have h2' : (Str.ofString x == Str.ofString p) = false := beq_eq_false_iff_ne.mpr fun q => hx (ofString_inj q)
      rw [h1'] at e
      rw [h2']
      exact lookup_zip h2 e
theorem lookup_rev {α β : Type} [BEq α] [LawfulBEq α] : ∀ {l : List (α × β)} {x : α} {v : β}, (l.map (·.1)).Nodup → l.lookup x = some v → l.reverse.lookup x = some v := by
  intro l x v hn e
  have app : ∀ (a b : List (α × β)) (x : α), (a ++ b).lookup x = (match a.lookup x with | some v => some v | none => b.lookup x) := by
    intro a b x
    induction a with
    | nil => rfl
    | cons p a ih =>
      obtain ⟨k, w⟩ := p
      simp only [List.cons_append, List.lookup_cons]
      cases h : x == k with
      | true => rfl
      | false => exact ih
  induction l with
  | nil => cases e
  | cons p l ih =>
    obtain ⟨k, w⟩ := p
    rw [List.map_cons, List.nodup_cons] at hn
    rw [List.reverse_cons, app]
    rw [List.lookup_cons] at e
    cases h : x == k with
    | true =>
      rw [h] at e
      cases e
      have hx := eq_of_beq h
      have nl : l.reverse.lookup x = none := by
        rw [List.lookup_eq_none_iff]
        intro q hq
        rw [List.mem_reverse] at hq
        refine bne_iff_ne.mpr ?_
        intro he
        exact hn.1 (by rw [← hx, he]; exact List.mem_map.mpr ⟨q, hq, rfl⟩)
      rw [nl]
      simp only [List.lookup_cons, h]
    | false =>
      rw [h] at e
      rw [ih hn.2 e]

theorem names_nodup {ps : List String} (h : ps.Nodup) : ∀ {cs : List Value}, (((ps.map Str.ofString).zip cs).map (·.1)).Nodup := by
  intro cs
  refine List.Sublist.nodup (l₂ := ps.map Str.ofString) ?_ ?_
  · induction ps generalizing cs with
    | nil => simp
    | cons p ps ih =>
      cases cs with
      | nil => simp
      | cons c cs => simp only [List.map_cons, List.zip_cons_cons]; exact (ih (List.nodup_cons.mp h).2).cons_cons _
  · rw [List.nodup_iff_pairwise_ne] at h ⊢
    rw [List.pairwise_map]
    exact h.imp fun a q => a (ofString_inj q)

set_option genSizeOf false in
structure DefAt (a : Addr) (d : Stmt) (q : String) (ps : List String) : Prop where
  look : ∀ P, ∃ m t c, (K0 P).lookup a = some (fO d q m t c) ∧ codeIn (K0 P) (.ref c) (Str.ofString q) = true
  nodup : ps.Nodup
  binds : ∀ m t c cs, cs.length = ps.length → bindArgs (fnOf (nS d) (Str.ofString q) (pS d) (bS d) (sS d) .none .none .none (sv m t) none (.ref c) .none) ⟨cs, []⟩ = pure ((ps.map Str.ofString).zip cs)
  kind : (sS d).kind = .function
  co : (sS d).isCoroutine = false
  gen : (sS d).isGenerator = false

theorem HP.size_none {W : W0} {G : Gh} {μ : List Loc} {H : List O} {h : Heap} (P : HP W G μ H h) : G h.objs.size = none ∧ h.objs.size ∉ μ.flatMap Loc.foot := P.not_known (Mine.size_none h)

theorem call_def {a : Addr} {d : Stmt} {q : String} {ps : List String} {args : List V} {H : List O} {Q : V → List O → Prop} (D : DefAt a d q ps) (hlen : args.length = ps.length)
    (hcell : ∀ x ∈ (sS d).names, x.2 ≠ .cell) (hloc : ∀ x ∈ ps, (sS d).names.lookup (Str.ofString x) = some .local)
    (h : ∀ env, GoodEnv env → env.scope = sS d → ExecsOk W n env (bS d) (ps.zip args) H (fun fl _ H' => Q fl.val H')) : CallOk W (n + 1) (.ref a) args H Q := by
  intro A G μ s cs hA hsg hp hv
  obtain ⟨m, t, c, hl, hc⟩ := D.look W.w.params
  have hX := hp.K
  refine codeAny_call_def (by have := hA.depth; omega) (hX _ _ hl) rfl hp.top.nolimit (codeRec_of hX hc) rfl (BindsTo.of_eq (D.binds m t c cs (by rw [hv.len, hlen]))) hcell ?_ ?_ D.co D.gen D.kind
  · intro x hx
    obtain ⟨y, hy, e⟩ := List.mem_map.mp (List.of_mem_zip hx).1
    rw [← e]; exact hloc y hy
  · intro h₁ hns hk
    have henv : GoodEnv (callEnv (fnOf (nS d) (Str.ofString q) (pS d) (bS d) (sS d) .none .none .none (sv m t) none (.ref c) .none) s.heap.objs.size a) := ⟨D.kind, rfl, rfl⟩
    obtain ⟨z1, z2⟩ := hp.size_none
    have hst : St W (callEnv (fnOf (nS d) (Str.ofString q) (pS d) (bS d) (sS d) .none .none .none (sv m t) none (.ref c) .none) s.heap.objs.size a) (ps.zip args) G μ H { s with heap := h₁, toks := s.toks + ((ps.map Str.ofString).zip cs).length } := by
      refine ⟨hsg.heap _ _, hp.same hk, henv, ⟨_, hns, ?_⟩, z1, z2⟩
      intro x v e
      obtain ⟨cv, r, e'⟩ := lookup_zip hv e
      refine ⟨cv, r, .inl ⟨?_, lookup_rev (names_nodup D.nodup) e'⟩⟩
      obtain ⟨q1, q2⟩ : x ∈ ps ∧ True := by
        refine ⟨?_, trivial⟩
        have := List.lookup_eq_some_iff.mp e
        obtain ⟨l1, l2, e2, _⟩ := this
        have : (x, v) ∈ ps.zip args := by rw [e2]; simp
        exact (List.of_mem_zip this).1
      exact hloc x q1
    refine wpAny_mono (h _ henv rfl _ G μ _ (hA.deeper _) hst) ?_ (fun _ _ z => z.elim)
    rintro f s' ⟨fl, ρ', G', μ', H', g, mm, x, r, q⟩
    refine ⟨flowVal f, fl.val, G', μ', H', ?_, g, mm, x.sg, x.hp, r.val, q⟩
    cases f <;> rfl
end
end
section
open PySem PySem.W PyProof.Rows

noncomputable def upd : List (String × V) → String → V → List (String × V)
  | [], x, v => [(x, v)]
  | (y, w) :: r, x, v => if y == x then (y, v) :: r else (y, w) :: upd r x v
theorem upd_lookup : ∀ (l : List (String × V)) (x y : String) (v : V), (upd l x v).lookup y = if y = x then some v else l.lookup y
  | [], x, y, v => by
    show (match y == x with | true => some v | false => _) = _
    by_cases h : y = x
    · rw [if_pos h, h, beq_self_eq_true]
    · rw [if_neg h, beq_eq_false_iff_ne.mpr h]
  | (z, w) :: r, x, y, v => by
    unfold upd
    by_cases hz : z = x
    · rw [if_pos (beq_iff_eq.mpr hz)]
      simp only [List.lookup_cons]
      by_cases h : y = x
      · rw [if_pos h, h, hz, beq_self_eq_true]
      · rw [if_neg h, beq_eq_false_iff_ne.mpr (by rw [hz]; exact h)]
    · rw [if_neg (by rw [beq_iff_eq]; exact hz)]
      simp only [List.lookup_cons]
      rw [upd_lookup r x y v]
      by_cases h : y = z
      · subst h; rw [if_neg hz, beq_self_eq_true]; simp only [if_neg hz]
      · rw [beq_eq_false_iff_ne.mpr h]

section
variable {W : W0} {n : Nat} {env : Env} {ρ : Rho} {G : Gh} {μ : List Loc} {H : List O} {s : Shared} {A : Around} {Q : Fl → Rho → List O → Prop}

theorem postF {fl : Fl} {f : Flow} (h : St W env ρ G μ H s) (r : FlR G μ fl f) (q : Q fl ρ H) : PostF W env G μ Q f s := ⟨fl, ρ, G, μ, H, GLe.refl G, MLe.refl μ, h, r, q⟩
theorem flNext : FlR G μ .next .next := rfl
theorem flRet {v : V} {c : Value} (h : VR G μ v c) : FlR G μ (.ret v) (.ret c) := ⟨c, rfl, h⟩
/-- a name of the frame is stored -/
theorem store_name {x : String} {v : V} {c : Value} {P : Unit → Shared → Prop} (hs : St W env ρ G μ H s) (hk : env.kindOf (Str.ofString x) = some .local) (r : VR G μ v c)
    (h : ∀ s', St W env (upd ρ x v) G μ H s' → P () s') : wpAny W.M A (storeName env (Str.ofString x) c) P NoE s := by
  obtain ⟨m, hn, hr⟩ := hs.ns
  refine wpAny_storeName_local hk hn (fun h' hn' hsb => h _ ?_) (by rw [hs.genv.kind]; rfl)
  refine ⟨hs.sg.heap _ _, ?_, hs.genv, ⟨_, hn', ?_⟩, hs.nG, hs.nF⟩
  · refine ⟨hs.hp.base, fun b t o e => ?_, hs.hp.len, fun i o l h1 h2 => (hs.hp.obj i o l h1 h2).mono (VLe.refl G) (MLe.refl μ) fun b hb => ?_, hs.hp.fresh, hs.hp.sep⟩
    · rw [hsb.2 b (by rintro rfl; rw [hs.nG] at e; cases e)]; exact hs.hp.keep b t o e
    · exact hsb.2 b (by rintro rfl; exact hs.nF (mem_foot h2 hb))
  · intro y w e
    rw [upd_lookup] at e
    by_cases hy : y = x
    · subst hy
      rw [if_pos rfl] at e
      cases e
      exact ⟨c, r, .inl ⟨hk, if_pos rfl⟩⟩
    · rw [if_neg hy] at e
      obtain ⟨cw, rw', q⟩ := hr y w e
      refine ⟨cw, rw', q.imp (fun ⟨a, b⟩ => ⟨a, ?_⟩) id⟩
      show (if Str.ofString y = Str.ofString x then some c else m (Str.ofString y)) = some cw
      rw [if_neg fun q => hy (ofString_inj q)]
      exact b

theorem ok_ret {e : Expr} {pos : Pos} (h : EvalOk W n env e ρ H fun v H1 => Q (.ret v) ρ H1) : ExecOk W n env (.Return (some e) pos) ρ H Q := by
  intro A G μ s hA hs
  refine wpAny_Return_some (wpVp (h A G μ s hA hs) ?_)
  rintro c s1 v G1 μ1 H1 g1 m1 hs1 r1 q1
  exact ⟨_, _, G1, μ1, H1, g1, m1, hs1, flRet r1, q1⟩
theorem ok_ret0 {pos : Pos} (h : Q (.ret .none) ρ H) : ExecOk W n env (.Return none pos) ρ H Q := by
  intro A G μ s hA hs
  exact wpAny_Return_none (postF hs (flRet vr_none) h)
theorem inter_false {env : Env} (h : GoodEnv env) : interactive env = false := by
  unfold interactive
  rw [h.kind]; rfl
theorem ok_expr {e : Expr} {pos : Pos} (h : EvalOk W n env e ρ H fun _ H1 => Q .next ρ H1) (hw : ∀ env, swapsWith e none pos.line env = pure false := by intro _; rfl) : ExecOk W n env (.Expr e pos) ρ H Q := by
  intro A G μ s hA hs
  refine wpAny_Expr_any (wpVp (h A G μ s hA hs) ?_) (inter_false hs.genv) (hw _)
  rintro c s1 v G1 μ1 H1 g1 m1 hs1 r1 q1
  exact ⟨_, _, G1, μ1, H1, g1, m1, hs1, flNext, q1⟩
theorem ok_assign {x : String} {value : Expr} {p' pos : Pos} (h : EvalOk W n env value ρ H fun v H1 => Q .next (upd ρ x v) H1) (hk : env.kindOf (Str.ofString x) = some .local)
    (hw : ∀ env, swapsWith value (some (.Name (Str.ofString x) p')) pos.line env = pure false := by intro _; rfl) : ExecOk W n env (.Assign [.Name (Str.ofString x) p'] value pos) ρ H Q := by
  intro A G μ s hA hs
  refine wpAny_Assign_Name (wpVp (h A G μ s hA hs) ?_) (hw _)
  rintro c s1 v G1 μ1 H1 g1 m1 hs1 r1 q1
  exact store_name hs1 hk r1 fun s' hs' => ⟨_, _, G1, μ1, H1, g1, m1, hs', flNext, q1⟩
theorem ok_if {test : Expr} {body orelse : List Stmt} {pos : Pos} (h : TestOk W n env test ρ H fun b H1 => (b = true → ExecsOk W n env body ρ H1 Q) ∧ (b = false → ExecsOk W n env orelse ρ H1 Q)) : ExecOk W n env (.If test body orelse pos) ρ H Q := by
  intro A G μ s hA hs
  refine wpAny_If (wpAny_mono (h A G μ s hA hs) ?_ (fun _ _ x => x))
  rintro b s1 ⟨G1, μ1, H1, g1, m1, hs1, q1⟩
  cases b with
  | true => rw [if_pos rfl]; exact wpAny_mono (q1.1 rfl A G1 μ1 s1 hA hs1) (fun _ _ p => p.up g1 m1) fun _ _ x => x
  | false => rw [if_neg (by decide)]; exact wpAny_mono (q1.2 rfl A G1 μ1 s1 hA hs1) (fun _ _ p => p.up g1 m1) fun _ _ x => x
theorem oks_end (h : Q .next ρ H) : ExecsOk W n env [] ρ H Q := fun A G μ s hA hs => wpAny_execs_nil (postF hs flNext h)
noncomputable def Seq (W : W0) (n : Nat) (env : Env) (rest : List Stmt) (Q : Fl → Rho → List O → Prop) : Fl → Rho → List O → Prop
  | .next, ρ, H => ExecsOk W n env rest ρ H Q
  | .brk, ρ, H => Q .brk ρ H
  | .cont, ρ, H => Q .cont ρ H
  | .ret v, ρ, H => Q (.ret v) ρ H
theorem oks_seq {st : Stmt} {rest : List Stmt} (h : ExecOk W n env st ρ H (Seq W n env rest Q)) : ExecsOk W n env (st :: rest) ρ H Q := by
  intro A G μ s hA hs
  refine wpAny_execs_cons (wpAny_mono (h A G μ s hA hs) ?_ (fun _ _ x => x))
  rintro f s1 ⟨fl, ρ1, G1, μ1, H1, g1, m1, hs1, r1, q1⟩
  cases fl with
  | next => cases r1; exact wpAny_mono (q1 A G1 μ1 s1 hA hs1) (fun _ _ p => p.up g1 m1) fun _ _ x => x
  | brk => cases r1; exact ⟨.brk, ρ1, G1, μ1, H1, g1, m1, hs1, rfl, q1⟩
  | cont => cases r1; exact ⟨.cont, ρ1, G1, μ1, H1, g1, m1, hs1, rfl, q1⟩
  | ret v => obtain ⟨c, rfl, r1⟩ := r1; exact ⟨.ret v, ρ1, G1, μ1, H1, g1, m1, hs1, ⟨c, rfl, r1⟩, q1⟩
theorem oks_mono {sts : List Stmt} {Q' : Fl → Rho → List O → Prop} (h : ExecsOk W n env sts ρ H Q) (k : ∀ fl ρ' H', Q fl ρ' H' → Q' fl ρ' H') : ExecsOk W n env sts ρ H Q' := fun A G μ s hA hs =>
  wpAny_mono (h A G μ s hA hs) (fun f s' ⟨fl, ρ', G', μ', H', g, m, x, r, q⟩ => ⟨fl, ρ', G', μ', H', g, m, x, r, k _ _ _ q⟩) fun _ _ x => x
theorem ok_mono {e : Expr} {Q Q' : V → List O → Prop} (h : EvalOk W n env e ρ H Q) (k : ∀ v H', Q v H' → Q' v H') : EvalOk W n env e ρ H Q' := fun A G μ s hA hs =>
  wpAny_mono (h A G μ s hA hs) (fun f s' ⟨v, G', μ', H', g, m, x, r, q⟩ => ⟨v, G', μ', H', g, m, x, r, k _ _ q⟩) fun _ _ x => x
theorem ok_aug {x : String} {value : Expr} {op : Operator} {p' pos : Pos} {v : V} (hv : ρ.lookup x = some v) (h : EvalOk W n env value ρ H fun b H1 => Op2Ok W n env (inplaceOp op) v b ρ H1 fun r H2 => Q .next (upd ρ x r) H2)
    (hk : env.kindOf (Str.ofString x) = some .local) : ExecOk W n env (.AugAssign (.Name (Str.ofString x) p') op value pos) ρ H Q := by
  intro A G μ s hA hs
  obtain ⟨m, hn, hr⟩ := hs.ns
  obtain ⟨c, hc, r⟩ := hr x v hv
  have hm : m (Str.ofString x) = some c := by
    rcases r with ⟨_, hm⟩ | ⟨hk', _⟩
    · exact hm
    · rw [hk] at hk'; rcases hk' with q | q <;> cases q
  refine wpAny_AugAssign_Name (wpAny_loadName_local hs.genv.kind hk hn hm (wpVp (h A G μ s hA hs) ?_))
  rintro cb s1 vb G1 μ1 H1 g1 m1 hs1 r1 q1
  refine wpVp (q1 A G1 μ1 s1 c cb hA hs1 (hc.up g1 m1) r1) ?_
  rintro cr s2 vr G2 μ2 H2 g2 m2 hs2 r2 q2
  exact store_name hs2 hk r2 fun s' hs' => ⟨_, _, G2, μ2, H2, g1.trans g2, m1.trans m2, hs', flNext, q2⟩

/- while: an invariant and a measure -/
theorem ok_while {test : Expr} {body : List Stmt} {pos : Pos} (I : Nat → Rho → List O → Prop)
    (turn : ∀ k ρ H, I k ρ H → TestOk W n env test ρ H fun b H1 => (b = true → ExecsOk W n env body ρ H1 fun fl ρ' H' => match fl with | .next | .cont => ∃ j, j < k ∧ I j ρ' H' | .brk => Q .next ρ' H' | .ret v => Q (.ret v) ρ' H') ∧ (b = false → Q .next ρ H1))
    (k : Nat) (h : I k ρ H) : ExecOk W n env (.While test body [] pos) ρ H Q := by
  intro A G μ s hA hs
  refine wpAny_While (codeAny_whileLoop (fun k s' => ∃ ρ' G' μ' H', GLe G G' ∧ MLe μ μ' ∧ St W env ρ' G' μ' H' s' ∧ I k ρ' H') ?_ k ⟨ρ, G, μ, H, GLe.refl G, MLe.refl μ, hs, h⟩)
  rintro k s1 ⟨ρ1, G1, μ1, H1, g1, m1, hs1, q1⟩
  refine wpAny_mono (turn k ρ1 H1 q1 A G1 μ1 s1 hA hs1) ?_ (fun _ _ x => x.elim)
  rintro b s2 ⟨G2, μ2, H2, g2, m2, hs2, q2⟩
  cases b with
  | true =>
    rw [if_pos rfl]
    refine wpAny_mono (q2.1 rfl A G2 μ2 s2 hA hs2) ?_ (fun _ _ x => x.elim)
    rintro f s3 ⟨fl, ρ3, G3, μ3, H3, g3, m3, hs3, r3, q3⟩
    have g := g1.trans (g2.trans g3)
    have m := m1.trans (m2.trans m3)
    cases fl with
    | next => cases r3; obtain ⟨j, hj, q3⟩ := q3; exact ⟨j, hj, ρ3, G3, μ3, H3, g, m, hs3, q3⟩
    | cont => cases r3; obtain ⟨j, hj, q3⟩ := q3; exact ⟨j, hj, ρ3, G3, μ3, H3, g, m, hs3, q3⟩
    | brk => cases r3; exact ⟨.next, ρ3, G3, μ3, H3, g, m, hs3, rfl, q3⟩
    | ret v => obtain ⟨c, rfl, r3⟩ := r3; exact ⟨.ret v, ρ3, G3, μ3, H3, g, m, hs3, ⟨c, rfl, r3⟩, q3⟩
  | false =>
    rw [if_neg (by decide)]
    exact wpAny_execs_nil ⟨.next, ρ1, G2, μ2, H2, g1.trans g2, m1.trans m2, hs2, rfl, q2.2 rfl⟩

end
end
section
open PySem PySem.W PyProof.Rows Builtin Builtin.ObjectAttr

theorem upd_len : ∀ (fs : List (String × V)) (x : String) (v : V), (upd fs x v).length ≤ fs.length + 1
  | [], _, _ => Nat.le_refl _
  | (y, w) :: r, x, v => by
    unfold upd
    split
    · simp
    · have := upd_len r x v
      simp only [List.length_cons]
      omega
set_option genSizeOf false in
structure ClsOk (C : Addr) : Prop where
  ga : ∀ P, findIn (K0 P) (.ref C) "__getattribute__" = some (some (.builtin "object.__getattribute__"))
  gn : ∀ P, findIn (K0 P) (.ref C) "__getattr__" = some none
  hd : ∀ P, hasDictIn (K0 P) C = true
  sa : ∀ P, findIn (K0 P) (.ref C) "__setattr__" = some (some (.builtin "object.__setattr__"))
  over : ∀ P, plainOver (K0 P) C = true
  makes : ∀ P, makesIn (K0 P) C = true
noncomputable def NoAttr (C : Addr) (x : String) : Prop := ∀ P, findIn (K0 P) (.ref C) (Str.ofString x) = some none
theorem cls_item : ClsOk 91 := by constructor <;> (intro P; kernel_rfl)
theorem cls_block : ClsOk 182 := by constructor <;> (intro P; kernel_rfl)
theorem cls_fmt : ClsOk 357 := by constructor <;> (intro P; kernel_rfl)

section
variable {W : W0} {n : Nat} {env : Env} {ρ : Rho} {G : Gh} {μ : List Loc} {H : List O} {s : Shared} {A : Around}

theorem VR.handed {v : V} {c : Value} (h : VR G μ v c) : handedIn c = true := by
  cases v <;> simp only [VR] at h
  · subst h; rfl
  · subst h; rfl
  · obtain ⟨t, rfl⟩ := h; rfl
  · obtain ⟨t, rfl⟩ := h; rfl
  · obtain ⟨l, _, rfl⟩ := h; rfl
  · obtain ⟨a, cs, m, rfl, _⟩ := h; rfl
  · obtain ⟨a, cs, m, rfl, _⟩ := h; rfl
  · obtain ⟨a, t, u, v, rfl, _⟩ := h; rfl
  · obtain ⟨a, cs, m, rfl, _⟩ := h; rfl
  · obtain ⟨a, cs, m, n, rfl, _⟩ := h; rfl

theorem isStr_iff {x y : String} {t : Tok} : (Value.str (Str.ofString y) t).isStr (Str.ofString x) = (y == x) := by
  show (Str.ofString y == Str.ofString x) = _
  by_cases h : y = x
  · rw [h]; simp
  · rw [beq_eq_false_iff_ne.mpr h, beq_eq_false_iff_ne.mpr fun q => h (ofString_inj q)]
theorem drs_get : ∀ {fs : List (String × V)} {ds : List DictEntry} {x : String} {v : V}, DRs G μ fs ds → fs.lookup x = some v → ∃ c, getL (Str.ofString x) ds = some (some c) ∧ VR G μ v c
  | [], _, _, _, _, e => by cases e
  | (y, w) :: fs, ds, x, v, h, e => by
    simp only [DRs] at h
    obtain ⟨hh, t, c, r, rfl, h1, h2⟩ := h
    unfold getL
    simp only [List.lookup_cons, List.find?_cons, isStr_iff] at e ⊢
    by_cases hx : x = y
    · subst hx
      simp only [beq_self_eq_true] at e ⊢
      cases e
      exact ⟨c, rfl, h1⟩
    · have h1' : (x == y) = false := beq_eq_false_iff_ne.mpr hx
      have h2' : (y == x) = false := beq_eq_false_iff_ne.mpr (Ne.symm hx)
      rw [h1'] at e
      rw [h2']
      obtain ⟨c', e', r'⟩ := drs_get h2 e
      refine ⟨c', ?_, r'⟩
      unfold getL at e'
      cases hf : List.find? (fun e => e.key.isStr (Str.ofString x)) r with
      | some en => rw [hf] at e'; exact e'
      | none => rw [hf] at e'; dsimp only at e'; by_cases q : (r.any fun x => x.refKey) = true
                · rw [if_pos q] at e'; cases e'
                · rw [if_neg q] at e'; cases e'
theorem drs_keys : ∀ {fs : List (String × V)} {ds : List DictEntry}, DRs G μ fs ds → ds.any (·.refKey) = false
  | [], _, h => by simp only [DRs] at h; subst h; rfl
  | (y, w) :: fs, ds, h => by
    simp only [DRs] at h
    obtain ⟨hh, t, c, r, rfl, h1, h2⟩ := h
    rw [List.any_cons, drs_keys h2]
    rfl
theorem drs_find_none : ∀ {fs : List (String × V)} {ds : List DictEntry} {x : String}, DRs G μ fs ds → fs.lookup x = none → ds.find? (·.key.isStr (Str.ofString x)) = none
  | [], _, _, h, _ => by simp only [DRs] at h; subst h; rfl
  | (y, w) :: fs, ds, x, h, e => by
    simp only [DRs] at h
    obtain ⟨hh, t, c, r, rfl, h1, h2⟩ := h
    simp only [List.lookup_cons, List.find?_cons, isStr_iff] at e ⊢
    by_cases hx : x = y
    · subst hx; simp at e
    · have h1' : (x == y) = false := beq_eq_false_iff_ne.mpr hx
      have h2' : (y == x) = false := beq_eq_false_iff_ne.mpr (Ne.symm hx)
      rw [h1'] at e
      rw [h2']
      exact drs_find_none h2 e
theorem drs_none {fs : List (String × V)} {ds : List DictEntry} {x : String} (h : DRs G μ fs ds) (e : fs.lookup x = none) : getL (Str.ofString x) ds = some none := by
  unfold getL
  rw [drs_find_none h e, drs_keys h]
  rfl
theorem drs_put {x : String} {v : V} {c : Value} {hsh : Int} {tk : Tok} (r : VR G μ v c) : ∀ {fs : List (String × V)} {ds : List DictEntry}, DRs G μ fs ds → DRs G μ (upd fs x v) (putL (Str.ofString x) hsh (.str (Str.ofString x) tk) c ds)
  | [], ds, h => by
    simp only [DRs] at h; subst h
    simp only [upd, putL, DRs]
    exact ⟨_, _, _, _, rfl, r, rfl⟩
  | (y, w) :: fs, ds, h => by
    simp only [DRs] at h
    obtain ⟨hh, t, c', r', rfl, h1, h2⟩ := h
    unfold upd putL
    rw [isStr_iff]
    by_cases hx : (y == x) = true
    · rw [if_pos hx, if_pos hx]
      simp only [DRs]
      exact ⟨_, _, _, _, rfl, r, h2⟩
    · rw [if_neg hx, if_neg hx]
      simp only [DRs]
      exact ⟨_, _, _, _, rfl, h1, drs_put r h2⟩
theorem drs_len : ∀ {fs : List (String × V)} {ds : List DictEntry}, DRs G μ fs ds → ds.length = fs.length
  | [], _, h => by simp only [DRs] at h; subst h; rfl
  | (y, w) :: fs, ds, h => by
    simp only [DRs] at h
    obtain ⟨hh, t, c, r, rfl, h1, h2⟩ := h
    simp [drs_len h2]

theorem inst_at {v : V} {C : Addr} {fs : List (String × V)} {c : Value} (hp : HP W G μ H s.heap) (h : v = .ins C fs ∨ ∃ i, v = .ref i ∧ H[i]? = some (.inst C fs)) (r : VR G μ v c) :
    ∃ x d ds m, c = .ref x ∧ InstAt s.heap x (instObj C d) C (some (dictOf ds m)) ∧ DRs G μ fs ds := by
  rcases h with rfl | ⟨i, rfl, hi⟩
  · simp only [VR] at r
    obtain ⟨a, d, ds, m, rfl, h1, h2, h3⟩ := r
    exact ⟨a, d, ds, m, rfl, ⟨hp.keep _ _ _ h1, rfl, rfl, hp.keep _ _ _ h2⟩, h3⟩
  · simp only [VR] at r
    obtain ⟨l, hl, rfl⟩ := r
    obtain ⟨dx, ds, m, hd, ha, hdx, hv⟩ := hp.obj i _ l hi hl
    exact ⟨l.a, dx, ds, m, rfl, ⟨ha, rfl, rfl, hdx⟩, hv⟩

theorem get_attr {v w : V} {C : Addr} {fs : List (String × V)} {x : String} {c : Value} {ex : Bool} {Q : V → List O → Prop} (K : ClsOk C) (N : NoAttr C x) (hs : St W env ρ G μ H s) (h : v = .ins C fs ∨ ∃ i, v = .ref i ∧ H[i]? = some (.inst C fs))
    (hx : fs.lookup x = some w) (r : VR G μ v c) (q : Q w H) : wpAny W.M A (getAttr c (Str.ofString x) ex) (PostV W env ρ G μ Q) NoE s := by
  obtain ⟨a, d, ds, m, rfl, I, hD⟩ := inst_at hs.hp h r
  obtain ⟨cw, e, rw'⟩ := drs_get hD hx
  refine get_value hs.hp.K I (K.ga _) (findObj_own (K.hd _) (N _) rfl ?_) rw'.handed (postV (hs.toks _) rw' q)
  rw [lookIn_dict, e]

theorem ok_attr {value : Expr} {x : String} {pos : Pos} {Q : V → List O → Prop} (h : EvalOk W n env value ρ H fun v H1 => ∃ C fs w, (v = .ins C fs ∨ ∃ i, v = .ref i ∧ H1[i]? = some (.inst C fs)) ∧ ClsOk C ∧ NoAttr C x ∧ fs.lookup x = some w ∧ Q w H1)
    (he : ∀ env, attributeBase value (Str.ofString x) env (eval value env) = eval value env := by intro _; rfl) : EvalOk W n env (.Attribute value (Str.ofString x) pos) ρ H Q := by
  intro A G μ s hA hs
  refine Attribute_any_ (wpVp (h A G μ s hA hs) ?_) ?_
  · rintro c s1 v G1 μ1 H1 g1 m1 hs1 r1 ⟨C, fs, w, hv, K, N, hx, q⟩
    exact wpAny_mono (get_attr K N hs1 hv hx r1 q) (fun _ _ p => p.up g1 m1) fun _ _ x => x
  · rw [arm_eval_Attribute, he]

/-- an attribute of an own object is stored -/
theorem set_attr {i : Nat} {C : Addr} {fs : List (String × V)} {x : String} {v : V} {co c : Value} {P : Unit → Shared → Prop} (K : ClsOk C) (N : NoAttr C x) (hs : St W env ρ G μ H s) (hi : H[i]? = some (.inst C fs)) (hl : fs.length ≤ 900)
    (ro : VR G μ (.ref i) co) (r : VR G μ v c) (h : ∀ s', St W env ρ G μ (H.set i (.inst C (upd fs x v))) s' → P () s') : wpAny W.M A (setAttr co (Str.ofString x) c) P NoE s := by
  simp only [VR] at ro
  obtain ⟨l, hl', rfl⟩ := ro
  obtain ⟨dx, ds, m, hd, ha, hdx, hv⟩ := hs.hp.obj i _ l hi hl'
  have I : InstAt s.heap l.a (instObj C dx) C (some (dictOf ds m)) := ⟨ha, rfl, rfl, hdx⟩
  have X := hs.hp.K
  have ht : takerIn (W.K) C (Str.ofString x) = some none := by
    show (findIn (K0 W.w.params) (.ref C) (Str.ofString x)).bind _ = _
    rw [N]; rfl
  refine set_plain X I (K.sa _) (osa_open (s := { s with toks := s.toks + 1 }) X I (K.over _) ht fun b => ?_)
  obtain ⟨cd, hc, hd'⟩ := any_some (K.hd W.w.params)
  unfold storeInOwnDict
  refine wpAny_bind (wpAny_pure (wpAny_bind (wpAny_bind (wpAny_loadPart ha (wpAny_bind (Looks.here (s := { s with toks := s.toks + 1 }) (looks_clsIn X hc) ?_))))))
  rw [hd']
  refine wpAny_pure (a := some dx) (wpAny_bind (wpAny_pure (wpAny_bind ?_)))
  unfold nsSet
  refine wpAny_bind (wpAny_bind (wpAny_askSetting (wpAny_pure (wpAny_bind (wpAny_mkText (wpAny_bind (wpAny_loadPart hdx ?_)))))))
  dsimp only
  have cc : (!ds.toArray.any (·.key.isStr (Str.ofString x)) && ds.toArray.any (·.refKey)) = false := by
    rw [← Array.any_toList, ← Array.any_toList]
    show (_ && ds.any (·.refKey)) = false
    rw [drs_keys hv, Bool.and_false]
  rw [aRefKeyMayBeTheName_at, cc]
  have hput := putName_dict (Str.ofString x) (PyData.keyHash W.w.params (Str.ofString x)) (.str (Str.ofString x) (s.toks + 1)) c ds m
  have hnew : (s.heap.update dx (Obj.putName (Str.ofString x) (PyData.keyHash W.w.params (Str.ofString x)) (.str (Str.ofString x) (s.toks + 1)) c)).get? dx = some (dictOf (putL (Str.ofString x) (PyData.keyHash W.w.params (Str.ofString x)) (.str (Str.ofString x) (s.toks + 1)) c ds) (putN (Str.ofString x) ds m)) := by
    rw [← hput]
    exact Heap.get?_update_self _ hdx (by rw [hput]; rfl)
  refine wpAny_updatePart hdx ?_
  refine wpAny_bind (wpAny_lookBehind hnew (pastItsLine_dict ?_) ?_)
  · rw [List.size_toArray, drs_len (drs_put r hv), sizeLine_eq]
    have := upd_len fs x v
    omega
  · refine wpAny_pure ?_
    refine h _ (hs.write hi hl' (b := dx) ?_ (Heap.SameBut.update ..) ?_)
    · obtain ⟨la, ld⟩ := l
      simp only at hd
      subst hd
      simp [Loc.foot]
    · have hne : l.a ≠ dx := by
        rintro q
        rw [q] at ha
        rw [ha] at hdx
        cases hdx
      exact ⟨dx, _, _, hd, (Heap.get?_update_ne _ _ _ _ hne).trans ha, hnew, drs_put r hv⟩

theorem ok_assign_attr {value o : Expr} {x : String} {p' pos : Pos} {Q : Fl → Rho → List O → Prop} (h : EvalOk W n env value ρ H fun v H1 => EvalOk W n env o ρ H1 fun ov H2 => ∃ i C fs, ov = .ref i ∧ H2[i]? = some (.inst C fs) ∧ ClsOk C ∧ NoAttr C x ∧ fs.length ≤ 900 ∧
      Q .next ρ (H2.set i (.inst C (upd fs x v))))
    (hw : ∀ env, swapsWith value (some (.Attribute o (Str.ofString x) p')) pos.line env = pure false := by intro _; rfl) : ExecOk W n env (.Assign [.Attribute o (Str.ofString x) p'] value pos) ρ H Q := by
  intro A G μ s hA hs
  refine plainObj_wpAny_Assign_Attribute (wpVp (h A G μ s hA hs) ?_) (hw _)
  rintro c s1 v G1 μ1 H1 g1 m1 hs1 r1 q1
  refine wpVp (q1 A G1 μ1 s1 hA hs1) ?_
  rintro co s2 ov G2 μ2 H2 g2 m2 hs2 r2 ⟨i, C, fs, rfl, hi, K, N, hl, q⟩
  exact set_attr K N hs2 hi hl r2 (r1.up g2 m2) fun s' hs' => ⟨.next, ρ, G2, μ2, _, g1.trans g2, m1.trans m2, hs', flNext, q⟩
end
end
section
open PySem PySem.W PyProof.Rows Builtin Builtin.ObjectAttr

theorem backTo_plain {env : Env} {pos : Pos} : ∀ {args : List Expr}, args.all (fun e => !isStarred e) = true → (backTo pos (starEach args env)).any (·.1) = false
  | [], _ => rfl
  | e :: r, h => by
    rw [List.all_cons, Bool.and_eq_true] at h
    rw [starEach_cons (by simpa using h.1)]
    show (false || (backTo pos (starEach r env)).any (·.1)) = false
    rw [backTo_plain h.2]; rfl

theorem evalArgs_sp {M : Model} {A : Around} {E : Value → Shared → Prop} {s : Shared} {f : Value} {trees : List (Bool × Sem Value)} {Q : Args → Shared → Prop} (hp : trees.any (·.1) = false)
    (h : wpAny M A (spliced trees) (fun vs s' => Q ⟨vs, []⟩ s') E s) : wpAny M A (evalArgs f true trees []) Q E s := by
  cases trees with
  | nil =>
    unfold evalArgs
    show wpAny M A (spliced [] >>= _) Q E s
    refine wpAny_bind (wpAny_mono h (fun vs s' h' => wpAny_bind (wpAny_pure (wpAny_holding (wpAny_bind (wpAny_pure (wpAny_bind (wpAny_pure (wpAny_pure h'))))))) ) fun _ _ x => x)
  | cons p r =>
    obtain ⟨b, x⟩ := p
    rw [List.any_cons, Bool.or_eq_false_iff] at hp
    obtain rfl : b = false := hp.1
    exact Calls.evalArgs_plain h
section
variable {W : W0} {n : Nat} {env : Env} {ρ : Rho} {G : Gh} {μ : List Loc} {H : List O} {s : Shared} {A : Around}

theorem spliced_ok {args : List Expr} {Q : List V → List O → Prop} {P : List Value → Shared → Prop} {pos : Pos} (h : EvalsOk W n env args ρ H Q) (hA : Room n A) (hs : St W env ρ G μ H s)
    (hk : ∀ cs s' vs G' μ' H', GLe G G' → MLe μ μ' → St W env ρ G' μ' H' s' → VRs G' μ' vs cs → Q vs H' → P cs s') : wpAny W.M A (spliced (backTo pos (starEach args env))) P NoE s :=
  wpAny_mono (h A G μ s pos hA hs) (fun c s' ⟨v, G', μ', H', g, m, x, r, q⟩ => hk c s' v G' μ' H' g m x r q) fun _ _ x => x

/-- the arguments of a call, then the call: a def, a class -/
theorem callWith_obj {f : Value} {first : List Value} {args : List Expr} {Q : List V → List O → Prop} {P : Value → Shared → Prop} {pos : Pos} (hf : keepIn W.K f = true) (ha : args.all (fun e => !isStarred e) = true)
    (h : EvalsOk W n env args ρ H Q) (hA : Room n A) (hs : St W env ρ G μ H s)
    (hk : ∀ cs s' vs G' μ' H', GLe G G' → MLe μ μ' → St W env ρ G' μ' H' s' → VRs G' μ' vs cs → Q vs H' → wpAny W.M A (PySem.call f (first ++ cs)) P NoE s') : wpAny W.M A (callWith pos f first (backTo pos (starEach args env)) []) P NoE s := by
  refine callWith_of (P := fun h => W.K.In h) (by rw [backTo_plain ha]; rfl) (keeps_K hf) (evalArgs_sp (backTo_plain ha) (spliced_ok h hA hs ?_))
  intro cs s' vs G' μ' H' g m x r q
  exact ⟨x.hp.K, hk cs s' vs G' μ' H' g m x r q⟩

/-- a global def or class is called -/
theorem ok_call {x : String} {f : Value} {args : List Expr} {p pos : Pos} {Q : V → List O → Prop} (e : ∀ P, nsIn (K0 P) mainGlobals (Str.ofString x) = some (some f)) (hf : ∀ P, keepIn (K0 P) f = true) (ha : args.all (fun e => !isStarred e) = true)
    (hx : env.kindOf (Str.ofString x) = some .globalImplicit) (hd : (Str.ofString x == ("__debug__" : Str)) = false)
    (h : EvalsOk W n env args ρ H fun vs H1 => CallOk W n f vs H1 Q) : EvalOk W n env (.Call (.Name (Str.ofString x) p) args [] pos) ρ H Q := by
  intro A G μ s hA hs
  refine wpAny_Call_NameR (name_global hs (e _) ?_ hx hd)
  refine callWith_obj (hf _) ha h hA hs ?_
  intro cs s' vs G' μ' H' g m x' r q
  exact wpAny_mono (wpCall x' hA r q) (fun _ _ p => p.up g m) fun _ _ x => x

/-- a builtin on values in hand -/
noncomputable def OpsOk (W : W0) (n : Nat) (env : Env) (f : List Value → Sem Value) (vs : List V) (ρ : Rho) (H : List O) (Q : V → List O → Prop) : Prop :=
  ∀ A G μ s cs, Room n A → St W env ρ G μ H s → VRs G μ vs cs → wpAny W.M A (f cs) (PostV W env ρ G μ Q) NoE s
theorem ok_bcall {x : String} {id : String} {args : List Expr} {p pos : Pos} {Q : V → List O → Prop} (e : ∀ P, nsIn (K0 P) mainGlobals (Str.ofString x) = some none) (hv : bootBuiltins (Str.ofString x) = some (.builtin id)) (hn : Str.ofString x ≠ "__name__")
    (ha : args.all (fun e => !isStarred e) = true) (hx : env.kindOf (Str.ofString x) = some .globalImplicit) (hd : (Str.ofString x == ("__debug__" : Str)) = false)
    (h : EvalsOk W n env args ρ H fun vs H1 => OpsOk W n env (fun cs => PySem.call (.builtin id) cs) vs ρ H1 Q) : EvalOk W n env (.Call (.Name (Str.ofString x) p) args [] pos) ρ H Q := by
  intro A G μ s hA hs
  refine wpAny_Call_NameR (name_builtin hs (e _) hv hn ?_ hx hd)
  refine Calls.callWith_builtin (backTo_plain ha) (evalArgs_sp (backTo_plain ha) (spliced_ok h hA hs ?_))
  intro cs s' vs G' μ' H' g m x' r q
  exact wpAny_mono (q A G' μ' s' cs hA x' r) (fun _ _ p => p.up g m) fun _ _ x => x
theorem ok_tcall {x : String} {T : String} {args : List Expr} {p pos : Pos} {Q : V → List O → Prop} (e : ∀ P, nsIn (K0 P) mainGlobals (Str.ofString x) = some none) (hv : bootBuiltins (Str.ofString x) = some (.type T)) (hn : Str.ofString x ≠ "__name__")
    (ha : args.all (fun e => !isStarred e) = true) (hx : env.kindOf (Str.ofString x) = some .globalImplicit) (hd : (Str.ofString x == ("__debug__" : Str)) = false)
    (h : EvalsOk W n env args ρ H fun vs H1 => OpsOk W n env (fun cs => PySem.call (.type T) cs) vs ρ H1 Q) : EvalOk W n env (.Call (.Name (Str.ofString x) p) args [] pos) ρ H Q := by
  intro A G μ s hA hs
  refine wpAny_Call_NameR (name_builtin hs (e _) hv hn ?_ hx hd)
  refine PyProof.Rows.callWith_type (backTo_plain ha) (evalArgs_sp (backTo_plain ha) (spliced_ok h hA hs ?_))
  intro cs s' vs G' μ' H' g m x' r q
  exact wpAny_mono (q A G' μ' s' cs hA x' r) (fun _ _ p => p.up g m) fun _ _ x => x

theorem methodCall_ {o : Expr} {m : String} {apos pos : Pos} {args : List Expr} {Q : Value → Shared → Prop} {pl : Sem Bool} {M : Model} {E : Value → Shared → Prop}
    (h : wpAny M A (eval o env) (fun ov s₁ => wpAny M A (getMethod ov (Str.ofString m) pl) (fun fx s₂ => wpAny M A (callWith pos fx.1 fx.2 (backTo pos (starEach args env)) []) Q E s₂) E s₁) E s)
    (he : eval (.Call (.Attribute o (Str.ofString m) apos) args [] pos) env = (do
      let ov ← eval o env
      standAt apos.atName
      let (f, first) ← holding [ov] (getMethod ov (Str.ofString m) pl)
      callWith pos f first (backTo pos (starEach args env)) [])) :
    wpAny M A (eval (.Call (.Attribute o (Str.ofString m) apos) args [] pos) env) Q E s := by
  rw [he]
  exact wpAny_bind (wpAny_mono h (fun ov s₁ h₁ => wpAny_bind (wpAny_standAt (wpAny_bind (wpAny_holding (wpAny_mono h₁ (fun fx s₂ h₂ => h₂) fun _ _ x => x))))) fun _ _ x => x)

/-- the shape of a method's call: what the machine does -/
noncomputable abbrev MShape (o : Expr) (m : String) (apos pos : Pos) (args : List Expr) : Prop := ∀ env, ∃ pl, eval (.Call (.Attribute o (Str.ofString m) apos) args [] pos) env = (do
      let ov ← eval o env
      standAt apos.atName
      let (f, first) ← holding [ov] (getMethod ov (Str.ofString m) pl)
      callWith pos f first (backTo pos (starEach args env)) [])

/-- a method of an own class is called -/
theorem ok_mcall {o : Expr} {m : String} {apos pos : Pos} {args : List Expr} {Q : V → List O → Prop} (he : MShape o m apos pos args) (ha : args.all (fun e => !isStarred e) = true)
    (h : EvalOk W n env o ρ H fun v H1 => ∃ C fs f, (v = .ins C fs ∨ ∃ i, v = .ref i ∧ H1[i]? = some (.inst C fs)) ∧ ClsOk C ∧ (∀ P, findIn (K0 P) (.ref C) (Str.ofString m) = some (some (.ref f))) ∧ (∀ P, isFn (K0 P) (.ref f) = true) ∧ (∀ P, keepIn (K0 P) (.ref f) = true) ∧ fs.lookup m = none ∧
      EvalsOk W n env args ρ H1 fun vs H2 => CallOk W n (.ref f) (v :: vs) H2 Q) : EvalOk W n env (.Call (.Attribute o (Str.ofString m) apos) args [] pos) ρ H Q := by
  intro A G μ s hA hs
  obtain ⟨pl, he⟩ := he env
  refine methodCall_ (wpVp (h A G μ s hA hs) ?_) he
  rintro c s1 v G1 μ1 H1 g1 m1 hs1 r1 ⟨C, fs, f, hv, K, hf, hfn, hk, hl, q⟩
  obtain ⟨a, d, ds, mm, rfl, I, hD⟩ := inst_at hs1.hp hv r1
  refine method_fn hs1.hp.K I (K.ga _) (K.gn _) (hf _) (beq_iff_eq.mp (hfn _)) (by show (lookIn _ (dictOf ds mm)).map _ = _; rw [lookIn_dict, drs_none hD hl]; rfl) ?_
  refine callWith_obj (hk _) ha q hA hs1 ?_
  intro cs s' vs G' μ' H' g m x' r q'
  exact wpAny_mono (wpCall x' hA (VRs.cons (r1.up g m) r) q') (fun _ _ p => p.up (g1.trans g) (m1.trans m)) fun _ _ x => x

/-- a builtin type's method is called -/
noncomputable def IsOf (T : String) (v : V) (H : List O) : Prop := (T = "str" ∧ ∃ x, v = .str x) ∨ (T = "list" ∧ ∃ i xs, v = .ref i ∧ H[i]? = some (.list xs))
theorem IsOf.type {T : String} {v : V} {c : Value} (h : IsOf T v H) (hs : St W env ρ G μ H s) (r : VR G μ v c) : s.TypeIs c T ∧ ∀ a, c = .ref a → ∃ ob, s.heap.get? a = some ob ∧ ob.dict = none := by
  rcases h with ⟨rfl, x, rfl⟩ | ⟨rfl, i, xs, rfl, hi⟩
  · simp only [VR] at r
    obtain ⟨t, rfl⟩ := r
    exact ⟨rfl, fun a e => by cases e⟩
  · obtain ⟨l, cs, m, hl, rfl, hd, ho, hv⟩ := ref_list hs.hp hi r
    exact ⟨⟨_, ho, rfl⟩, fun a e => by cases e; exact ⟨_, ho, rfl⟩⟩
theorem ok_tmeth {o : Expr} {m T id : String} {apos pos : Pos} {args : List Expr} {Q : V → List O → Prop} (he : MShape o m apos pos args) (ha : args.all (fun e => !isStarred e) = true) (pa : PlainAttrs T) (slot : Slot T (Str.ofString m) id) (hty : typeOf (.builtin id) = pure (.type "method_descriptor"))
    (h : EvalOk W n env o ρ H fun v H1 => IsOf T v H1 ∧ EvalsOk W n env args ρ H1 fun vs H2 => OpsOk W n env (fun cs => PySem.call (.builtin id) cs) (v :: vs) ρ H2 Q) : EvalOk W n env (.Call (.Attribute o (Str.ofString m) apos) args [] pos) ρ H Q := by
  intro A G μ s hA hs
  obtain ⟨pl, he⟩ := he env
  refine methodCall_ (wpVp (h A G μ s hA hs) ?_) he
  rintro c s1 v G1 μ1 H1 g1 m1 hs1 r1 ⟨hT, q⟩
  obtain ⟨t1, t2⟩ := hT.type hs1 r1
  refine getMethod_builtin t1 pa slot hty t2 ?_
  refine Calls.callWith_builtin (backTo_plain ha) (evalArgs_sp (backTo_plain ha) (spliced_ok q hA hs1 ?_))
  intro cs s' vs G' μ' H' g m x' r q'
  exact wpAny_mono (q' A G' μ' s' _ hA x' (VRs.cons (r1.up g m) r)) (fun _ _ p => p.up (g1.trans g) (m1.trans m)) fun _ _ x => x
end
end
section
open PySem PySem.W PyProof.Rows Builtin Builtin.ObjectAttr

section
variable {W : W0} {n : Nat} {env : Env} {ρ : Rho} {G : Gh} {μ : List Loc} {H : List O} {s : Shared} {A : Around} {Q : V → List O → Prop}

theorem vrs1 {v : V} {cs : List Value} (h : VRs G μ [v] cs) : ∃ c, cs = [c] ∧ VR G μ v c := by
  simp only [VRs] at h
  obtain ⟨c, r, rfl, h1, rfl⟩ := h
  exact ⟨c, rfl, h1⟩
theorem vrs2 {v w : V} {cs : List Value} (h : VRs G μ [v, w] cs) : ∃ c d, cs = [c, d] ∧ VR G μ v c ∧ VR G μ w d := by
  simp only [VRs] at h
  obtain ⟨c, r, rfl, h1, d, r', rfl, h2, rfl⟩ := h
  exact ⟨c, d, rfl, h1, h2⟩

/-- an own list is changed in place -/
theorem St.upd_list {i : Nat} {xs ys : List V} {l : Loc} {cs : List Value} {m : Nat} {f : Array Value → Array Value} (hs : St W env ρ G μ H s) (hi : H[i]? = some (.list xs)) (hl : μ[i]? = some l) (hd : l.d = none) (ho : IsL s.heap l.a cs.toArray m)
    (hy : VRs G μ ys (f cs.toArray).toList) : St W env ρ G μ (H.set i (.list ys)) { s with heap := s.heap.update l.a (Obj.mapSeq f) } := by
  refine hs.write (h' := s.heap.update l.a (Obj.mapSeq f)) (t := s.toks) hi hl (b := l.a) (by simp [Loc.foot]) (Heap.SameBut.update ..) ?_
  exact ⟨(f cs.toArray).toList, _, hd, by have := IsL.update ho f; unfold seqObj; rw [Array.toArray_toList]; exact this, hy⟩

theorem call_len_str {x : List Nat} (hx : x.length ≤ sizeLine) (h : Q (.int x.length) H) : OpsOk W n env (fun cs => PySem.call (.builtin "len") cs) [.str x] ρ H Q := by
  intro A G μ s cs hA hs hv
  obtain ⟨c, rfl, r1⟩ := vrs1 hv
  simp only [VR] at r1; obtain ⟨t, rfl⟩ := r1
  refine P.len_str ?_ ?_
  · rw [sx_len]; rw [sizeLine_eq] at hx; omega
  · rw [sx_len]; exact postV (hs.toks _) vr_int h
theorem call_len_ref {i : Nat} {xs : List V} (hi : H[i]? = some (.list xs)) (hx : xs.length ≤ sizeLine) (h : Q (.int xs.length) H) : OpsOk W n env (fun cs => PySem.call (.builtin "len") cs) [.ref i] ρ H Q := by
  intro A G μ s cs hA hs hv
  obtain ⟨c, rfl, r1⟩ := vrs1 hv
  obtain ⟨l, cs, m, hl, rfl, hd, ho, hr⟩ := ref_list hs.hp hi r1
  have e : cs.toArray.size = xs.length := by simp [hr.len]
  refine Calls.call_len_list ho.isList ?_ ?_
  · rw [e]; rw [sizeLine_eq] at hx; omega
  · rw [e]; exact postV (hs.toks _) vr_int h
theorem lst_list {vs : List V} {c : Value} (hs : HP W G μ H s.heap) (h : VR G μ (.lst vs) c) : ∃ a cs m, c = .ref a ∧ IsL s.heap a cs.toArray m ∧ VRs G μ vs cs := by
  simp only [VR] at h
  obtain ⟨a, cs, m, rfl, ha, hv⟩ := h
  exact ⟨a, cs, m, rfl, hs.keep _ _ _ ha, hv⟩
theorem call_len_lst {xs : List V} (hx : xs.length ≤ sizeLine) (h : Q (.int xs.length) H) : OpsOk W n env (fun cs => PySem.call (.builtin "len") cs) [.lst xs] ρ H Q := by
  intro A G μ s cs hA hs hv
  obtain ⟨c, rfl, r1⟩ := vrs1 hv
  obtain ⟨a, cs, m, rfl, ho, hr⟩ := lst_list hs.hp r1
  have e : cs.toArray.size = xs.length := by simp [hr.len]
  refine Calls.call_len_list ho.isList ?_ ?_
  · rw [e]; rw [sizeLine_eq] at hx; omega
  · rw [e]; exact postV (hs.toks _) vr_int h
theorem call_ord {c : Nat} (h : Q (.int c) H) : OpsOk W n env (fun cs => PySem.call (.builtin "ord") cs) [.str [c]] ρ H Q := by
  intro A G μ s cs hA hs hv
  obtain ⟨c', rfl, r1⟩ := vrs1 hv
  simp only [VR] at r1; obtain ⟨t, rfl⟩ := r1
  exact P.ord_of_char (postV (hs.toks _) vr_int h)
theorem call_append {i : Nat} {xs : List V} {v : V} (hi : H[i]? = some (.list xs)) (hx : xs.length ≤ sizeLine) (h : Q .none (H.set i (.list (xs ++ [v])))) : OpsOk W n env (fun cs => PySem.call (.builtin "list.append") cs) [.ref i, v] ρ H Q := by
  intro A G μ s cs hA hs hv
  obtain ⟨c, d, rfl, r1, hw⟩ := vrs2 hv
  obtain ⟨l, cs, m, hl, rfl, hd, ho, hr⟩ := ref_list hs.hp hi r1
  refine call_meets F.slot_list_append ⟨_, ho, rfl⟩ F.entry_list_append (F.args_list_append_2 _ _) (list_append l.a cs.toArray m d (by simpa [hr.len] using hx)) ⟨ho, ?_⟩
  refine ⟨.none, G, μ, _, GLe.refl G, MLe.refl μ, hs.upd_list (f := fun x => x.push d) hi hl hd ho ?_, vr_none, h⟩
  simpa using hr.append (VRs.cons hw (VRs.nil _ _))
theorem call_pop {i : Nat} {xs : List V} {v : V} (hi : H[i]? = some (.list (xs ++ [v]))) (hx : xs.length < sizeLine) (h : Q v (H.set i (.list xs))) : OpsOk W n env (fun cs => PySem.call (.builtin "list.pop") cs) [.ref i] ρ H Q := by
  intro A G μ s cs hA hs hv
  obtain ⟨c, rfl, r1⟩ := vrs1 hv
  obtain ⟨l, cs, m, hl, rfl, hd, ho, hr⟩ := ref_list hs.hp hi r1
  have hlen := hr.len
  obtain ⟨y, hy, ry⟩ := VRs.get (i := xs.length) (v := v) hr (by simp)
  simp only [List.length_append, List.length_cons, List.length_nil] at hlen
  refine call_meets F.slot_list_pop ⟨_, ho, rfl⟩ F.entry_list_pop (F.args_list_pop_1 _) (MeetsSeq.list_pop_last l.a cs.toArray m y (by rw [List.size_toArray, hlen, List.getElem?_toArray]; exact hy) (by simp [hlen]; omega)) ⟨ho, ?_⟩
  refine ⟨v, G, μ, _, GLe.refl G, MLe.refl μ, hs.upd_list (f := fun x => x.eraseIdxIfInBounds (cs.toArray.size - 1)) hi hl hd ho ?_, ry, h⟩
  have e : (cs.toArray.eraseIdxIfInBounds (cs.toArray.size - 1)).toList = cs.take xs.length := by
    rw [Array.toList_eraseIdxIfInBounds]
    simp only [List.size_toArray, hlen, Nat.add_sub_cancel]
    rw [List.eraseIdx_eq_take_drop_succ, List.drop_of_length_le (by simp [hlen])]
    simp
  rw [e]
  have := VRs.take xs.length hr
  simpa using this
theorem call_reverse {i : Nat} {xs : List V} (hi : H[i]? = some (.list xs)) (hx : xs.length ≤ sizeLine) (h : Q .none (H.set i (.list xs.reverse))) : OpsOk W n env (fun cs => PySem.call (.builtin "list.reverse") cs) [.ref i] ρ H Q := by
  intro A G μ s cs hA hs hv
  obtain ⟨c, rfl, r1⟩ := vrs1 hv
  obtain ⟨l, cs, m, hl, rfl, hd, ho, hr⟩ := ref_list hs.hp hi r1
  refine call_meets F.slot_list_reverse ⟨_, ho, rfl⟩ F.entry_list_reverse (F.args_list_reverse_1 _) (AutoSeq1.list_reverse_list_0 l.a cs.toArray m (by simpa [hr.len] using hx)) ⟨ho, ?_⟩
  refine ⟨.none, G, μ, _, GLe.refl G, MLe.refl μ, hs.upd_list (f := fun x => x.reverse) hi hl hd ho ?_, vr_none, h⟩
  simpa using hr.reverse
theorem vrs_ints : ∀ {ls : List Int} {cs : List Value}, VRs G μ (ls.map V.int) cs → ∃ zs : List (Int × Tok), zs.map (·.1) = ls ∧ cs = zs.map fun z => Value.int z.1 z.2
  | [], _, h => by simp only [List.map_nil, VRs] at h; exact ⟨[], rfl, h⟩
  | a :: ls, _, h => by
    simp only [List.map_cons, VRs, VR] at h
    obtain ⟨c, r, rfl, ⟨t, rfl⟩, h⟩ := h
    obtain ⟨zs, e, rfl⟩ := vrs_ints h
    exact ⟨(a, t) :: zs, by simp [e], rfl⟩
theorem vrs_strs : ∀ {ls : List (List Nat)} {cs : List Value}, VRs G μ (ls.map V.str) cs → StrsAre cs (ls.map sx)
  | [], _, h => by simp only [List.map_nil, VRs] at h; subst h; exact .nil
  | a :: ls, _, h => by
    simp only [List.map_cons, VRs, VR] at h
    obtain ⟨c, r, rfl, ⟨t, rfl⟩, h⟩ := h
    exact .cons _ _ (vrs_strs h)
theorem call_range1 {b : Int} (h : Q (.rng 0 b) H) : OpsOk W n env (fun cs => PySem.call (.type "range") cs) [.int b] ρ H Q := by
  intro A G μ s cs hA hs hv
  obtain ⟨c, rfl, r1⟩ := vrs1 hv
  simp only [VR] at r1; obtain ⟨t, rfl⟩ := r1
  refine call_range_1 ?_
  obtain ⟨g, hs2⟩ := hs.frozen (o := rangeObj 0 b s.toks t (s.toks + 1)) rfl (s.toks + 1 + 1)
  refine ⟨.rng 0 b, _, μ, H, g, MLe.refl μ, hs2, ?_, h⟩
  simp only [VR]
  exact ⟨_, _, _, _, rfl, put_get⟩
theorem call_range2 {a b : Int} (h : Q (.rng a b) H) : OpsOk W n env (fun cs => PySem.call (.type "range") cs) [.int a, .int b] ρ H Q := by
  intro A G μ s cs hA hs hv
  obtain ⟨c, d, rfl, r1, hw⟩ := vrs2 hv
  simp only [VR] at r1 hw; obtain ⟨t, rfl⟩ := r1; obtain ⟨u, rfl⟩ := hw
  refine call_range_2 ?_
  obtain ⟨g, hs2⟩ := hs.frozen (o := rangeObj a b t u s.toks) rfl (s.toks + 1)
  refine ⟨.rng a b, _, μ, H, g, MLe.refl μ, hs2, ?_, h⟩
  simp only [VR]
  exact ⟨_, _, _, _, rfl, put_get⟩
theorem call_max {a b : Int} (h : Q (.int (max a b)) H) : OpsOk W n env (fun cs => PySem.call (.builtin "max") cs) [.int a, .int b] ρ H Q := by
  intro A G μ s cs hA hs hv
  obtain ⟨c, d, rfl, r1, hw⟩ := vrs2 hv
  simp only [VR] at r1 hw; obtain ⟨t, rfl⟩ := r1; obtain ⟨u, rfl⟩ := hw
  refine max_two_ints hA.handled fun h' tk hk => ?_
  refine ⟨.int (max a b), G, μ, H, GLe.refl G, MLe.refl μ, hs.grow hk tk, ?_, h⟩
  by_cases e : b > a
  · rw [if_pos e, Int.max_eq_right (by walk_at "om")]; exact vr_int
  · rw [if_neg e, Int.max_eq_left (by walk_at "om")]; exact vr_int

/- an item of a list, a tuple, a text -/
noncomputable def pyGet {α : Type} (xs : List α) (k : Int) : Option α := if 0 ≤ k then xs[k.toNat]? else if -(xs.length : Int) ≤ k then xs[(k + xs.length).toNat]? else none
theorem pyGet_seq {α : Type} {xs : List α} {k : Int} {v : α} (h : pyGet xs k = some v) : ∃ j, seqIndex? k xs.length = some j ∧ xs[j]? = some v := by
  unfold pyGet at h
  unfold seqIndex?
  by_cases h0 : 0 ≤ k
  · rw [if_pos h0] at h
    have hl := (List.getElem?_eq_some_iff.mp h).1
    refine ⟨k.toNat, ?_, h⟩
    have : ¬ k < 0 := by walk_at "om"
    simp only [this, if_false]
    rw [if_pos (by simp; omega)]
  · rw [if_neg h0] at h
    by_cases h1 : -(xs.length : Int) ≤ k
    · rw [if_pos h1] at h
      have hl := (List.getElem?_eq_some_iff.mp h).1
      refine ⟨(k + xs.length).toNat, ?_, h⟩
      have : k < 0 := by walk_at "om"
      simp only [this, if_true]
      rw [if_pos (by simp; omega)]
    · rw [if_neg h1] at h; cases h
noncomputable def SubOk (W : W0) (n : Nat) (env : Env) (a b : V) (ρ : Rho) (H : List O) (Q : V → List O → Prop) : Prop :=
  ∀ A G μ s ca cb, Room n A → St W env ρ G μ H s → VR G μ a ca → VR G μ b cb → ∃ T id, s.TypeIs ca T ∧ typeLookup (.type T) "__getitem__" = pure (some (.builtin id)) ∧ wpAny W.M A (getItem ca cb) (PostV W env ρ G μ Q) NoE s
theorem ok_sub {value slice : Expr} {pos : Pos} (h : EvalOk W n env value ρ H fun a H1 => EvalOk W n env slice ρ H1 fun b H2 => SubOk W n env a b ρ H2 Q)
    (hs : ∀ o i, subscripted slice false o i = operate [o, i] (getItem o i) := by intro _ _; rfl) : EvalOk W n env (.Subscript value slice pos) ρ H Q := by
  intro A G μ s hA hst
  refine Subscript_ (wpVp (h A G μ s hA hst) ?_)
  rintro a s1 va G1 μ1 H1 g1 m1 hs1 r1 q1
  refine wpVp (q1 A G1 μ1 s1 hA hs1) ?_
  rintro b s2 vb G2 μ2 H2 g2 m2 hs2 r2 q2
  obtain ⟨T, id, t1, t2, t3⟩ := q2 A G2 μ2 s2 a b hA hs2 (r1.up g2 m2) r2
  exact tail_any t1 t2 (wpAny_mono t3 (fun _ _ p => p.up (g1.trans g2) (m1.trans m2)) fun _ _ x => x) (hs _ _)
theorem list_item {l : Addr} {cs : List Value} {xs : List V} {m : Nat} {k : Int} {t : Tok} {v : V} (ho : IsL s.heap l cs.toArray m) (hr : VRs G μ xs cs) (hs : St W env ρ G μ H s) (hk : -(2 ^ 63) ≤ k ∧ k < 2 ^ 63) (hx : pyGet xs k = some v) (h : Q v H) :
    wpAny W.M A (getItem (.ref l) (.int k t)) (PostV W env ρ G μ Q) NoE s := by
  have hlen : cs.toArray.size = xs.length := by simp [hr.len]
  unfold pyGet at hx
  by_cases h0 : 0 ≤ k
  · rw [if_pos h0] at hx
    obtain ⟨c, e, r⟩ := VRs.get hr hx
    exact wpAny_getItem_list ho.isList h0 hk.2 (by simpa using e) (postV hs r h)
  · rw [if_neg h0] at hx
    by_cases h1 : -(xs.length : Int) ≤ k
    · rw [if_pos h1] at hx
      obtain ⟨c, e, r⟩ := VRs.get hr hx
      exact wpAny_getItem_list_neg ho.isList (by walk_at "om") (by rw [hlen]; exact h1) hk.1 (by rw [hlen]; simpa using e) (postV hs r h)
    · rw [if_neg h1] at hx; cases hx
theorem sub_ref {i : Nat} {xs : List V} {k : Int} {v : V} (hi : H[i]? = some (.list xs)) (hk : -(2 ^ 63) ≤ k ∧ k < 2 ^ 63) (hx : pyGet xs k = some v) (h : Q v H) : SubOk W n env (.ref i) (.int k) ρ H Q := by
  intro A G μ s ca cb hA hs h1 h2
  obtain ⟨l, cs, m, hl, rfl, hd, ho, hr⟩ := ref_list hs.hp hi h1
  simp only [VR] at h2; obtain ⟨t, rfl⟩ := h2
  exact ⟨"list", _, ⟨_, ho, rfl⟩, slot_list_getitem.lookup, list_item ho hr hs hk hx h⟩
theorem sub_lst {xs : List V} {k : Int} {v : V} (hk : -(2 ^ 63) ≤ k ∧ k < 2 ^ 63) (hx : pyGet xs k = some v) (h : Q v H) : SubOk W n env (.lst xs) (.int k) ρ H Q := by
  intro A G μ s ca cb hA hs h1 h2
  obtain ⟨a, cs, m, rfl, ho, hr⟩ := lst_list hs.hp h1
  simp only [VR] at h2; obtain ⟨t, rfl⟩ := h2
  exact ⟨"list", _, ⟨_, ho, rfl⟩, slot_list_getitem.lookup, list_item ho hr hs hk hx h⟩
theorem sub_tup {xs : List V} {k : Int} {v : V} (hk : -(2 ^ 63) ≤ k ∧ k < 2 ^ 63) (hx : pyGet xs k = some v) (h : Q v H) : SubOk W n env (.tup xs) (.int k) ρ H Q := by
  intro A G μ s ca cb hA hs h1 h2
  simp only [VR] at h1 h2; obtain ⟨t, rfl⟩ := h2
  obtain ⟨a, cs, m, rfl, ha, hr⟩ := h1
  have ho := hs.hp.keep _ _ _ ha
  obtain ⟨j, e1, e2⟩ := pyGet_seq hx
  obtain ⟨c, e, r⟩ := VRs.get hr e2
  refine ⟨"tuple", _, ⟨_, ho, rfl⟩, F.slot_tuple_getitem.lookup, P.getItem_tuple (items := cs.toArray) (n := m) ho hk.1 hk.2 (k := j) ?_ (by simpa using e) (postV hs r h)⟩
  simpa [hr.len] using e1
theorem sub_str {x : List Nat} {k : Int} {c : Nat} (hk : -(2 ^ 63) ≤ k ∧ k < 2 ^ 63) (hx : pyGet x k = some c) (h : Q (.str [c]) H) : SubOk W n env (.str x) (.int k) ρ H Q := by
  intro A G μ s ca cb hA hs h1 h2
  simp only [VR] at h1 h2; obtain ⟨t, rfl⟩ := h1; obtain ⟨u, rfl⟩ := h2
  obtain ⟨j, e1, e2⟩ := pyGet_seq hx
  refine ⟨"str", _, rfl, F.slot_str_getitem.lookup, P.getItem_str (c := c) (by simp only [Bool.or_eq_false_iff, decide_eq_false_iff_not]; constructor <;> omega) ?_ (postV (hs.toks _) vr_str h)⟩
  rw [sx_len, e1]
  simpa using e2
end
end
section
open PySem PySem.W PyProof.Rows Builtin Builtin.ObjectAttr

theorem put_ne {G : Gh} {a b : Addr} {x : Bool × Obj} (h : b ≠ a) : (G.put a x) b = G b := by unfold Gh.put; rw [if_neg h]
theorem put_v {G : Gh} {a : Addr} {o : Obj} {x : Obj} (h : G a = some (false, o)) : VLe G (G.put a (false, x)) := by
  intro b y e
  by_cases hb : b = a
  · subst hb; rw [h] at e; cases e
  · rw [put_ne hb]; exact e
theorem put_le_of {G₀ G : Gh} {a : Addr} {x : Bool × Obj} (g : GLe G₀ G) (h : G₀ a = none) : GLe G₀ (G.put a x) := by
  intro b y e
  have : b ≠ a := by rintro rfl; rw [h] at e; cases e
  rw [put_ne this]; exact g _ _ e
theorem del_le_of {G₀ G : Gh} {a : Addr} (g : GLe G₀ G) (h : G₀ a = none) : GLe G₀ (G.del a) := by
  intro b y e
  have : b ≠ a := by rintro rfl; rw [h] at e; cases e
  rw [del_ne this]; exact g _ _ e

section
variable {W : W0} {n : Nat} {env : Env} {ρ : Rho} {G : Gh} {μ : List Loc} {H : List O} {s : Shared} {A : Around}

theorem RhoR.but {m : Str → Option Value} {it : Addr} {o : Obj} {G' : Gh} (h : RhoR G μ env ρ m) (hi : G it = some (false, o)) (hc : ∀ v, o.data ≠ .cell v) (g : VLe G G') (k : ∀ a x, a ≠ it → G a = some x → G' a = some x) : RhoR G' μ env ρ m := fun x v e => by
  obtain ⟨c, hc', r⟩ := h x v e
  refine ⟨c, VR.mono g (MLe.refl μ) v c hc', r.imp id ?_⟩
  rintro ⟨h1, h1', a, o', h2, h3, h4⟩
  refine ⟨h1, h1', a, o', h2, k _ _ ?_ h3, h4⟩
  rintro rfl
  rw [hi] at h3
  cases h3
  exact hc _ h4

/-- a guarded object is changed by its owner -/
theorem St.move (hs : St W env ρ G μ H s) {it : Addr} {o o' : Obj} {h' : Heap} {t : Nat} (hi : G it = some (false, o)) (hc : ∀ v, o.data ≠ .cell v) (hB : W.B.get? it = none) (hsb : Heap.SameBut it s.heap h') (ho : h'.get? it = some o') :
    St W env ρ (G.put it (false, o')) μ H { s with heap := h', toks := t } := by
  obtain ⟨m, ⟨oL, es, ep, hL, hrest⟩, hr⟩ := hs.ns
  have hLi : env.locals ≠ it := by rintro e; rw [← e, hs.nG] at hi; cases hi
  have hF : it ∉ μ.flatMap Loc.foot := fun hb => by rw [hs.hp.fresh _ hb] at hi; cases hi
  refine ⟨hs.sg.heap _ _, ⟨fun b x e => ?_, fun b tt x e => ?_, hs.hp.len, fun i x l h1 h2 => (hs.hp.obj i x l h1 h2).mono (put_v hi) (MLe.refl μ) fun b hb => ?_, fun b hb => ?_, hs.hp.sep⟩, hs.genv, ⟨m, ⟨oL, es, ep, (hsb.2 _ hLi).trans hL, hrest⟩, ?_⟩, ?_, hs.nF⟩
  · have : b ≠ it := by rintro rfl; rw [hB] at e; cases e
    rw [put_ne this]; exact hs.hp.base b x e
  · by_cases hb : b = it
    · subst hb; rw [put_get] at e; cases e; exact ho
    · rw [put_ne hb] at e; rw [hsb.2 _ hb]; exact hs.hp.keep b tt x e
  · exact hsb.2 _ (by rintro rfl; exact hF (mem_foot h2 hb))
  · rw [put_ne (by rintro rfl; exact hF hb)]; exact hs.hp.fresh b hb
  · exact hr.but hi hc (put_v hi) fun a x ha e => by rw [put_ne ha]; exact e
  · rw [put_ne hLi]; exact hs.nG

/-- a guarded object is let go -/
theorem St.drop (hs : St W env ρ G μ H s) {it : Addr} {o : Obj} {h' : Heap} {t : Nat} (hi : G it = some (false, o)) (hc : ∀ v, o.data ≠ .cell v) (hB : W.B.get? it = none) (hsb : Heap.ExtBut it s.heap h') : St W env ρ (G.del it) μ H { s with heap := h', toks := t } := by
  obtain ⟨m, ⟨oL, es, ep, hL, hrest⟩, hr⟩ := hs.ns
  have hLi : env.locals ≠ it := by rintro e; rw [← e, hs.nG] at hi; cases hi
  have hF : it ∉ μ.flatMap Loc.foot := fun hb => by rw [hs.hp.fresh _ hb] at hi; cases hi
  refine ⟨hs.sg.heap _ _, ⟨fun b x e => ?_, fun b tt x e => ?_, hs.hp.len, fun i x l h1 h2 => (hs.hp.obj i x l h1 h2).mono (del_v hi) (MLe.refl μ) fun b hb => ?_, fun b hb => ?_, hs.hp.sep⟩, hs.genv, ⟨m, ⟨oL, es, ep, hsb _ _ hLi hL, hrest⟩, ?_⟩, ?_, hs.nF⟩
  · have : b ≠ it := by rintro rfl; rw [hB] at e; cases e
    rw [del_ne this]; exact hs.hp.base b x e
  · by_cases hb : b = it
    · subst hb; rw [del_self] at e; cases e
    · rw [del_ne hb] at e; exact hsb _ _ hb (hs.hp.keep b tt x e)
  · obtain ⟨o', e⟩ := (hs.hp.obj i x l h1 h2).alive hb
    rw [e]; exact hsb _ _ (by rintro rfl; exact hF (mem_foot h2 hb)) e
  · rw [del_ne (by rintro rfl; exact hF hb)]; exact hs.hp.fresh b hb
  · exact hr.but hi hc (del_v hi) fun a x ha e => by rw [del_ne ha]; exact e
  · rw [del_ne hLi]; exact hs.nG

/-- a fresh guarded object -/
theorem St.guard (h : St W env ρ G μ H s) {o : Obj} (hf : o.isFreed = false) (t : Nat) :
    St W env ρ (G.put s.heap.objs.size (false, o)) μ H { s with heap := s.heap.push o, toks := t } := by
  obtain ⟨g, P⟩ := h.hp.frozen hf false
  refine h.next g (MLe.refl μ) P ?_ ?_ h.nF
  · obtain ⟨m, ⟨o', es, ep, ho, r⟩, hr⟩ := h.ns
    rw [ho]; exact Heap.get?_push_of_some _ ho
  · unfold Gh.put; rw [if_neg (Nat.ne_of_lt h.loc_lt)]; exact h.nG

/- what a loop runs over -/
noncomputable def Src (src : V) (xs : List V) (H : List O) : Prop := src = .lst xs ∨ (∃ i, src = .ref i ∧ H[i]? = some (.list xs)) ∨
  ∃ a b, src = .rng a b ∧ -(2 ^ 60) ≤ a ∧ a ≤ b ∧ b ≤ 2 ^ 60 ∧ xs = (List.range (b - a).toNat).map fun (k : Nat) => V.int (a + k)
noncomputable def ItAt (src : V) (c : Value) (j : Nat) (o : Obj) : Prop := match src with
  | .rng a b => o = { cls := .type "range_iterator", data := .fields #[rawInt (a + j), rawInt (b - a - j), rawInt 1] }
  | _ => ∃ l, c = .ref l ∧ o.cls = .type "list_iterator" ∧ o.data = .fields #[.ref l, .int j 0]
theorem ItAt.noCell {src : V} {c : Value} {j : Nat} {o : Obj} (h : ItAt src c j o) : ∀ v, o.data ≠ .cell v := by
  intro v e
  unfold ItAt at h
  split at h
  · rw [h] at e; cases e
  · obtain ⟨l, _, _, e'⟩ := h; rw [e'] at e; cases e
theorem src_list {src : V} {xs : List V} {c : Value} (h : src = .lst xs ∨ ∃ i, src = .ref i ∧ H[i]? = some (.list xs)) (hp : HP W G μ H s.heap) (r : VR G μ src c) : ∃ l cs m, c = .ref l ∧ IsL s.heap l cs.toArray m ∧ VRs G μ xs cs := by
  rcases h with rfl | ⟨i, rfl, hi⟩
  · exact lst_list hp r
  · obtain ⟨l, cs, m, hl, rfl, hd, ho, hr⟩ := ref_list hp hi r
    exact ⟨_, _, _, rfl, ho, hr⟩
theorem rng_small {a b : Int} (h1 : -(2 ^ 60) ≤ a) (h2 : a ≤ b) (h3 : b ≤ 2 ^ 60) : Builtin.Range.small a b 1 = true ∧ Builtin.Range.rangeSize a b 1 = b - a := by
  have e : Builtin.Range.rangeSize a b 1 = b - a := by
    unfold Builtin.Range.rangeSize
    split <;> (try split) <;> omega
  refine ⟨?_, e⟩
  unfold Builtin.Range.small
  rw [e]
  unfold Builtin.Range.rangeFitsLong
  simp
  omega

theorem iter_start {src : V} {xs : List V} {c : Value} {P : Value → Shared → Prop} (hs : St W env ρ G μ H s) (h : Src src xs H) (r : VR G μ src c)
    (k : ∀ it o s1, G it = none → W.B.get? it = none → ItAt src c 0 o → St W env ρ (G.put it (false, o)) μ H s1 → P (.ref it) s1) : wpAny W.M A (pyIter c) P NoE s := by
  obtain ⟨z1, z2⟩ := hs.hp.size_none
  have zB := hs.hp.notB z1
  rcases h with h | h | ⟨a, b, rfl, h1, h2, h3, rfl⟩
  · obtain ⟨l, cs, m, rfl, ho, hr⟩ := src_list (.inl h) hs.hp r
    subst h
    exact wpAny_pyIter_list ho.isList (k _ _ _ z1 zB ⟨l, rfl, rfl, rfl⟩ (hs.guard rfl s.toks))
  · obtain ⟨l, cs, m, rfl, ho, hr⟩ := src_list (.inr h) hs.hp r
    obtain ⟨i, rfl, hi⟩ := h
    exact wpAny_pyIter_list ho.isList (k _ _ _ z1 zB ⟨l, rfl, rfl, rfl⟩ (hs.guard rfl s.toks))
  · simp only [VR] at r
    obtain ⟨x, t, u, v, rfl, hx⟩ := r
    obtain ⟨e1, e2⟩ := rng_small h1 h2 h3
    refine wpAny_pyIter_range (hs.hp.keep _ _ _ hx) e1 (k _ _ _ z1 zB ?_ (hs.guard rfl s.toks))
    rw [e2]
    show _ = _
    simp

theorem iter_item {src : V} {xs : List V} {c : Value} {j : Nat} {x : V} {it : Addr} {o : Obj} {P : Option Value → Shared → Prop} (hs : St W env ρ G μ H s) (hi : G it = some (false, o)) (hB : W.B.get? it = none) (hI : ItAt src c j o) (h : Src src xs H) (r : VR G μ src c) (hx : xs[j]? = some x)
    (k : ∀ cx o' s1, ItAt src c (j + 1) o' → St W env ρ (G.put it (false, o')) μ H s1 → VR (G.put it (false, o')) μ x cx → P (some cx) s1) : wpAny W.M A (pyNext (.ref it)) P NoE s := by
  have ho := hs.hp.keep _ _ _ hi
  have hnc := hI.noCell
  have lists : (src = .lst xs ∨ ∃ i, src = .ref i ∧ H[i]? = some (.list xs)) → wpAny W.M A (pyNext (.ref it)) P NoE s := by
    intro h
    obtain ⟨l, cs, m, rfl, hl, hr⟩ := src_list h hs.hp r
    have hI' : o.cls = .type "list_iterator" ∧ o.data = .fields #[.ref l, .int j 0] := by
      rcases h with rfl | ⟨i, rfl, _⟩ <;> (obtain ⟨l', e, q⟩ := hI; cases e; exact q)
    obtain ⟨cx, e, rx⟩ := VRs.get hr hx
    refine wpAny_pyNext_list_item (i := j) ⟨o, ho, hI'.1, hI'.2⟩ hl.isList (x := cx) (by simpa using e) fun h' hit hsb => ?_
    obtain ⟨o', ho', c1, c2⟩ := hit
    refine k cx o' _ ?_ (hs.move hi hnc hB hsb ho') (VR.mono (put_v hi) (MLe.refl μ) _ _ rx)
    rcases h with rfl | ⟨i, rfl, _⟩ <;> exact ⟨l, rfl, c1, c2⟩
  rcases h with h | h | ⟨a, b, rfl, h1, h2, h3, rfl⟩
  · exact lists (.inl h)
  · exact lists (.inr h)
  · have hI : o = _ := hI
    subst hI
    rw [List.getElem?_map] at hx
    have hj : j < (b - a).toNat := by
      by_cases hj : j < (b - a).toNat
      · exact hj
      · rw [List.getElem?_eq_none (by simpa using hj)] at hx; cases hx
    rw [List.getElem?_range hj] at hx
    cases hx
    refine wpAny_pyNext_range_item (x := a + j) (left := b - a - j) (step := 1) ho (by walk_at "om") fun h' hit hsb => ?_
    refine k _ _ _ ?_ (hs.move hi hnc hB hsb hit) vr_int
    show _ = _
    have e1 : a + (j : Int) + 1 = a + ((j + 1 : Nat) : Int) := by walk_at "om"
    have e2 : b - a - (j : Int) - 1 = b - a - ((j + 1 : Nat) : Int) := by walk_at "om"
    rw [e1, e2]

theorem iter_end {src : V} {xs : List V} {c : Value} {it : Addr} {o : Obj} {P : Option Value → Shared → Prop} (hA : A.handled = none) (hs : St W env ρ G μ H s) (hi : G it = some (false, o)) (hB : W.B.get? it = none) (hI : ItAt src c xs.length o) (h : Src src xs H) (r : VR G μ src c)
    (k : ∀ s1, St W env ρ (G.del it) μ H s1 → P none s1) : wpAny W.M A (pyNext (.ref it)) P NoE s := by
  have ho := hs.hp.keep _ _ _ hi
  have hnc := hI.noCell
  have lists : (src = .lst xs ∨ ∃ i, src = .ref i ∧ H[i]? = some (.list xs)) → wpAny W.M A (pyNext (.ref it)) P NoE s := by
    intro h
    obtain ⟨l, cs, m, rfl, hl, hr⟩ := src_list h hs.hp r
    have hI' : o.cls = .type "list_iterator" ∧ o.data = .fields #[.ref l, .int xs.length 0] := by
      rcases h with rfl | ⟨i, rfl, _⟩ <;> (obtain ⟨l', e, q⟩ := hI; cases e; exact q)
    refine wpAny_pyNext_list_end (i := xs.length) hA ⟨o, ho, hI'.1, hI'.2⟩ hl.isList (by simp [hr.len]) fun h' he => ?_
    exact k _ (hs.drop (t := s.toks) hi hnc hB he)
  rcases h with h | h | ⟨a, b, rfl, h1, h2, h3, rfl⟩
  · exact lists (.inl h)
  · exact lists (.inr h)
  · have hI : o = _ := hI
    subst hI
    simp only [List.length_map, List.length_range] at ho
    refine wpAny_pyNext_range_end (x := a + ((b - a).toNat : Int)) (left := b - a - ((b - a).toNat : Int)) (step := 1) hA ho (by walk_at "om") fun h' he => ?_
    exact k _ (hs.drop (t := s.toks) hi hnc hB he)

/-- a for over a list or a range -/
theorem ok_for {x : String} {px pos : Pos} {iter : Expr} {body : List Stmt} {Q : Fl → Rho → List O → Prop} (hk : env.kindOf (Str.ofString x) = some .local)
    (h : EvalOk W n env iter ρ H fun src H1 => ∃ xs, ∃ I : Nat → Rho → List O → Prop, I 0 ρ H1 ∧ (∀ j ρ' H', j ≤ xs.length → I j ρ' H' → Src src xs H') ∧
      (∀ j v ρ' H', xs[j]? = some v → I j ρ' H' → ExecsOk W n env body (upd ρ' x v) H' fun fl ρ'' H'' => match fl with | .next | .cont => I (j + 1) ρ'' H'' | .brk => Q .next ρ'' H'' | .ret v => Q (.ret v) ρ'' H'') ∧
      (∀ ρ' H', I xs.length ρ' H' → Q .next ρ' H'))
    (hf : ∀ env v, foldedSetIterable iter env v = pure v := by intro _ _; rfl) : ExecOk W n env (.For (.Name (Str.ofString x) px) iter body [] pos) ρ H Q := by
  intro A G μ s hA hs
  refine wpAny_For (wpVp (h A G μ s hA hs) ?_) (hf _)
  rintro c s1 src G1 μ1 H1 g1 m1 hs1 r1 ⟨xs, I, hI0, hsrc, hturn, hend⟩
  refine iter_start hs1 (hsrc 0 _ _ (Nat.zero_le _) hI0) r1 ?_
  intro it o s2 hit hB hat hs2
  refine codeAny_forLoop_any (fun k s' => ∃ j ρ' G' μ' H' o', k + j = xs.length ∧ GLe G1 G' ∧ MLe μ1 μ' ∧ St W env ρ' G' μ' H' s' ∧ G' it = some (false, o') ∧ ItAt src c j o' ∧ I j ρ' H') ?_ xs.length
    ⟨0, ρ, _, μ1, H1, o, by walk_at "om", put_le hit, MLe.refl μ1, hs2, put_get, hat, hI0⟩
  rintro k s3 ⟨j, ρ3, G3, μ3, H3, o3, hkj, g3, m3, hs3, hi3, hat3, hI3⟩
  have hsrc3 := hsrc j _ _ (by walk_at "om") hI3
  have r3 := r1.up g3 m3
  by_cases hj : j = xs.length
  · subst hj
    refine wpAny_mono (iter_end hA.handled hs3 hi3 hB hat3 hsrc3 r3 ?_) (fun _ _ z => z) (fun _ _ z => z.elim)
    intro s4 hs4
    exact wpAny_execs_nil ⟨.next, ρ3, _, μ3, H3, g1.trans (del_le_of g3 hit), m1.trans m3, hs4, flNext, hend _ _ hI3⟩
  · obtain ⟨v, hv⟩ : ∃ v, xs[j]? = some v := ⟨xs[j], List.getElem?_eq_getElem (by walk_at "om")⟩
    refine wpAny_mono (iter_item hs3 hi3 hB hat3 hsrc3 r3 hv (P := fun r s4 => ∃ cx o4, r = some cx ∧ ItAt src c (j + 1) o4 ∧ St W env ρ3 (G3.put it (false, o4)) μ3 H3 s4 ∧ VR (G3.put it (false, o4)) μ3 v cx) ?_) ?_ (fun _ _ z => z.elim)
    · intro cx o4 s4 a1 a2 a3; exact ⟨cx, o4, rfl, a1, a2, a3⟩
    · rintro r s4 ⟨cx, o4, rfl, hat4, hs4, rx⟩
      refine wpAny_pure (wpAny_mono (wpAny_assign_Name (store_name hs4 hk rx (P := fun _ s5 => St W env (upd ρ3 x v) (G3.put it (false, o4)) μ3 H3 s5) fun s5 hs5 => hs5)) ?_ (fun _ _ z => z.elim))
      intro _ s5 hs5
      refine wpAny_mono (hturn j v ρ3 H3 hv hI3 A _ μ3 s5 hA hs5) ?_ (fun _ _ z => z.elim)
      rintro f s6 ⟨fl, ρ6, G6, μ6, H6, g6, m6, hs6, r6, q6⟩
      have hg : GLe G1 G6 := (put_le_of g3 hit).trans g6
      have hm : MLe μ1 μ6 := m3.trans m6
      cases fl with
      | next => cases r6; exact ⟨k - 1, by walk_at "om", j + 1, ρ6, G6, μ6, H6, o4, by walk_at "om", hg, hm, hs6, g6 _ _ put_get, hat4, q6⟩
      | cont => cases r6; exact ⟨k - 1, by walk_at "om", j + 1, ρ6, G6, μ6, H6, o4, by walk_at "om", hg, hm, hs6, g6 _ _ put_get, hat4, q6⟩
      | brk => cases r6; exact ⟨.next, ρ6, G6, μ6, H6, g1.trans hg, m1.trans hm, hs6, flNext, q6⟩
      | ret w => obtain ⟨cw, rfl, r6⟩ := r6; exact ⟨.ret w, ρ6, G6, μ6, H6, g1.trans hg, m1.trans hm, hs6, flRet r6, q6⟩
end
end
section
open PySem PySem.W PyProof.Rows Builtin Builtin.ObjectAttr

section
variable {W : W0} {n : Nat} {env : Env} {ρ : Rho} {G : Gh} {μ : List Loc} {H : List O} {s : Shared} {A : Around}

/-- an address that nobody knows is changed -/
theorem HP.unknown {h h' : Heap} (P : HP W G μ H h) {C : Addr} (hG : G C = none) (hF : C ∉ μ.flatMap Loc.foot) (hsb : Heap.SameBut C h h') : HP W G μ H h' where
  base := P.base
  keep := fun b t x e => by rw [hsb.2 b (by rintro rfl; rw [hG] at e; cases e)]; exact P.keep b t x e
  len := P.len
  obj := fun i x l h1 h2 => (P.obj i x l h1 h2).mono (VLe.refl G) (MLe.refl μ) fun b hb => hsb.2 _ (by rintro rfl; exact hF (mem_foot h2 hb))
  fresh := P.fresh
  sep := P.sep
theorem St.unknown (hs : St W env ρ G μ H s) {C : Addr} {h' : Heap} {t : Nat} (hG : G C = none) (hF : C ∉ μ.flatMap Loc.foot) (hne : env.locals ≠ C) (hsb : Heap.SameBut C s.heap h') : St W env ρ G μ H { s with heap := h', toks := t } := by
  obtain ⟨m, ⟨oL, es, ep, hL, hrest⟩, hr⟩ := hs.ns
  exact ⟨hs.sg.heap _ _, hs.hp.unknown hG hF hsb, hs.genv, ⟨m, ⟨oL, es, ep, (hsb.2 _ hne).trans hL, hrest⟩, hr⟩, hs.nG, hs.nF⟩
/-- a known address takes a new flag and content -/
theorem HP.same_put {h : Heap} (P : HP W G μ H h) {a : Addr} {o : Obj} (hi : G a = some (false, o)) : HP W (G.put a (true, o)) μ H h where
  base := fun b x e => by
    obtain ⟨t, q⟩ := P.base b x e
    by_cases hb : b = a
    · subst hb; rw [hi] at q; cases q; exact ⟨true, put_get⟩
    · rw [put_ne hb]; exact ⟨t, q⟩
  keep := fun b t x e => by
    by_cases hb : b = a
    · subst hb; rw [put_get] at e; cases e; exact P.keep _ _ _ hi
    · rw [put_ne hb] at e; exact P.keep b t x e
  len := P.len
  obj := fun i x l h1 h2 => (P.obj i x l h1 h2).mono (fun b y e => by
    by_cases hb : b = a
    · subst hb; rw [hi] at e; cases e
    · rw [put_ne hb]; exact e) (MLe.refl μ) fun _ _ => rfl
  fresh := fun b hb => by
    rw [put_ne (by rintro rfl; rw [P.fresh _ hb] at hi; cases hi)]; exact P.fresh b hb
  sep := P.sep
theorem putt_v {a : Addr} {o : Obj} (hi : G a = some (false, o)) : VLe G (G.put a (true, o)) := fun b y e => by
    by_cases hb : b = a
    · subst hb; rw [hi] at e; cases e
    · rw [put_ne hb]; exact e
theorem St.show_ (hs : St W env ρ G μ H s) {a : Addr} {o : Obj} (hi : G a = some (false, o)) (hc : ∀ v, o.data ≠ .cell v) : St W env ρ (G.put a (true, o)) μ H s := by
  obtain ⟨m, hn, hr⟩ := hs.ns
  refine ⟨hs.sg, hs.hp.same_put hi, hs.genv, ⟨m, hn, hr.but hi hc (putt_v hi) fun b x hb e => by rw [put_ne hb]; exact e⟩, ?_, hs.nF⟩
  rw [put_ne (by rintro e; rw [← e, hs.nG] at hi; cases hi)]; exact hs.nG

theorem iter_self {src : V} {c : Value} {j : Nat} {it : Addr} {o : Obj} {P : Value → Shared → Prop} (hs : St W env ρ G μ H s) (hi : G it = some (false, o)) (hI : ItAt src c j o) (h : P (.ref it) s) : wpAny W.M A (pyIter (.ref it)) P NoE s := by
  have ho := hs.hp.keep _ _ _ hi
  unfold ItAt at hI
  split at hI
  · subst hI; exact wpAny_pyIter_rangeiter ho h
  · obtain ⟨l, _, c1, c2⟩ := hI
    exact wpAny_pyIter_listiter ⟨o, ho, c1, c2⟩ h

set_option genSizeOf false in
structure CompEnv (scope : Scope) (env : Env) (ρ ρc : Rho) (cl : List (Str × Addr)) (x : String) : Prop where
  clos : closureFor scope env = pure cl
  kind : scope.kind = .function
  names : ∀ y ∈ scope.names, y.2 = .local → scope.names.lookup y.1 = some .local
  cell : ∀ y ∈ scope.names, y.2 ≠ .cell
  var : scope.names.lookup (Str.ofString x) = some .local
  cap : ∀ y v, ρc.lookup y = some v → ρ.lookup y = some v ∧ env.kindOf (Str.ofString y) = some .cell ∧ (relabel scope env).names.lookup (Str.ofString y) = some .cell ∧ cl.lookup (Str.ofString y) = env.cells.lookup (Str.ofString y)

theorem comp_core {scope : Scope} {ρc : Rho} {cl : List (Str × Addr)} {x : String} {px pos : Pos} {elt iter : Expr} {src : V} {xs : List V} {c : Value} {it : Addr} {o : Obj} {RR : Value → Addr → Result → Shared → Prop} (hA : Room n A) (C : CompEnv scope env ρ ρc cl x)
    (I : Nat → List V → List O → Prop) (hI0 : I 0 [] H) (hsrc : ∀ j vs H', j ≤ xs.length → I j vs H' → Src src xs H') (hlen : xs.length ≤ sizeLine)
    (hturn : ∀ cenv, GoodEnv cenv → cenv.scope = relabel scope env → ∀ j v vs ρ' H', xs[j]? = some v → vs.length = j → I j vs H' → (∀ y w, y ≠ x → (ρ'.lookup y = some w ↔ ρc.lookup y = some w)) → ρ'.lookup x = some v → EvalOk W n cenv elt ρ' H' fun w H'' => I (j + 1) (vs ++ [w]) H'')
    (hs : St W env ρ G μ H s) (hi : G it = some (false, o)) (hB : W.B.get? it = none) (hat : ItAt src c 0 o) (r : VR G μ src c)
    (hend : ∀ acc Cc vs G' μ' H' s', (∀ a y, a ≠ it → G a = some y → G' a = some y) → MLe μ μ' → St W env ρ G' μ' H' s' → VR G' μ' (.lst vs) acc → vs.length = xs.length → I xs.length vs H' → G' it = none → G' Cc = none → Cc ∉ μ'.flatMap Loc.foot → env.locals ≠ Cc → (∃ m, s'.heap.Ns Cc m) → RR acc Cc (.ok .next) s') :
    wpAny W.M A (newList []) (fun acc s₃ => wpAny W.M A (newFunctionEnv scope env.globals cl [] env.qual none .none (some env)) (fun cenv s₄ =>
      codeAny W.M A (.compStart (.ListComp elt [⟨.Name (Str.ofString x) px, iter, [], 0⟩] scope pos) 0 (.ref it) acc { cenv with scope := relabel scope env }) (RR acc cenv.locals) s₄) NoE s₃) NoE s := by
  refine wpAny_newObj_type (wpAny_newFunctionEnv C.cell (by intro y hy; simp at hy) (fun h₁ hns₁ hsb₁ => ?_) C.kind)
  dsimp only at hns₁ hsb₁ ⊢
  -- the list that grows
  obtain ⟨z1, z2⟩ := hs.hp.size_none
  have hs1 := hs.guard (o := { cls := .type "list", data := .seq ([] : List Value).toArray }) rfl s.toks
  generalize ha : s.heap.objs.size = a at z1 z2 hs1
  have hH : s.heap.push { cls := .type "list", data := .seq ([] : List Value).toArray } = s.heap.push { cls := .type "list", dict := none, data := .seq ([] : List Value).toArray } := rfl
  generalize hH2 : s.heap.push { cls := .type "list", data := .seq ([] : List Value).toArray } = H2 at hns₁ hsb₁ hs1
  have zB := hs.hp.notB z1
  have hita : it ≠ a := by rintro rfl; rw [z1] at hi; cases hi
  -- the frame's dict
  obtain ⟨y1, y2⟩ := hs1.hp.size_none
  have hs2 : St W env ρ (G.put a (false, { cls := .type "list", data := .seq ([] : List Value).toArray })) μ H { s with heap := h₁, toks := s.toks + 0 } := by
    refine (hs1.grow (h' := H2.push { cls := .type "dict", data := .dict #[] }) (fun b o e => Heap.get?_push_of_some _ e) s.toks).unknown y1 y2 ?_ hsb₁
    exact Nat.ne_of_lt hs1.loc_lt
  generalize hC : H2.objs.size = Cc at hns₁ hsb₁ y1 y2
  have hLC : env.locals ≠ Cc := by rw [← hC]; exact Nat.ne_of_lt hs1.loc_lt
  obtain ⟨m, ⟨oL, es, ep, hL0, hrest⟩, hr0⟩ := hs.ns
  have hL : h₁.get? env.locals = some oL := by
    rw [hsb₁.2 _ hLC, ← hH2]
    exact Heap.get?_push_of_some _ (Heap.get?_push_of_some _ hL0)
  have hr : RhoR (G.put a (false, { cls := .type "list", data := .seq ([] : List Value).toArray })) μ env ρ m := hr0.mono (put_le z1) (MLe.refl μ)
  have hLa : env.locals ≠ a := by rw [← ha]; exact Nat.ne_of_lt hs.loc_lt
  -- the surrounding frame is guarded
  have P3 := hs2.hp.put (t := false) hL hs2.nG hs2.nF
  have g3 := put_le (x := (false, oL)) hs2.nG
  have henv : GoodEnv { newEnv scope Cc env.globals cl env.qual none .none (some env) builtinsNs with scope := relabel scope env } := ⟨C.kind, hs.genv.globals, hs.genv.builtins⟩
  generalize hG3 : (G.put a (false, { cls := .type "list", data := .seq ([] : List Value).toArray })).put env.locals (false, oL) = G3 at P3 g3
  have i3 : G3 it = some (false, o) := g3 _ _ (by rw [put_ne hita]; exact hi)
  have a3 : G3 a = some (false, { cls := .type "list", data := .seq ([] : List Value).toArray }) := g3 _ _ put_get
  have l3 : G3 env.locals = some (false, oL) := by rw [← hG3]; exact put_get
  have c3 : G3 Cc = none := by rw [← hG3, put_ne (Ne.symm hLC)]; exact y1
  have gG : GLe G G3 := (put_le z1).trans g3
  have hst : St W { newEnv scope Cc env.globals cl env.qual none .none (some env) builtinsNs with scope := relabel scope env } ρc G3 μ H { s with heap := h₁, toks := s.toks + 0 } := by
    refine ⟨hs2.sg, P3, henv, ⟨_, hns₁, ?_⟩, c3, y2⟩
    intro y v e
    obtain ⟨e1, e2, e3, e4⟩ := C.cap y v e
    obtain ⟨cv, rv, q⟩ := hr y v e1
    refine ⟨cv, VR.mono g3.v (MLe.refl μ) v cv rv, ?_⟩
    rcases q with ⟨q, _⟩ | ⟨_, q1, a', o', q2, q3, q4⟩
    · rw [e2] at q; cases q
    · exact .inr ⟨.inl e3, q1, a', o', e4.trans q2, g3 _ _ q3, q4⟩
  have hcv : ∀ v : Option Value, ({ cls := .type "list", data := .seq ([] : List Value).toArray } : Obj).data ≠ .cell v := fun v e => by cases e
  generalize hcenv : ({ newEnv scope Cc env.globals cl env.qual none .none (some env) builtinsNs with scope := relabel scope env } : Env) = cenv at henv hst
  have hcs : cenv.scope = relabel scope env := by rw [← hcenv]
  have hcl : cenv.locals = Cc := by rw [← hcenv]; rfl
  have hkx : cenv.kindOf (Str.ofString x) = some .local := by
    unfold Env.kindOf
    rw [hcs]
    exact lookup_relabel_local C.var
  have loop : codeAny W.M A (.compLoop (.ListComp elt [⟨.Name (Str.ofString x) px, iter, [], 0⟩] scope pos) 0 (.ref it) (.ref a) cenv) (RR (.ref a) Cc) { s with heap := h₁, toks := s.toks + 0 } := by
    refine codeAny_compLoop_list (fun k s' => ∃ j ρ' vs cs mm G' μ' H' o', k + j = xs.length ∧ MLe μ μ' ∧ St W cenv ρ' G' μ' H' s' ∧ G' it = some (false, o') ∧ ItAt src c j o' ∧ G' a = some (false, seqObj "list" cs mm) ∧ VRs G' μ' vs cs ∧ vs.length = j ∧
      I j vs H' ∧ (∀ y w, y ≠ x → (ρ'.lookup y = some w ↔ ρc.lookup y = some w)) ∧ (∀ b y, b ≠ it → b ≠ a → G3 b = some y → G' b = some y) ∧ VR G' μ' src c) ?_ xs.length
      ⟨0, ρc, [], [], 0, G3, μ, H, o, by walk_at "om", MLe.refl μ, hst, i3, hat, a3, VRs.nil _ _, rfl, hI0, fun _ _ _ => Iff.rfl, fun _ _ _ _ e => e, r.up gG (MLe.refl μ)⟩
    rintro k s5 ⟨j, ρ5, vs, cs, mm, G5, μ5, H5, o5, hkj, m5, hs5, i5, hat5, a5, rv5, hvl, hI5, hρ5, g5, r5⟩
    have hsrc5 := hsrc j vs H5 (by walk_at "om") hI5
    by_cases hj : j = xs.length
    · subst hj
      refine wpAny_mono (iter_end hA.handled hs5 i5 hB hat5 hsrc5 r5 (P := fun rr s6 => rr = none ∧ St W cenv ρ5 (G5.del it) μ5 H5 s6) fun s6 h6 => ⟨rfl, h6⟩) ?_ (fun _ _ z => z.elim)
      rintro rr s6 ⟨rfl, hs6⟩
      show RR _ _ _ _
      have l6 : (G5.del it) env.locals = some (false, oL) := by
        have : env.locals ≠ it := by rintro e; rw [← e, hs.nG] at hi; cases hi
        rw [del_ne this]; exact g5 _ _ this hLa l3
      have a6 : (G5.del it) a = some (false, seqObj "list" cs mm) := by rw [del_ne (Ne.symm hita)]; exact a5
      have v6 : VLe G5 (G5.del it) := del_v i5
      have hs7 := hs6.show_ (o := seqObj "list" cs mm) a6 (fun v e => by cases e)
      have l7 : ((G5.del it).put a (true, seqObj "list" cs mm)) env.locals = some (false, oL) := by rw [put_ne hLa]; exact l6
      have BL : W.B.get? env.locals = none := hs.hp.notB hs.nG
      have P8 := hs7.hp.free l7 BL
      have v7 : VLe G5 (((G5.del it).put a (true, seqObj "list" cs mm)).del env.locals) := (v6.trans (putt_v a6)).trans (del_v l7)
      have k8 : ∀ b y, b ≠ it → G b = some y → (((G5.del it).put a (true, seqObj "list" cs mm)).del env.locals) b = some y := by
        intro b y hb e
        have hba : b ≠ a := by rintro rfl; rw [z1] at e; cases e
        have hbl : b ≠ env.locals := by rintro rfl; rw [hs.nG] at e; cases e
        rw [del_ne hbl, put_ne hba, del_ne hb]
        exact g5 _ _ hb hba (gG _ _ e)
      have v8 : VLe G (((G5.del it).put a (true, seqObj "list" cs mm)).del env.locals) := fun b y e => k8 b _ (by rintro rfl; rw [hi] at e; cases e) e
      refine hend (.ref a) Cc vs _ μ5 H5 s6 k8 m5 ⟨hs7.sg, P8, hs.genv, ⟨m, ⟨oL, es, ep, hs7.hp.keep _ _ _ l7, hrest⟩, (hr0.but hi hat.noCell v8 k8).mono (GLe.refl _) m5⟩, del_self, ?_⟩ ?_ hvl hI5 ?_ ?_ ?_ hLC ?_
      · intro hb
        have := hs7.hp.fresh _ hb
        rw [l7] at this; cases this
      · simp only [VR]
        refine ⟨a, cs, mm, rfl, ?_, VRs.mono v7 (MLe.refl _) _ _ rv5⟩
        rw [del_ne (Ne.symm hLa)]; exact put_get
      · have : it ≠ env.locals := by rintro e; rw [e, hs.nG] at hi; cases hi
        rw [del_ne this, put_ne hita]; exact del_self
      · rw [← hcl]
        have h1 : cenv.locals ≠ env.locals := by rw [hcl]; exact Ne.symm hLC
        rw [del_ne h1]; exact hs7.nG
      · rw [← hcl]; exact hs7.nF
      · obtain ⟨mc, hnc, _⟩ := hs7.ns
        rw [hcl] at hnc
        exact ⟨mc, hnc⟩
    · obtain ⟨v, hv⟩ : ∃ v, xs[j]? = some v := ⟨xs[j], List.getElem?_eq_getElem (by walk_at "om")⟩
      refine wpAny_mono (iter_item hs5 i5 hB hat5 hsrc5 r5 hv (P := fun rr s6 => ∃ cx o6, rr = some cx ∧ ItAt src c (j + 1) o6 ∧ St W cenv ρ5 (G5.put it (false, o6)) μ5 H5 s6 ∧ VR (G5.put it (false, o6)) μ5 v cx) ?_) ?_ (fun _ _ z => z.elim)
      · intro cx o6 s6 b1 b2 b3; exact ⟨cx, o6, rfl, b1, b2, b3⟩
      · rintro rr s6 ⟨cx, o6, rfl, hat6, hs6, rx⟩
        have v6 : VLe G5 (G5.put it (false, o6)) := put_v i5
        refine wpAny_mono (wpAny_assign_Name (store_name hs6 hkx rx (P := fun _ s7 => St W cenv (upd ρ5 x v) (G5.put it (false, o6)) μ5 H5 s7) fun s7 hs7 => hs7)) ?_ (fun _ _ z => z.elim)
        intro _ s7 hs7
        have hρ7 : ∀ y w, y ≠ x → ((upd ρ5 x v).lookup y = some w ↔ ρc.lookup y = some w) := by
          intro y w hy
          rw [upd_lookup, if_neg hy]; exact hρ5 y w hy
        refine wpAny_mono (hturn cenv henv hcs j v vs (upd ρ5 x v) H5 hv hvl hI5 hρ7 (by rw [upd_lookup, if_pos rfl]) A _ μ5 s7 hA hs7) ?_ (fun _ _ z => z.elim)
        rintro cw s8 ⟨w, G8, μ8, H8, g8, m8, hs8, rw8, q8⟩
        have a8 : G8 a = some (false, seqObj "list" cs mm) := g8 _ _ (by rw [put_ne (Ne.symm hita)]; exact a5)
        have ho8 := hs8.hp.keep _ _ _ a8
        have rv8 : VRs G8 μ8 vs cs := VRs.mono (v6.trans g8.v) m8 _ _ rv5
        have hcl8 : cs.length ≤ sizeLine := by rw [rv5.len, hvl]; omega
        refine wpAny_mono (Q := fun _ s9 => ∃ mm', St W cenv (upd ρ5 x v) (G8.put a (false, seqObj "list" (cs ++ [cw]) mm')) μ8 H8 s9) (E := NoE) ?_ ?_ (fun _ _ z => z.elim)
        · refine call_meets F.slot_list_append ⟨_, ho8, rfl⟩ F.entry_list_append (F.args_list_append_2 _ _) (list_append a cs.toArray mm cw (by simpa using hcl8)) ⟨ho8, ?_⟩
          have hup := IsL.update (items := cs.toArray) (n := mm) ho8 (fun x => x.push cw)
          have e : cs.toArray.push cw = (cs ++ [cw]).toArray := by simp
          rw [e] at hup
          exact ⟨_, hs8.move a8 (fun v e => by cases e) zB (Heap.SameBut.update ..) hup⟩
        · rintro _ s9 ⟨mm', hs9⟩
          have v9 : VLe G8 (G8.put a (false, seqObj "list" (cs ++ [cw]) mm')) := put_v a8
          refine ⟨k - 1, by walk_at "om", j + 1, upd ρ5 x v, vs ++ [w], cs ++ [cw], mm', _, μ8, H8, o6, by walk_at "om", m5.trans m8, hs9, ?_, hat6, put_get, ?_, by simp [hvl], q8, hρ7, ?_, ?_⟩
          · rw [put_ne hita]; exact g8 _ _ put_get
          · exact VRs.mono v9 (MLe.refl _) _ _ (rv8.append (VRs.cons rw8 (VRs.nil _ _)))
          · intro b y hb hba e
            rw [put_ne hba]
            exact g8 _ _ (by rw [put_ne hb]; exact g5 b y hb hba e)
          · exact VR.mono ((v6.trans g8.v).trans v9) m8 _ _ r5
  refine codeAny_compStart_list ?_ ?_
  · exact loop
  · refine wpAny_mono (iter_self (P := fun v s' => v = .ref it ∧ s' = { s with heap := h₁, toks := s.toks + 0 }) hst i3 hat ⟨rfl, rfl⟩) ?_ (fun _ _ z => z.elim)
    rintro v s' ⟨rfl, rfl⟩
    exact loop
end
end
section
open PySem PySem.W PyProof.Rows Builtin Builtin.ObjectAttr

section
variable {W : W0} {n : Nat} {env : Env} {ρ : Rho} {G : Gh} {μ : List Loc} {H : List O} {s : Shared} {A : Around}

theorem store_name' {x : String} {v : V} {c : Value} {P : Unit → Shared → Prop} (hs : St W env ρ G μ H s) (hk : env.kindOf (Str.ofString x) = some .local) (r : VR G μ v c)
    (h : ∀ s', St W env (upd ρ x v) G μ H s' → Heap.SameBut env.locals s.heap s'.heap → P () s') : wpAny W.M A (storeName env (Str.ofString x) c) P NoE s := by
  obtain ⟨m, hn, hr⟩ := hs.ns
  refine wpAny_storeName_local hk hn (fun h' hn' hsb => h _ ?_ hsb) (by rw [hs.genv.kind]; rfl)
  refine ⟨hs.sg.heap _ _, hs.hp.unknown hs.nG hs.nF hsb, hs.genv, ⟨_, hn', ?_⟩, hs.nG, hs.nF⟩
  intro y w e
  rw [upd_lookup] at e
  by_cases hy : y = x
  · subst hy
    rw [if_pos rfl] at e
    cases e
    exact ⟨c, r, .inl ⟨hk, if_pos rfl⟩⟩
  · rw [if_neg hy] at e
    obtain ⟨cw, rw', q⟩ := hr y w e
    refine ⟨cw, rw', q.imp (fun ⟨a, b⟩ => ⟨a, ?_⟩) id⟩
    show (if Str.ofString y = Str.ofString x then some c else m (Str.ofString y)) = some cw
    rw [if_neg fun q => hy (ofString_inj q)]
    exact b

/-- a list comprehension -/
theorem ok_comp {scope : Scope} {ρc : Rho} {cl : List (Str × Addr)} {x : String} {px pos : Pos} {elt iter : Expr} {Q : V → List O → Prop}
    (hC : CompEnv scope env ρ ρc cl x)
    (h : EvalOk W n env iter ρ H fun src H1 => ∃ xs, ∃ I : Nat → List V → List O → Prop, I 0 [] H1 ∧ (∀ j vs H', j ≤ xs.length → I j vs H' → Src src xs H') ∧ xs.length ≤ sizeLine ∧
      (∀ cenv, GoodEnv cenv → cenv.scope = relabel scope env → ∀ j v vs ρ' H', xs[j]? = some v → vs.length = j → I j vs H' → (∀ y w, y ≠ x → (ρ'.lookup y = some w ↔ ρc.lookup y = some w)) → ρ'.lookup x = some v → EvalOk W n cenv elt ρ' H' fun w H'' => I (j + 1) (vs ++ [w]) H'') ∧
      (∀ vs H', vs.length = xs.length → I xs.length vs H' → Q (.lst vs) H'))
    (hf : ∀ v, foldedSetIterable iter env v = pure v := by intro _; rfl) : EvalOk W n env (.ListComp elt [⟨.Name (Str.ofString x) px, iter, [], 0⟩] scope pos) ρ H Q := by
  intro A G μ s hA hs
  rw [eval_ListComp]
  refine wpAny_comprehension_free (use := none) rfl hf hC.clos hC.kind hC.names (wpVp (h A G μ s hA hs) ?_)
  rintro c s1 src G1 μ1 H1 g1 m1 hs1 r1 ⟨xs, I, hI0, hsrc, hlen, hturn, hend⟩
  refine iter_start hs1 (hsrc 0 _ _ (Nat.zero_le _) hI0) r1 ?_
  intro it o s2 hit hB hat hs2
  refine comp_core (RR := fun acc Cc => compPost W.M A NoE none (PostV W env ρ G μ Q) acc Cc) hA hC I hI0 hsrc hlen hturn hs2 put_get hB hat (r1.up (put_le hit) (MLe.refl _)) ?_
  intro acc Cc vs G' μ' H' s' hk hm hs' hv hvl hI' hit' hCG hCF hLC hns
  obtain ⟨mc, hns⟩ := hns
  refine ⟨mc, hns, fun h' hsb => ⟨.lst vs, G', μ', H', g1.trans ?_, m1.trans hm, hs'.unknown (t := s'.toks) hCG hCF hLC hsb, hv, hend vs H' hvl hI'⟩⟩
  intro b y e
  have hb : b ≠ it := by rintro rfl; rw [hit] at e; cases e
  exact hk b y hb (by rw [put_ne hb]; exact e)

/-- a comprehension that is stored in a name at once -/
theorem ok_assign_comp {scope : Scope} {ρc : Rho} {cl : List (Str × Addr)} {x y : String} {px py pos spos : Pos} {elt iter : Expr} {Q : Fl → Rho → List O → Prop}
    (hC : CompEnv scope env ρ ρc cl x) (hsw : swapsWith (.ListComp elt [⟨.Name (Str.ofString x) px, iter, [], 0⟩] scope pos) (some (.Name (Str.ofString y) py)) spos.line env = pure true) (hk : env.kindOf (Str.ofString y) = some .local)
    (h : EvalOk W n env iter ρ H fun src H1 => ∃ xs, ∃ I : Nat → List V → List O → Prop, I 0 [] H1 ∧ (∀ j vs H', j ≤ xs.length → I j vs H' → Src src xs H') ∧ xs.length ≤ sizeLine ∧
      (∀ cenv, GoodEnv cenv → cenv.scope = relabel scope env → ∀ j v vs ρ' H', xs[j]? = some v → vs.length = j → I j vs H' → (∀ y w, y ≠ x → (ρ'.lookup y = some w ↔ ρc.lookup y = some w)) → ρ'.lookup x = some v → EvalOk W n cenv elt ρ' H' fun w H'' => I (j + 1) (vs ++ [w]) H'') ∧
      (∀ vs H', vs.length = xs.length → I xs.length vs H' → Q .next (upd ρ y (.lst vs)) H'))
    (hf : ∀ v, foldedSetIterable iter env v = pure v := by intro _; rfl) : ExecOk W n env (.Assign [.Name (Str.ofString y) py] (.ListComp elt [⟨.Name (Str.ofString x) px, iter, [], 0⟩] scope pos) spos) ρ H Q := by
  intro A G μ s hA hs
  rw [exec_Assign_Name_used _ _ _ _ hsw]
  refine wpAny_bind (wpAny_standAt (wpAny_bind ?_))
  show wpAny W.M A (comprehension (.ListComp elt [⟨.Name (Str.ofString x) px, iter, [], 0⟩] scope pos) scope env (firstIterPos [⟨.Name (Str.ofString x) px, iter, [], 0⟩] pos) (newList []) (firstAsync [⟨.Name (Str.ofString x) px, iter, [], 0⟩]) (firstIter [⟨.Name (Str.ofString x) px, iter, [], 0⟩] env) (some (assign (.Name (Str.ofString y) py) env)) >>= fun _ => pure ()) _ _ s
  refine wpAny_bind (wpAny_comprehension_free (use := some (assign (.Name (Str.ofString y) py) env)) rfl hf hC.clos hC.kind hC.names (wpVp (h A G μ s hA hs) ?_))
  rintro c s1 src G1 μ1 H1 g1 m1 hs1 r1 ⟨xs, I, hI0, hsrc, hlen, hturn, hend⟩
  refine iter_start hs1 (hsrc 0 _ _ (Nat.zero_le _) hI0) r1 ?_
  intro it o s2 hit hB hat hs2
  refine comp_core (RR := fun acc Cc => compPost W.M A NoE (some (assign (.Name (Str.ofString y) py) env)) (fun _ s' => wpAny W.M A (pure ()) (fun _ s'' => wpAny W.M A (pure Flow.next) (PostF W env G μ Q) NoE s'') NoE s') acc Cc) hA hC I hI0 hsrc hlen hturn hs2 put_get hB hat (r1.up (put_le hit) (MLe.refl _)) ?_
  intro acc Cc vs G' μ' H' s' hk' hm hs' hv hvl hI' hit' hCG hCF hLC hns
  obtain ⟨mc, hns⟩ := hns
  refine wpAny_assign_Name (store_name' hs' hk hv fun s'' hs'' hsb'' => ?_)
  refine ⟨mc, hns.sameBut hsb'' hLC.symm, fun h' hsb => ?_⟩
  refine wpAny_pure (wpAny_pure ⟨.next, upd ρ y (.lst vs), G', μ', H', g1.trans ?_, m1.trans hm, hs''.unknown (t := s''.toks) hCG hCF hLC hsb, flNext, hend vs H' hvl hI'⟩)
  intro b y e
  have hb : b ≠ it := by rintro rfl; rw [hit] at e; cases e
  exact hk' b y hb (by rw [put_ne hb]; exact e)

/-- an object of an own class is made -/
theorem call_new {C f : Addr} {args : List V} {Q : V → List O → Prop} (K : ClsOk C) (hi : ∀ P, findIn (K0 P) (.ref C) "__init__" = some (some (.ref f))) (hf : ∀ P, typeIn (K0 P) (.ref f) = some (.type "function"))
    (h : CallOk W n (.ref f) (.ref H.length :: args) (H ++ [.inst C []]) fun v H' => v = .none ∧ Q (.ref H.length) H') : CallOk W (n + 1) (.ref C) args H Q := by
  intro A G μ s cs hA hsg hp hv
  obtain ⟨hh, g, d, t, os⟩ := s
  refine make_core (makes_of hp.K (K.makes _)) (looks_findIn hp.K (hi _)) (fun self => bind_fn hp.K self (hf _)) (.inl rfl) ?_
  have hw : (Code.builtin "type.__call__" ⟨.ref C :: cs, []⟩).weight = 1 := by rfl
  have hu : (Code.builtin "type.__call__" ⟨.ref C :: cs, []⟩).cUnits = 1 := by rfl
  have hA' : Room n (A.under (.builtin "type.__call__" ⟨.ref C :: cs, []⟩)) := by
    refine ⟨?_, ?_, hA.handled⟩
    · show A.depth + Code.weight _ + 4 * n + 8 ≤ _
      have := hA.depth
      rw [hw]; omega
    · show A.units + Code.cUnits _ + 16 * n + 128 ≤ _
      have := hA.units
      rw [hu]; omega
  have n1 : hh.get? hh.objs.size = none := Mine.size_none hh
  have n2 : hh.get? (hh.objs.size + 1) = none := by
    cases e : hh.get? (hh.objs.size + 1) with
    | none => rfl
    | some o => exact absurd (Heap.lt_size e) (Nat.not_lt.mpr (Nat.le_succ _))
  have k : ∀ b o, hh.get? b = some o → ((hh.push emptyDict).push (instObj C hh.objs.size)).get? b = some o := fun b o e => Heap.get?_push_of_some _ (Heap.get?_push_of_some _ e)
  have e1 : ((hh.push emptyDict).push (instObj C hh.objs.size)).get? (hh.objs.size + 1) = some (instObj C hh.objs.size) := by
    have := Heap.get?_push_size (hh.push emptyDict) (o := instObj C hh.objs.size) rfl
    rwa [Heap.size_push] at this
  have e2 : ((hh.push emptyDict).push (instObj C hh.objs.size)).get? hh.objs.size = some (dictOf [] 0) := Heap.get?_push_of_some _ (Heap.get?_push_size _ rfl)
  have P1 := HP.newInst (c := C) hp n2 n1 (Nat.succ_ne_self _) k e1 e2
  have rself : VR G (μ ++ [⟨hh.objs.size + 1, some hh.objs.size⟩]) (.ref H.length) (.ref (hh.objs.size + 1)) := by
    simp only [VR]
    refine ⟨⟨hh.objs.size + 1, some hh.objs.size⟩, ?_, rfl⟩
    rw [← hp.len, List.getElem?_append_right (Nat.le_refl _), Nat.sub_self]
    rfl
  refine codeAny_mono (h _ G _ ⟨_, g, d, t, os⟩ (.ref (hh.objs.size + 1) :: cs) hA' ⟨hsg.gens, hsg.drawn, hsg.os⟩ P1 (VRs.cons rself (hv.up (GLe.refl G) (mle_app _ _)))) ?_
  rintro r s' ⟨c, v, G', μ', H', rfl, g', mm, sg, P', rv, rfl, q⟩
  simp only [VR] at rv
  subst rv
  refine ⟨rfl, _, _, G', μ', H', rfl, g', (mle_app _ _).trans mm, sg, P', rself.up g' mm, q⟩

theorem put_cells {h : Heap} : ∀ (as : List Addr) {G : Gh}, HP W G μ H h → (∀ a ∈ as, (∃ o, h.get? a = some o) ∧ G a = none ∧ a ∉ μ.flatMap Loc.foot) → as.Nodup →
    ∃ G', GLe G G' ∧ HP W G' μ H h ∧ (∀ a ∈ as, ∃ o, G' a = some (false, o)) ∧ ∀ b, b ∉ as → G' b = G b
  | [], G, P, _, _ => ⟨G, GLe.refl G, P, (fun a h => (nomatch h)), fun _ _ => rfl⟩
  | a :: as, G, P, hx, hn => by
    rw [List.nodup_cons] at hn
    obtain ⟨⟨o, ho⟩, h1, h2⟩ := hx a List.mem_cons_self
    have P1 := P.put (t := false) ho h1 h2
    obtain ⟨G', g, P', k1, k2⟩ := put_cells as P1 (fun b hb => by
      obtain ⟨q1, q2, q3⟩ := hx b (List.mem_cons_of_mem _ hb)
      refine ⟨q1, ?_, q3⟩
      rw [put_ne (by rintro rfl; exact hn.1 hb)]; exact q2) hn.2
    refine ⟨G', (put_le h1).trans g, P', fun b hb => ?_, fun b hb => ?_⟩
    · rcases List.mem_cons.mp hb with rfl | hb
      · exact ⟨o, g _ _ put_get⟩
      · exact k1 b hb
    · rw [List.mem_cons, not_or] at hb
      rw [k2 b hb.2, put_ne hb.1]

theorem bindL_get {kindOf : Str → Option NameKind} : ∀ {binds : List (Str × Value)} {m : Str → Option Value} {y : Str}, kindOf y = some .local → (binds.map (·.1)).Nodup → bindL kindOf binds m y = (match binds.lookup y with | some c => some c | none => m y)
  | [], m, y, _, _ => rfl
  | (x, c) :: r, m, y, hk, hn => by
    rw [List.map_cons, List.nodup_cons] at hn
    unfold bindL
    rw [bindL_get hk hn.2]
    by_cases hy : y = x
    · subst hy
      have : r.lookup y = none := by
        rw [List.lookup_eq_none_iff]
        intro p hp
        refine bne_iff_ne.mpr ?_
        intro e
        exact hn.1 (by rw [e]; exact List.mem_map.mpr ⟨p, hp, rfl⟩)
      rw [this, if_pos hk]
      simp
    · have e1 : (y == x) = false := beq_eq_false_iff_ne.mpr hy
      rw [List.lookup_cons, e1]
      cases r.lookup y with
      | some c' => rfl
      | none =>
        dsimp only
        split
        · show (if y = x then some c else m y) = m y
          rw [if_neg hy]
        · rfl
theorem bindC_get {kindOf : Str → Option NameKind} : ∀ {binds : List (Str × Value)} {m : Str → Option Value} {y : Str}, kindOf y ≠ some .local → (binds.map (·.1)).Nodup → bindC kindOf binds m y = (match binds.lookup y with | some c => some c | none => m y)
  | [], m, y, _, _ => rfl
  | (x, c) :: r, m, y, hk, hn => by
    rw [List.map_cons, List.nodup_cons] at hn
    unfold bindC
    rw [bindC_get hk hn.2]
    by_cases hy : y = x
    · subst hy
      have : r.lookup y = none := by
        rw [List.lookup_eq_none_iff]
        intro p hp
        refine bne_iff_ne.mpr ?_
        intro e
        exact hn.1 (by rw [e]; exact List.mem_map.mpr ⟨p, hp, rfl⟩)
      rw [this, if_neg hk]
      simp
    · have e1 : (y == x) = false := beq_eq_false_iff_ne.mpr hy
      rw [List.lookup_cons, e1]
      cases r.lookup y with
      | some c' => rfl
      | none =>
        dsimp only
        split
        · rfl
        · show (if y = x then some c else m y) = m y
          rw [if_neg hy]

theorem nodup_look {cells : List (Str × Addr)} (ha : cells.Pairwise fun x y => x.2 ≠ y.2) : ∀ {ps : List String}, ps.Nodup → (ps.filterMap fun x => cells.lookup (Str.ofString x)).Nodup
  | [], _ => List.nodup_nil
  | x :: ps, hn => by
    rw [List.nodup_cons] at hn
    rw [List.filterMap_cons]
    cases e : cells.lookup (Str.ofString x) with
    | none => exact nodup_look ha hn.2
    | some a =>
      dsimp only
      rw [List.nodup_cons]
      refine ⟨fun hm => ?_, nodup_look ha hn.2⟩
      obtain ⟨y, hy, e'⟩ := List.mem_filterMap.mp hm
      have h1 := PySem.mem_of_lookup_some e
      have h2 := PySem.mem_of_lookup_some e'
      have : Str.ofString x = Str.ofString y := name_of_addr ha h1 h2
      exact hn.1 (by rw [ofString_inj this]; exact hy)

/-- a def of the text whose frame has cells -/
theorem call_defC {a : Addr} {d : Stmt} {q : String} {ps : List String} {args : List V} {H : List O} {Q : V → List O → Prop} (D : DefAt a d q ps) (hlen : args.length = ps.length)
    (hkind : ∀ x ∈ ps, (sS d).names.lookup (Str.ofString x) = some .local ∨ ((sS d).names.lookup (Str.ofString x) = some .cell ∧ ∀ L, ((cellsFrom L (sS d).names []).lookup (Str.ofString x)).isSome = true))
    (hcd : ∀ x ∈ ps, (Str.ofString x == ("__classdict__" : Str)) = false)
    (h : ∀ env, GoodEnv env → env.scope = sS d → (∀ x ∈ ps, (sS d).names.lookup (Str.ofString x) = some .cell → (env.cells.lookup (Str.ofString x)).isSome = true) → ExecsOk W n env (bS d) (ps.zip args) H (fun fl _ H' => Q fl.val H')) : CallOk W (n + 1) (.ref a) args H Q := by
  intro A G μ s cs hA hsg hp hv
  obtain ⟨m, t, c, hl, hc⟩ := D.look W.w.params
  have hX := hp.K
  refine codeAny_call_cells (by have := hA.depth; omega) (hX _ _ hl) rfl hp.top.nolimit (codeRec_of hX hc) rfl (D.binds m t c cs (by rw [hv.len, hlen])) rfl ?_ ?_ D.co D.gen D.kind
  · intro x hx
    obtain ⟨y, hy, e⟩ := List.mem_map.mp (List.of_mem_zip hx).1
    rw [← e]
    exact (hkind y hy).imp id fun z => ⟨z.1, z.2 _⟩
  · intro s₁ X
    generalize hfd : (fnOf (nS d) (Str.ofString q) (pS d) (bS d) (sS d) .none .none .none (sv m t) none (.ref c) .none) = fd at X ⊢
    have hfs : fd.scope = sS d := by rw [← hfd]
    have henv : GoodEnv (callEnvC fd s.heap.objs.size a) := ⟨by rw [← hfd]; exact D.kind, by rw [← hfd]; rfl, by rw [← hfd]; rfl⟩
    have hesc : (callEnvC fd s.heap.objs.size a).scope = sS d := hfs
    have hcells : (callEnvC fd s.heap.objs.size a).cells = cellsFrom (s.heap.objs.size + 1) (sS d).names [] := by rw [← hfs]; rfl
    obtain ⟨h₁, tk, rfl⟩ := X.toInCall.same
    have hk := X.toInCall.keep
    dsimp only at hk
    have P0 := hp.same hk
    obtain ⟨z1, z2⟩ := hp.size_none
    have hfresh : ∀ b, s.heap.objs.size ≤ b → G b = none ∧ b ∉ μ.flatMap Loc.foot := fun b hb => hp.not_known (by
      cases e : s.heap.get? b with
      | none => rfl
      | some o => exact absurd (Heap.lt_size e) (Nat.not_lt.mpr hb))
    generalize hE : callEnvC fd s.heap.objs.size a = E at X henv hesc hcells
    have hEL : E.locals = s.heap.objs.size := by rw [← hE]; rfl
    have hab : ∀ x b, E.cells.lookup x = some b → s.heap.objs.size < b := fun x b e => by
      have := X.above x b (PySem.mem_of_lookup_some e)
      rwa [hEL] at this
    obtain ⟨G', g', P', k1, k2⟩ := put_cells (ps.filterMap fun x => E.cells.lookup (Str.ofString x)) P0 (fun b hb => by
      obtain ⟨x, hx, e⟩ := List.mem_filterMap.mp hb
      obtain ⟨o, ho, _⟩ := X.cell _ _ e
      have := hab _ _ e
      exact ⟨⟨o, ho⟩, (hfresh b (Nat.le_of_lt this)).1, (hfresh b (Nat.le_of_lt this)).2⟩) (nodup_look X.apart D.nodup)
    have hnd := names_nodup D.nodup (cs := cs)
    have hko : ∀ x, E.kindOf x = (sS d).names.lookup x := fun x => by unfold Env.kindOf; rw [hesc]
    have hst : St W E (ps.zip args) G' μ H { s with heap := h₁, toks := tk } := by
      refine ⟨hsg.heap _ _, P', henv, ⟨_, X.toInCall.ns, ?_⟩, ?_, by rw [hEL]; exact z2⟩
      · intro x v e
        obtain ⟨cv, r, e'⟩ := lookup_zip hv e
        have hx : x ∈ ps := by
          obtain ⟨l1, l2, e2, _⟩ := List.lookup_eq_some_iff.mp e
          have : (x, v) ∈ ps.zip args := by rw [e2]; simp
          exact (List.of_mem_zip this).1
        refine ⟨cv, r.up g' (MLe.refl μ), ?_⟩
        rcases hkind x hx with hk1 | ⟨hk1, hk2⟩
        · refine .inl ⟨by rw [hko]; exact hk1, ?_⟩
          rw [bindL_get (by rw [hko]; exact hk1) hnd, e']
        · have hkc : E.kindOf (Str.ofString x) = some .cell := by rw [hko]; exact hk1
          obtain ⟨b, hb⟩ := Option.isSome_iff_exists.mp (hk2 (s.heap.objs.size + 1))
          have hb' : E.cells.lookup (Str.ofString x) = some b := by rw [hcells]; exact hb
          obtain ⟨o, ho, hod⟩ := X.cell _ _ hb'
          obtain ⟨o', ho'⟩ := k1 b (List.mem_filterMap.mpr ⟨x, hx, hb'⟩)
          have := P'.keep _ _ _ ho'
          rw [ho] at this
          cases this
          refine .inr ⟨.inl hkc, hcd x hx, b, o, hb', ho', ?_⟩
          rw [hod, bindC_get (by rw [hkc]; decide) hnd, e']
      · rw [hEL, k2 _ ?_]
        · exact z1
        · intro hb
          obtain ⟨x, hx, e⟩ := List.mem_filterMap.mp hb
          exact Nat.lt_irrefl _ (hab _ _ e)
    refine wpAny_mono (h E henv hesc (fun x hx hk' => ?_) _ G' μ _ (hA.deeper _) hst) ?_ (fun _ _ z => z.elim)
    · rcases hkind x hx with hk1 | ⟨_, hk2⟩
      · rw [hk1] at hk'; cases hk'
      · rw [hcells]; exact hk2 _
    · rintro f s' ⟨fl, ρ', G2, μ2, H2, g2, mm, x, r, q⟩
      refine ⟨flowVal f, fl.val, G2, μ2, H2, ?_, g'.trans g2, mm, x.sg, x.hp, r.val, q⟩
      cases f <;> rfl
end
end
section
open PySem PySem.W PyProof.Rows Builtin Builtin.ObjectAttr

section
variable {W : W0} {n : Nat} {env : Env} {ρ : Rho} {G : Gh} {μ : List Loc} {H : List O} {s : Shared} {A : Around} {Q : V → List O → Prop}

theorem seqIndex_lt {k : Int} {n j : Nat} (h : seqIndex? k n = some j) : j < n := by
  unfold seqIndex? at h
  by_cases h0 : k < 0
  · simp only [h0, if_true, Option.ite_none_right_eq_some, Bool.and_eq_true, decide_eq_true_eq, Option.some.injEq] at h; omega
  · simp only [h0, if_false, Option.ite_none_right_eq_some, Bool.and_eq_true, decide_eq_true_eq, Option.some.injEq] at h; omega
/-- an item of a list is stored -/
theorem setItem_at {prog : Program} {w : World} {E : Value → Shared → Prop} {l : Addr} {items : Array Value} {m : Nat} {k : Int} {t : Tok} {v : Value} {j : Nat} {P : Unit → Shared → Prop} (ho : IsL s.heap l items m) (hfit : Builtin.List.listFitsIndex k = true) (hj : seqIndex? k items.size = some j) (hjl : j < items.size)
    (hP : P () { s with heap := s.heap.update l (Obj.mapSeq (·.setIfInBounds j v)) }) : wpAny (model prog w) A (setItem (.ref l) (.int k t) v) P E s := by
  have hl := ho.isList
  unfold setItem
  refine wpAny_holding ?_
  refine wpAny_bind (wpAny_sequenceKey hl.typeIs (by decide) ?_)
  refine wpAny_bind (wpAny_callSpecial?_slot (name := Str.ofString "__setitem__") hl.typeIs slot_list_setitem
    (wpAny_call_entry slot_list_setitem hl.typeIs entry_list_setitem ?_ (args_list_setitem _ _ _)))
  show wpAny _ _ (Builtin.List.listSubscript? (.int k t) >>= _) _ _ s
  refine wpAny_bind (wpAny_listSubscript_int hfit ?_)
  have hx' : items[j]? = some items[j] := Array.getElem?_eq_getElem hjl
  have fin : wpAny (model prog w) A.in1 (setSeqItemAt l j v >>= fun _ => ret .none) (fun fin s' => ∃ v, fin = .done (.ret v) ∧ wpAny (model prog w) A (pure ()) P E s') E s :=
    wpAny_bind (wpAny_setSeqItemAt ho rfl (wpAny_pure ⟨.none, rfl, wpAny_pure hP⟩))
  cases k with
  | ofNat i =>
    have : i = j := by
      unfold seqIndex? at hj
      have h0 : ¬ (Int.ofNat i < 0) := by simp
      simp only [h0, if_false] at hj
      split at hj
      · cases hj; simp
      · cases hj
    subst this
    show wpAny _ _ ((seqItemAt l i >>= fun r => pure (r.map (i, ·))) >>= _) _ _ s
    refine wpAny_bind (wpAny_bind (wpAny_seqItemAt ho rfl (wpAny_pure ?_)))
    rw [hx']
    exact fin
  | negSucc i =>
    show wpAny _ _ ((Builtin.List.listItems (.ref l) >>= fun xs => pure ((seqIndex? (Int.negSucc i) xs.size).bind fun i => xs[i]?.map (i, ·))) >>= _) _ _ s
    refine wpAny_bind (wpAny_bind ?_)
    show wpAny _ _ (seqItems? (.ref l) >>= _) _ _ s
    refine wpAny_bind (wpAny_seqItems ho rfl (wpAny_pure (wpAny_pure ?_)))
    rw [hj]
    simp only [Option.bind_some, hx', Option.map_some]
    exact fin

noncomputable def pySet (xs : List V) (k : Int) (v : V) : List V := match seqIndex? k xs.length with | some j => xs.set j v | none => xs
theorem set_ref {i : Nat} {xs : List V} {k : Int} {v : V} {ca cb cv : Value} {P : Unit → Shared → Prop} (hs : St W env ρ G μ H s) (hi : H[i]? = some (.list xs)) (hk : -(2 ^ 63) ≤ k ∧ k < 2 ^ 63) (hx : (seqIndex? k xs.length).isSome = true)
    (r1 : VR G μ (.ref i) ca) (r2 : VR G μ (.int k) cb) (r3 : VR G μ v cv) (h : ∀ s', St W env ρ G μ (H.set i (.list (pySet xs k v))) s' → P () s') : wpAny W.M A (setItem ca cb cv) P NoE s := by
  obtain ⟨l, cs, m, hl, rfl, hd, ho, hr⟩ := ref_list hs.hp hi r1
  simp only [VR] at r2; obtain ⟨t, rfl⟩ := r2
  obtain ⟨j, hj⟩ := Option.isSome_iff_exists.mp hx
  have hlen := hr.len
  have hjl : j < xs.length := by
    exact seqIndex_lt hj
  refine setItem_at (j := j) ho ?_ (by rw [List.size_toArray, hlen]; exact hj) (by rw [List.size_toArray, hlen]; exact hjl) ?_
  · unfold Builtin.List.listFitsIndex
    simp only [Bool.and_eq_true, decide_eq_true_eq]
    omega
  · refine h _ ?_
    have := hs.upd_list (ys := pySet xs k v) (f := fun x => x.setIfInBounds j cv) hi hl hd ho ?_
    · exact this
    · unfold pySet
      rw [hj]
      simpa using VRs.set r3 hr

theorem ok_assign_sub {o i : Expr} {value : Expr} {p' pos : Pos} {Q : Fl → Rho → List O → Prop} (h : EvalOk W n env value ρ H fun v H1 => EvalOk W n env o ρ H1 fun ov H2 => EvalOk W n env i ρ H2 fun iv H3 => ∃ a xs k, ov = .ref a ∧ iv = .int k ∧ H3[a]? = some (.list xs) ∧ (-(2 ^ 63) ≤ k ∧ k < 2 ^ 63) ∧ (seqIndex? k xs.length).isSome = true ∧
      Q .next ρ (H3.set a (.list (pySet xs k v))))
    (hw : ∀ env, swapsWith value (some (.Subscript o i p')) pos.line env = pure false := by intro _; rfl) : ExecOk W n env (.Assign [.Subscript o i p'] value pos) ρ H Q := by
  intro A G μ s hA hs
  refine wpAny_Assign_Subscript (wpVp (h A G μ s hA hs) ?_) (hw _)
  rintro c s1 v G1 μ1 H1 g1 m1 hs1 r1 q1
  refine wpVp (q1 A G1 μ1 s1 hA hs1) ?_
  rintro co s2 ov G2 μ2 H2 g2 m2 hs2 r2 q2
  refine wpVp (q2 A G2 μ2 s2 hA hs2) ?_
  rintro ci s3 iv G3 μ3 H3 g3 m3 hs3 r3 ⟨a, xs, k, rfl, rfl, hi, hk, hx, q⟩
  exact set_ref hs3 hi hk hx (r2.up g3 m3) r3 (r1.up (g2.trans g3) (m2.trans m3)) fun s' hs' => ⟨.next, ρ, G3, μ3, _, g1.trans (g2.trans g3), m1.trans (m2.trans m3), hs', flNext, q⟩

theorem ok_aug_sub {o i : Expr} {value : Expr} {op : Operator} {p' pos : Pos} {Q : Fl → Rho → List O → Prop} (h : EvalOk W n env o ρ H fun ov H1 => EvalOk W n env i ρ H1 fun iv H2 => ∃ a k, ov = .ref a ∧ iv = .int k ∧ SubOk W n env ov iv ρ H2 fun old H3 => EvalOk W n env value ρ H3 fun v H4 =>
      Op2Ok W n env (inplaceOp op) old v ρ H4 fun new H5 => ∃ xs, H5[a]? = some (.list xs) ∧ (-(2 ^ 63) ≤ k ∧ k < 2 ^ 63) ∧ (seqIndex? k xs.length).isSome = true ∧ Q .next ρ (H5.set a (.list (pySet xs k new))))
    (hst : ∀ (ov iv new : Value), augStore i ov iv new = (do
            holding [new, ov, iv] (setItem ov iv new)
            release [new, ov, iv] []
            pure Flow.next) := by intros; rfl) : ExecOk W n env (.AugAssign (.Subscript o i p') op value pos) ρ H Q := by
  intro A G μ s hA hs
  refine wpAny_AugAssign_SubscriptAny (wpVp (h A G μ s hA hs) ?_) hst
  rintro co s1 ov G1 μ1 H1 g1 m1 hs1 r1 q1
  refine wpVp (q1 A G1 μ1 s1 hA hs1) ?_
  rintro ci s2 iv G2 μ2 H2 g2 m2 hs2 r2 ⟨a, k, rfl, rfl, q2⟩
  obtain ⟨T, id, _, _, t3⟩ := q2 A G2 μ2 s2 co ci hA hs2 (r1.up g2 m2) r2
  refine wpVp t3 ?_
  rintro cold s3 old G3 μ3 H3 g3 m3 hs3 r3 q3
  refine wpVp (q3 A G3 μ3 s3 hA hs3) ?_
  rintro cv s4 v G4 μ4 H4 g4 m4 hs4 r4 q4
  refine wpVp (q4 A G4 μ4 s4 cold cv hA hs4 (r3.up g4 m4) r4) ?_
  rintro cn s5 new G5 μ5 H5 g5 m5 hs5 r5 ⟨xs, hi, hk, hx, q⟩
  have g25 := g3.trans (g4.trans g5)
  have m25 := m3.trans (m4.trans m5)
  exact set_ref hs5 hi hk hx (r1.up (g2.trans g25) (m2.trans m25)) (r2.up g25 m25) r5 fun s' hs' => ⟨.next, ρ, G5, μ5, _, g1.trans (g2.trans g25), m1.trans (m2.trans m25), hs', flNext, q⟩

theorem op_iadd_list {i j : Nat} {xs ys : List V} (hi : H[i]? = some (.list xs)) (hj : H[j]? = some (.list ys)) (hl : xs.length + ys.length ≤ 2 ^ 20) (h : Q (.ref i) (H.set i (.list (xs ++ ys)))) : Op2Ok W n env (inplaceOp .Add) (.ref i) (.ref j) ρ H Q := by
  intro A G μ s ca cb hA hs h1 h2
  obtain ⟨l, cs, m, hl1, rfl, hd, ho1, hv1⟩ := ref_list hs.hp hi h1
  obtain ⟨l', cs', m', hl2, rfl, _, ho2, hv2⟩ := ref_list hs.hp hj h2
  have e1 := hv1.len
  have e2 := hv2.len
  have t1 : s.TypeIs (.ref l.a) "list" := ⟨_, ho1, rfl⟩
  have t2 : s.TypeIs (.ref l'.a) "list" := ⟨_, ho2, rfl⟩
  unfold inplaceOp
  refine wpAny_holding ?_
  have hfi : fillsInplaceSlot (.type "list") "add" (Operator.Add == .Add) = pure false := by
    unfold fillsInplaceSlot
    show (typeLookup (.type "list") (dunderI "add") >>= fun fi => pure (fi.isSome && !isSeqSlot fi)) = pure false
    rw [show typeLookup (.type "list") (dunderI "add") = pure (some (.builtin "list.__iadd__")) from F.slot_list_iadd.lookup]
    rfl
  have hsi : seqSlot? (.type "list") (dunderI "add") = pure (some (.builtin "list.__iadd__")) := by
    unfold seqSlot?
    rw [show typeLookup (.type "list") (dunderI "add") = pure (some (.builtin "list.__iadd__")) from F.slot_list_iadd.lookup]
    rfl
  refine wpAny_bind (wpAny_typeOf t1 (wpAny_bind (wpAny_of_eq hfi ?_)))
  show wpAny _ A (if false = true then _ else _) _ NoE s
  rw [if_neg Bool.false_ne_true]
  refine wpAny_bind (binaryOp1_none (nm := "add") t1 t2 noFill_list_add ?_)
  refine wpAny_bind (wpAny_of_eq hsi ?_)
  refine wpAny_bind (wpAny_rule ?_)
  refine call_meets F.slot_list_iadd t1 F.entry_list_iadd (F.args_list_iadd_2 _ _) (AutoSeq1.list___iadd___list_list_0 l.a cs.toArray m l'.a cs'.toArray m' ?_ ?_ ?_) ⟨ho1, ho2, ?_⟩
  · simp only [List.size_toArray, e1, e2]
    unfold Builtin.List.listTooLong
    simp only [Bool.and_eq_true, not_and, decide_eq_true_eq]
    intro _
    rw [sizeLine_eq]
    omega
  · simp only [List.size_toArray, e1]; rw [sizeLine_eq]; omega
  · simp only [List.size_toArray, e1, e2]; rw [sizeLine_eq]; omega
  · refine ⟨.ref i, G, μ, _, GLe.refl G, MLe.refl μ, hs.upd_list (ys := xs ++ ys) (f := fun x => x ++ cs'.toArray) hi hl1 hd ho1 ?_, ?_, h⟩
    · simpa using hv1.append hv2
    · exact h1

theorem vrs_intsare : ∀ {ls : List Int} {cs : List Value}, VRs G μ (ls.map V.int) cs → IntsAre cs ls
  | [], _, h => by simp only [List.map_nil, VRs] at h; subst h; exact .nil
  | a :: ls, _, h => by
    simp only [List.map_cons, VRs, VR] at h
    obtain ⟨c, r, rfl, ⟨t, rfl⟩, h⟩ := h
    exact .cons _ _ (vrs_intsare h)
theorem op_ne_ints {i j : Nat} {xs ys : List Int} (hi : H[i]? = some (.list (xs.map V.int))) (hj : H[j]? = some (.list (ys.map V.int))) (h : Q (.bool (!decide (xs = ys))) H) : Op2Ok W n env (compareOp .NotEq) (.ref i) (.ref j) ρ H Q := by
  intro A G μ s ca cb hA hs h1 h2
  obtain ⟨l, cs, m, hl1, rfl, hd, ho1, hv1⟩ := ref_list hs.hp hi h1
  obtain ⟨l', cs', m', hl2, rfl, _, ho2, hv2⟩ := ref_list hs.hp hj h2
  exact ke_ne_ints ho1.isList ho2.isList (vrs_intsare hv1) (vrs_intsare hv2) (by have := hA.units; omega) (postV hs vr_bool h)
theorem op_in_str {x y : List Nat} (h : Q (.bool (!(Builtin.Str.occurrences (sx y) (sx x) 0 (sx y).length 1).isEmpty)) H) : Op2Ok W n env (compareOp .In) (.str x) (.str y) ρ H Q := by
  intro A G μ s ca cb hA hs h1 h2
  simp only [VR] at h1 h2; obtain ⟨t, rfl⟩ := h1; obtain ⟨u, rfl⟩ := h2
  exact P.in_str (postV hs vr_bool h)


/- texts joined -/
noncomputable def joinL (sep : List Nat) : List (List Nat) → List Nat
  | [] => []
  | x :: r => x ++ r.flatMap (sep ++ ·)
theorem join_app (sep : List Nat) : ∀ (r : List (List Nat)) (x : List Nat), Str.join (sx sep) (sx x :: r.map sx) = sx (x ++ r.flatMap (sep ++ ·))
  | [], x => by simp [Str.join]
  | y :: r, x => by
    rw [List.map_cons, Str.join, join_app sep r y, sx_app, sx_app, List.flatMap_cons]
    simp [List.append_assoc]
    simp
theorem join_sx (sep : List Nat) (ls : List (List Nat)) : Txt.join (sx sep) (ls.map sx) = sx (joinL sep ls) := by
  show Builtin.Str.glued _ _ = _
  rw [StrLaws.glued_eq_join]
  cases ls with
  | nil => rfl
  | cons x r => exact join_app sep r x
end
end
section
open PySem PySem.W PyProof.Rows
section
variable {W : W0} {n : Nat} {env : Env} {ρ : Rho} {G : Gh} {μ : List Loc} {H : List O} {s : Shared} {A : Around} {Q : V → List O → Prop}

theorem call_join {sep : List Nat} {v : V} {ls : List (List Nat)} (hv : v = .lst (ls.map V.str) ∨ ∃ i, v = .ref i ∧ H[i]? = some (.list (ls.map V.str))) (hsep : sep.length ≤ 64) (hl : (ls.map List.length).sum + ls.length * 64 ≤ 16777216) (h : Q (.str (joinL sep ls)) H) :
    OpsOk W n env (fun cs => PySem.call (.builtin "str.join") cs) [.str sep, v] ρ H Q := by
  intro A G μ s cs hA hs hvs
  obtain ⟨c, d, rfl, r1, r2⟩ := vrs2 hvs
  simp only [VR] at r1; obtain ⟨t, rfl⟩ := r1
  have key : ∃ a cs m, d = .ref a ∧ IsL s.heap a cs.toArray m ∧ VRs G μ (ls.map V.str) cs := by
    rcases hv with rfl | ⟨i, rfl, hi⟩
    · exact lst_list hs.hp r2
    · obtain ⟨l, cs, m, hl, rfl, hd, ho, hr⟩ := ref_list hs.hp hi r2
      exact ⟨_, cs, m, rfl, ho, hr⟩
  obtain ⟨a, cs, m, rfl, ho, hr⟩ := key
  refine join_listC ho.isList (ys := ls.map sx) (by simpa using vrs_strs hr) (by rw [sx_len]; exact hsep) ?_ (fun t' k => ?_)
  · rw [List.map_map, List.length_map]
    have : ((fun x => x.length) ∘ sx) = List.length := by funext x; exact sx_len x
    rw [this]; exact hl
  · rw [join_sx]; exact postV (hs.toks _) vr_str h

theorem call_lstrip {x : List Nat} {c : Nat} (hx : x.length ≤ sizeLine) (h : Q (.str (x.dropWhile (· == c))) H) :
    OpsOk W n env (fun cs => PySem.call (.builtin "str.lstrip") cs) [.str x, .str [c]] ρ H Q := by
  intro A G μ s cs hA hs hvs
  obtain ⟨ca, d, rfl, r1, r2⟩ := vrs2 hvs
  simp only [VR] at r1 r2; obtain ⟨t, rfl⟩ := r1; obtain ⟨u, rfl⟩ := r2
  refine SC.lstripChars (fun t' k => ?_) (by rw [sx_len]; exact hx)
  have e : Txt.lstripChars (sx x) (sx [c]) = sx (x.dropWhile (· == c)) := by
    unfold Txt.lstripChars
    rw [PySem.W.stripBy_eq]
    unfold PySem.W.stripped Builtin.Str.strSub
    simp only [if_true, Bool.false_eq_true, if_false, sx_len]
    apply congrArg Str.mk
    apply Array.toList_inj.mp
    simp only [Array.toList_extract, List.extract_eq_take_drop]
    have hc : (fun y : Nat => (#[c] : Array Nat).contains y) = (· == c) := by
      funext y
      simp [Array.contains]
    show List.take _ (List.drop (List.takeWhile (sx [c]).cps.contains x).length x) = _
    rw [show ((sx [c]).cps.contains) = (· == c) from hc]
    have hd : List.drop (List.takeWhile (· == c) x).length x = x.dropWhile (· == c) := by
      conv => lhs; arg 2; rw [← List.takeWhile_append_dropWhile (p := (· == c)) (l := x)]
      exact List.drop_left
    rw [hd]
    apply List.take_of_length_le
    rw [← hd, List.length_drop]
    exact Nat.le_refl _
  rw [e]; exact postV (hs.toks _) vr_str h

theorem sum_small : ∀ (ls : List Int) (M : Nat), (∀ y ∈ ls, 0 ≤ y ∧ y < M) → 0 ≤ ls.sum ∧ ls.sum ≤ ls.length * M
  | [], M, _ => by simp
  | y :: ls, M, h => by
    have h1 := h y List.mem_cons_self
    have h2 := sum_small ls M fun z hz => h z (List.mem_cons_of_mem _ hz)
    simp only [List.sum_cons, List.length_cons]
    have : (((ls.length + 1 : Nat) : Int)) * M = ls.length * M + M := by push_cast; rw [Int.add_mul]; simp
    omega
theorem call_sum {i : Nat} {ls : List Int} (hi : H[i]? = some (.list (ls.map V.int))) (hs : ∀ y ∈ ls, 0 ≤ y ∧ y < 1000) (hl : ls.length ≤ 1000) (h : Q (.int ls.sum) H) : OpsOk W n env (fun cs => PySem.call (.builtin "sum") cs) [.ref i] ρ H Q := by
  intro A G μ s cs hA hst hvs
  obtain ⟨c, rfl, r1⟩ := vrs1 hvs
  obtain ⟨l, cs, m, hl1, rfl, hd, ho, hr⟩ := ref_list hst.hp hi r1
  obtain ⟨zs, hz, rfl⟩ := vrs_ints hr
  have eI : (List.map (fun z : Int × Tok => Value.int z.1 z.2) zs).toArray = intItems zs.toArray := by
    unfold intItems
    simp
  rw [eI] at ho
  have hsum : ∀ j, preSum (numAt zs.toArray) j = (ls.take j).sum := fun j => by rw [preSum_eq]; simp [hz]
  have hlen : zs.length = ls.length := by rw [← hz, List.length_map]
  refine sum_intList hA.handled ho.isList (fun j hj => ?_) (fun h' tk t' hk => ?_)
  · have hjl : j < ls.length := by simpa [hlen] using hj
    constructor
    · have e : numAt zs.toArray j = ls[j]'hjl := by
        unfold numAt
        subst hz
        simp at hjl
        simp [hjl]
      rw [e]
      have := hs _ (List.getElem_mem hjl)
      exact ⟨by walk_at "om", by walk_at "om"⟩
    · rw [hsum]
      have h1 := sum_small (ls.take (j + 1)) 1000 fun y hy => hs y (List.mem_of_mem_take hy)
      have h2 : (ls.take (j + 1)).length ≤ 1000 := by rw [List.length_take]; omega
      refine ⟨by walk_at "om", ?_⟩
      have : ((ls.take (j + 1)).length : Int) * ((1000 : Nat) : Int) ≤ 1000 * 1000 := by
        have : ((ls.take (j + 1)).length : Int) ≤ 1000 := by walk_at "om"
        omega
      omega
  · rw [hsum]
    have : ls.take zs.toArray.size = ls := by rw [List.size_toArray, hlen]; exact List.take_length
    rw [this]
    exact postV (hst.grow hk _) vr_int h

/-- one character in a text -/
theorem op_in_char {c : Nat} {y : List Nat} (h : Q (.bool (y.contains c)) H) : Op2Ok W n env (compareOp .In) (.str [c]) (.str y) ρ H Q := by
  refine op_in_str ?_
  have : (!(Builtin.Str.occurrences (sx y) (sx [c]) 0 (sx y).length 1).isEmpty) = y.contains c := by
    rw [show sx [c] = { cps := #[c] } from rfl, StrLaws.found_one]
    rw [show (sx y).cps.toList = y from rfl]
    by_cases hc : c ∈ y <;> simp [hc]
  rw [this]; exact h

/- slices -/
theorem range_pick {α : Type} (xs : List α) (a b : Nat) : (List.filterMap (fun i => xs.toArray[i]?) (sliceRange (min a xs.length : Nat) (min b xs.length : Nat) 1)) = (xs.drop a).take (b - a) := by
  rw [sliceRange_one, pick_run]
  show List.take _ (List.drop _ xs) = _
  by_cases ha : a ≤ xs.length
  · rw [Nat.min_eq_left ha]
    by_cases hb : b ≤ xs.length
    · rw [Nat.min_eq_left hb]
    · rw [Nat.min_eq_right (by walk_at "om")]
      rw [List.take_of_length_le (by simp), List.take_of_length_le (by simp; omega)]
  · rw [Nat.min_eq_right (by walk_at "om" : xs.length ≤ a), List.drop_of_length_le (l := xs) (Nat.le_refl _), List.drop_of_length_le (l := xs) (by walk_at "om")]
    simp
theorem clip_min (a : Nat) (len : Nat) : (max 0 (min (if (a : Int) < 0 then (a : Int) + len else a) (len : Int))) = ((min a len : Nat) : Int) := by
  rw [if_neg (by walk_at "om")]; omega
theorem slice_ss (x : List Nat) (a b : Nat) : Txt.slice (sx x) (some (a : Int)) (some (b : Int)) = sx ((x.drop a).take (b - a)) := by
  unfold Txt.slice
  have e : Builtin.Str.strSliceIndices (some (a : Int)) (some (b : Int)) 1 (sx x).length = sliceRange (min a x.length : Nat) (min b x.length : Nat) 1 := by
    unfold Builtin.Str.strSliceIndices
    have h1 : (1:Int) > 0 := by decide
    simp only [sx_len, if_pos h1]
    rw [clip_min, clip_min]
  rw [e]
  have e2 : ({ cps := (List.filterMap (fun i => (sx x).cps[i]?) (sliceRange (min a x.length : Nat) (min b x.length : Nat) 1)).toArray } : Str) = sx ((x.drop a).take (b - a)) := by
    rw [← range_pick]
  rw [e2]
  split
  · rename_i hl
    rw [Bool.and_eq_true, beq_iff_eq, beq_iff_eq, sx_len] at hl
    have h1 : (sliceRange (min a x.length : Nat) (min b x.length : Nat) 1).length = min b x.length - min a x.length := by rw [sliceRange_one]; simp
    rw [h1] at hl
    congr 1
    have ha : min a x.length = 0 ∨ x.length = 0 := by walk_at "om"
    rcases Nat.eq_zero_or_pos x.length with h0 | h0
    · rw [List.length_eq_zero_iff.mp h0]; simp
    · have h2 : a = 0 := by walk_at "om"
      subst h2
      rw [List.drop_zero, List.take_of_length_le (by walk_at "om")]
  · rfl
theorem slice_sn (x : List Nat) (a : Nat) : Txt.slice (sx x) (some (a : Int)) none = sx (x.drop a) := by
  have := slice_ss x a (x.length + a)
  have e : (List.take (x.length + a - a) (List.drop a x)) = x.drop a := List.take_of_length_le (by simp)
  rw [e] at this
  rw [← this]
  unfold Txt.slice Builtin.Str.strSliceIndices
  have h1 : (1:Int) > 0 := by decide
  simp only [sx_len, if_pos h1]
  have : max 0 (min (if ((x.length + a : Nat) : Int) < 0 then ((x.length + a : Nat) : Int) + x.length else ((x.length + a : Nat) : Int)) (x.length : Int)) = x.length := by
    rw [if_neg (by walk_at "om")]; omega
  rw [this]
theorem drop_take_len (x : List Nat) (a k : Nat) : ((x.drop a).take k).length ≤ x.length := by simp; omega

theorem cond_eq {z z' : Str} {P : Str → Prop} (e : z = z') (h : P z') : P z := e ▸ h
theorem ok_slice {value lo hi : Expr} {p pos : Pos} (h : EvalOk W n env value ρ H fun v H1 => EvalOk W n env lo ρ H1 fun l H2 => EvalOk W n env hi ρ H2 fun u H3 => ∃ x, ∃ a b : Nat, v = .str x ∧ l = .int a ∧ u = .int b ∧ x.length ≤ sizeLine ∧ Q (.str ((x.drop a).take (b - a))) H3)
    (ht : ∀ o r, letTemporaryGo value o r = pure () := by intro _ _; rfl) : EvalOk W n env (.Subscript value (.Slice (some lo) (some hi) none p) pos) ρ H Q := by
  intro A G μ s hA hs
  refine wpAny_Subscript_str_slice (wpVp (h A G μ s hA hs) ?_) ht
  rintro c s1 v G1 μ1 H1 g1 m1 hs1 r1 q1
  refine wpAny_evalPart_some (wpVp (q1 A G1 μ1 s1 hA hs1) ?_)
  rintro cl s2 vl G2 μ2 H2 g2 m2 hs2 r2 q2
  refine wpAny_evalPart_some (wpVp (q2 A G2 μ2 s2 hA hs2) ?_)
  rintro cu s3 vu G3 μ3 H3 g3 m3 hs3 r3 ⟨x, a, b, rfl, rfl, rfl, hx, q⟩
  simp only [VR] at r1 r2 r3
  obtain ⟨t, rfl⟩ := r1; obtain ⟨tl, rfl⟩ := r2; obtain ⟨tu, rfl⟩ := r3
  refine ⟨sx x, t, some (_, tl), some (_, tu), rfl, rfl, rfl, ?_⟩
  refine post_val_or_str (y := sx x) ?_
  have key := slice_ss x a b
  unfold Txt.slice at key
  refine cond_eq (P := fun z : Str => z.length ≤ sizeLine ∧ ∀ (t' : Tok) (k : Nat), PostV W env ρ G μ Q (Value.str z t') { s3 with heap := s3.heap.push { cls := .type "slice", data := .fields #[.int a tl, .int b tu, .none] }, toks := k }) key ?_
  refine ⟨by rw [sx_len]; exact Nat.le_trans (drop_take_len _ _ _) hx, fun t' k => ?_⟩
  refine ⟨.str ((x.drop a).take (b - a)), G3, μ3, H3, (g1.trans g2).trans g3, (m1.trans m2).trans m3, hs3.grow (fun b o e => Heap.get?_push_of_some _ e) k, vr_str, q⟩
theorem ok_slice_from {value lo : Expr} {p pos : Pos} (h : EvalOk W n env value ρ H fun v H1 => EvalOk W n env lo ρ H1 fun l H2 => ∃ x, ∃ a : Nat, v = .str x ∧ l = .int a ∧ x.length ≤ sizeLine ∧ Q (.str (x.drop a)) H2)
    (ht : ∀ o r, letTemporaryGo value o r = pure () := by intro _ _; rfl) : EvalOk W n env (.Subscript value (.Slice (some lo) none none p) pos) ρ H Q := by
  intro A G μ s hA hs
  refine wpAny_Subscript_str_slice (wpVp (h A G μ s hA hs) ?_) ht
  rintro c s1 v G1 μ1 H1 g1 m1 hs1 r1 q1
  refine wpAny_evalPart_some (wpVp (q1 A G1 μ1 s1 hA hs1) ?_)
  rintro cl s2 vl G2 μ2 H2 g2 m2 hs2 r2 ⟨x, a, rfl, rfl, hx, q⟩
  simp only [VR] at r1 r2
  obtain ⟨t, rfl⟩ := r1; obtain ⟨tl, rfl⟩ := r2
  refine wpAny_evalPart_none ⟨sx x, t, some (_, tl), none, rfl, rfl, rfl, ?_⟩
  refine post_val_or_str (y := sx x) ?_
  have key := slice_sn x a
  unfold Txt.slice at key
  refine cond_eq (P := fun z : Str => z.length ≤ sizeLine ∧ ∀ (t' : Tok) (k : Nat), PostV W env ρ G μ Q (Value.str z t') { s2 with heap := s2.heap.push { cls := .type "slice", data := .fields #[.int a tl, .none, .none] }, toks := k }) key ?_
  refine ⟨by rw [sx_len]; simp only [List.length_drop]; omega, fun t' k => ?_⟩
  refine ⟨.str (x.drop a), G2, μ2, H2, g1.trans g2, m1.trans m2, hs2.grow (fun b o e => Heap.get?_push_of_some _ e) k, vr_str, q⟩
/-- a list's front -/
theorem ok_slice_upto {value hi : Expr} {p pos : Pos} (h : EvalOk W n env value ρ H fun v H1 => EvalOk W n env hi ρ H1 fun u H2 => ∃ xs, ∃ b : Nat, v = .lst xs ∧ u = .int b ∧ xs.length ≤ sizeLine ∧ Q (.lst (xs.take b)) H2)
    (ht : ∀ o r, letTemporaryGo value o r = pure () := by intro _ _; rfl) : EvalOk W n env (.Subscript value (.Slice none (some hi) none p) pos) ρ H Q := by
  intro A G μ s hA hs
  refine wpAny_Subscript_list_slice (wpVp (h A G μ s hA hs) ?_) ht
  rintro c s1 v G1 μ1 H1 g1 m1 hs1 r1 q1
  refine wpAny_evalPart_none (wpAny_evalPart_some (wpVp (q1 A G1 μ1 s1 hA hs1) ?_))
  rintro cu s2 vu G2 μ2 H2 g2 m2 hs2 r2 ⟨xs, b, rfl, rfl, hx, q⟩
  simp only [VR] at r2
  obtain ⟨tu, rfl⟩ := r2
  obtain ⟨a, cs, m, rfl, ho, hr⟩ := lst_list hs2.hp (r1.up g2 m2)
  refine ⟨a, cs.toArray, none, some (b : Int), rfl, ho.isList, by simpa [hr.len] using hx, .none, .int _ _, ?_⟩
  have hs3 := hs2.grow (h' := s2.heap.push { cls := .type "slice", data := .fields #[.none, .int b tu, .none] }) (fun b o e => Heap.get?_push_of_some _ e) s2.toks
  obtain ⟨g4, hs4⟩ := hs3.frozen (o := seqObj "list" (slicePick cs.toArray none (some (b : Int)) none).toList 0) rfl s2.toks
  refine ⟨.lst (xs.take b), _, μ2, H2, (g1.trans g2).trans g4, m1.trans m2, ?_, ?_, q⟩
  · exact hs4
  · simp only [VR]
    refine ⟨_, _, 0, ?_, put_get, ?_⟩
    · simp [Heap.push]
    · refine VRs.up ?_ g4 (MLe.refl _)
      have e : (slicePick cs.toArray none (some (b : Int)) none).toList = cs.take b := by
        rw [kms_pick_eq]
        unfold kms_pick kms_hi kms_lo
        have h0 : ¬ ((b : Int) < 0) := by walk_at "om"
        simp only [Nat.sub_zero, List.drop_zero, if_neg h0, Int.toNat_natCast]
        by_cases hb : b ≤ cs.length
        · rw [Nat.min_eq_left hb]
        · rw [Nat.min_eq_right (by walk_at "om"), List.take_length, List.take_of_length_le (by walk_at "om")]
      rw [e]; exact hr.take b

/- the dict of heads -/
theorem sub_dic {es : List (String × List Nat)} {x : String} {y : List Nat} (hx : es.lookup x = some y) (h : Q (.str y) H) : SubOk W n env (.dic W.w es) (.str (cd x)) ρ H Q := by
  intro A G μ s ca cb hA hs h1 h2
  simp only [VR] at h1 h2
  obtain ⟨t, rfl⟩ := h2
  obtain ⟨a, o, kvs, rfl, hG, hD, hl⟩ := h1
  obtain ⟨u, hv⟩ := hl x y hx
  have ho := hs.hp.keep _ _ _ hG
  refine ⟨"dict", _, ?_, F.slot_dict_getitem.lookup, ?_⟩
  · obtain ⟨o', es', ep, e1, e2, _⟩ := hD _ ho
    rw [ho] at e1; cases e1
    exact ⟨_, ho, e2.1⟩
  · refine wpAny_getItem_of (knd := PySem.strKind thePr W.w) (k := Str.ofString x) (by rw [← ofString_cd]; simp [PySem.strKind, Value.isStrOf]) (hD _ ho).mapOf hv ?_
    exact postV (hs.toks _) vr_str h
end
end
section
open PySem PySem.W PyProof.Rows
section
variable {W : W0} {n : Nat} {env : Env} {ρ : Rho} {G : Gh} {μ : List Loc} {H : List O} {s : Shared} {A : Around} {Q : V → List O → Prop}

theorem dictOf_at {h h' : Heap} {w : World} {a : Addr} {o : Obj} {kvs : List (Str × Value)} (ho : h'.get? a = some o) (e : h.get? a = some o) (hd : Heap.DictOf (PySem.strKind PW w) h' a kvs) : Heap.DictOf (PySem.strKind PW w) h a kvs := by
  obtain ⟨o', es', ep', e1, r⟩ := hd
  rw [ho] at e1; cases e1
  exact ⟨o, es', ep', e, r⟩
theorem val3 {k1 k2 k3 v1 v2 v3 : String} {t1 t2 t3 u1 u2 u3 : Tok} (x : String) (y : List Nat) (e : [(k1, cd v1), (k2, cd v2), (k3, cd v3)].lookup x = some y) :
    ∃ t, valueAt (strPairs [(.str (Str.ofString k1) t1, .str (Str.ofString v1) u1), (.str (Str.ofString k2) t2, .str (Str.ofString v2) u2), (.str (Str.ofString k3) t3, .str (Str.ofString v3) u3)]) (Str.ofString x) = some (.str (sx y) t) := by
  simp only [List.lookup_cons, List.lookup_nil] at e
  have key : ∀ k, (decide (Str.ofString k = Str.ofString x)) = (x == k) := fun k => by
    by_cases q : x = k
    · subst q; simp
    · rw [beq_eq_false_iff_ne.mpr q]; simp; exact fun z => q (ofString_inj z).symm
  unfold valueAt
  simp only [strPairs, List.find?_cons, List.find?_nil, key]
  cases e1 : (x == k1) with
  | true => rw [e1] at e; cases e; exact ⟨_, by rw [← ofString_cd]; rfl⟩
  | false =>
    rw [e1] at e; dsimp only at e ⊢
    cases e2 : (x == k2) with
    | true => rw [e2] at e; cases e; exact ⟨_, by rw [← ofString_cd]; rfl⟩
    | false =>
      rw [e2] at e; dsimp only at e ⊢
      cases e3 : (x == k3) with
      | true => rw [e3] at e; cases e; exact ⟨_, by rw [← ofString_cd]; rfl⟩
      | false => rw [e3] at e; cases e
theorem ok_dict3 {k1 k2 k3 v1 v2 v3 : String} {a1 a2 a3 b1 b2 b3} {p1 p2 p3 q1 q2 q3 pos : Pos} (hn : k1 ≠ k2 ∧ k1 ≠ k3 ∧ k2 ≠ k3) (h : Q (.dic W.w [(k1, cd v1), (k2, cd v2), (k3, cd v3)]) H) :
    EvalOk W n env (.Dict [some (.Constant (.str (Str.ofString k1)) a1 p1), some (.Constant (.str (Str.ofString k2)) a2 p2), some (.Constant (.str (Str.ofString k3)) a3 p3)]
      [.Constant (.str (Str.ofString v1)) b1 q1, .Constant (.str (Str.ofString v2)) b2 q2, .Constant (.str (Str.ofString v3)) b3 q3] pos) ρ H Q := by
  intro A G μ s hA hs
  have h12 : Str.ofString k1 ≠ Str.ofString k2 := fun e => hn.1 (ofString_inj e)
  have h13 : Str.ofString k1 ≠ Str.ofString k3 := fun e => hn.2.1 (ofString_inj e)
  have h23 : Str.ofString k2 ≠ Str.ofString k3 := fun e => hn.2.2 (ofString_inj e)
  refine wpAny_Dict_walk (knd := PySem.strKind thePr W.w) rfl rfl (by simp) (by simp) ?_
  refine pairTrees_cons_walk (wpAny_Constant_str (wpAny_Constant_str ?_))
  refine pairTrees_cons_walk (wpAny_Constant_str (wpAny_Constant_str ?_))
  refine pairTrees_cons_walk (wpAny_Constant_str (wpAny_Constant_str ?_))
  refine pairTrees_nil_walk ?_
  refine display_done_str rfl (by simp [strPairs, h12, h13, h23]) ?_ (fun h' hd hsb => ?_)
  · refine ⟨_, #[], _, Heap.get?_push_size _ rfl, ⟨rfl, rfl, rfl⟩, rfl, ?_, .nil, List.nodup_nil⟩
    intro e he; simp at he
  · obtain ⟨o, es, ep, ho, hx⟩ := id hd
    have hfr := hs.hp.size_none
    have hk : ∀ b o', s.heap.get? b = some o' → h'.get? b = some o' := fun b o' e => by
      have hb : b < s.heap.objs.size := Heap.lt_size e
      rw [hsb.2 b (Nat.ne_of_lt hb)]
      exact Heap.get?_push_of_some _ e
    have hs2 : St W env ρ G μ H { s with heap := h', toks := 0 } := hs.grow hk 0
    have P := hs2.hp.put (t := true) (a := s.heap.objs.size) ho hfr.1 hfr.2
    have g := put_le (G := G) (x := (true, o)) hfr.1
    refine ⟨.dic W.w _, _, μ, H, g, MLe.refl _, ?_, ?_, h⟩
    · refine hs.next (h' := h') g (MLe.refl μ) P ?_ ?_ hs.nF
      · obtain ⟨m, ⟨o', es, ep, ho', r⟩, hr⟩ := hs.ns
        rw [ho']; exact hk _ _ ho'
      · unfold Gh.put; rw [if_neg (Nat.ne_of_lt hs.loc_lt)]; exact hs.nG
    · simp only [VR]
      refine ⟨_, o, _, rfl, put_get, (fun hh e => dictOf_at ho e hd), val3⟩
end
end
section
open PySem PySem.W PyProof.Rows
set_option genSizeOf false in
structure FnAt (x : String) (a : Addr) : Prop where
  ns : ∀ P, nsIn (K0 P) mainGlobals (Str.ofString x) = some (some (.ref a))
  keep : ∀ P, keepIn (K0 P) (.ref a) = true
set_option genSizeOf false in
structure MeAt (C : Addr) (x : String) (a : Addr) : Prop where
  find : ∀ P, findIn (K0 P) (.ref C) (Str.ofString x) = some (some (.ref a))
  fn : ∀ P, isFn (K0 P) (.ref a) = true
  keep : ∀ P, keepIn (K0 P) (.ref a) = true
theorem lenN0 {P : List Value → Prop} (k : P []) (cs : List Value) (h : cs.length = 0) : P cs := List.length_eq_zero_iff.mp h ▸ k
theorem lenS {m : Nat} {P : List Value → Prop} (k : ∀ a, ∀ cs : List Value, cs.length = m → P (a :: cs)) : ∀ cs : List Value, cs.length = m + 1 → P cs
  | a :: cs, h => k a cs (Nat.succ.inj h)
theorem lenN1 {P : List Value → Prop} (k : ∀ a, P [a]) : ∀ cs : List Value, cs.length = 1 → P cs := lenS fun a => lenN0 (P := fun cs => P (a :: cs)) (k a)
theorem lenN2 {P : List Value → Prop} (k : ∀ a b, P [a, b]) : ∀ cs : List Value, cs.length = 2 → P cs := lenS fun a => lenN1 (P := fun cs => P (a :: cs)) (k a)
theorem lenN3 {P : List Value → Prop} (k : ∀ a b c, P [a, b, c]) : ∀ cs : List Value, cs.length = 3 → P cs := lenS fun a => lenN2 (P := fun cs => P (a :: cs)) (k a)
theorem lenN4 {P : List Value → Prop} (k : ∀ a b c d, P [a, b, c, d]) : ∀ cs : List Value, cs.length = 4 → P cs := lenS fun a => lenN3 (P := fun cs => P (a :: cs)) (k a)

theorem D_keywords : DefAt 53 (tS 4) "keywords" [] where
  look := fun P => ⟨"moduleyard.scanner", 236, 52, by kernel_rfl, by kernel_rfl⟩
  nodup := by decide
  binds := fun m t c => lenN0 (by kernel_rfl)
  kind := by kernel_rfl
  co := by kernel_rfl
  gen := by kernel_rfl
theorem F_keywords : FnAt "keywords" 53 := ⟨fun P => by kernel_rfl, fun P => by kernel_rfl⟩
theorem D_is_letter : DefAt 60 (tS 5) "is_letter" ["char"] where
  look := fun P => ⟨"moduleyard.scanner", 236, 59, by kernel_rfl, by kernel_rfl⟩
  nodup := by decide
  binds := fun m t c => lenN1 (fun a0 => by kernel_rfl)
  kind := by kernel_rfl
  co := by kernel_rfl
  gen := by kernel_rfl
theorem F_is_letter : FnAt "is_letter" 60 := ⟨fun P => by kernel_rfl, fun P => by kernel_rfl⟩
theorem D_is_digit : DefAt 67 (tS 6) "is_digit" ["char"] where
  look := fun P => ⟨"moduleyard.scanner", 236, 66, by kernel_rfl, by kernel_rfl⟩
  nodup := by decide
  binds := fun m t c => lenN1 (fun a0 => by kernel_rfl)
  kind := by kernel_rfl
  co := by kernel_rfl
  gen := by kernel_rfl
theorem F_is_digit : FnAt "is_digit" 67 := ⟨fun P => by kernel_rfl, fun P => by kernel_rfl⟩
theorem D_is_hex_digit : DefAt 74 (tS 7) "is_hex_digit" ["char"] where
  look := fun P => ⟨"moduleyard.scanner", 236, 73, by kernel_rfl, by kernel_rfl⟩
  nodup := by decide
  binds := fun m t c => lenN1 (fun a0 => by kernel_rfl)
  kind := by kernel_rfl
  co := by kernel_rfl
  gen := by kernel_rfl
theorem F_is_hex_digit : FnAt "is_hex_digit" 74 := ⟨fun P => by kernel_rfl, fun P => by kernel_rfl⟩
theorem D_SourceItem_init : DefAt 88 (mS 9 0) "SourceItem.__init__" ["self", "kind", "text", "place"] where
  look := fun P => ⟨"moduleyard.srcitems", 265, 87, by kernel_rfl, by kernel_rfl⟩
  nodup := by decide
  binds := fun m t c => lenN4 (fun a0 a1 a2 a3 => by kernel_rfl)
  kind := by kernel_rfl
  co := by kernel_rfl
  gen := by kernel_rfl
theorem M_SourceItem_init : MeAt 91 "__init__" 88 := ⟨fun P => by kernel_rfl, fun P => by kernel_rfl, fun P => by kernel_rfl⟩
theorem D_gap_end : DefAt 102 (tS 10) "gap_end" ["source", "at"] where
  look := fun P => ⟨"moduleyard.srcitems", 265, 101, by kernel_rfl, by kernel_rfl⟩
  nodup := by decide
  binds := fun m t c => lenN2 (fun a0 a1 => by kernel_rfl)
  kind := by kernel_rfl
  co := by kernel_rfl
  gen := by kernel_rfl
theorem F_gap_end : FnAt "gap_end" 102 := ⟨fun P => by kernel_rfl, fun P => by kernel_rfl⟩
theorem D_word_end : DefAt 123 (tS 13) "word_end" ["source", "at"] where
  look := fun P => ⟨"moduleyard.srcitems", 265, 122, by kernel_rfl, by kernel_rfl⟩
  nodup := by decide
  binds := fun m t c => lenN2 (fun a0 a1 => by kernel_rfl)
  kind := by kernel_rfl
  co := by kernel_rfl
  gen := by kernel_rfl
theorem F_word_end : FnAt "word_end" 123 := ⟨fun P => by kernel_rfl, fun P => by kernel_rfl⟩
theorem D_digits_end : DefAt 130 (tS 14) "digits_end" ["source", "at"] where
  look := fun P => ⟨"moduleyard.srcitems", 265, 129, by kernel_rfl, by kernel_rfl⟩
  nodup := by decide
  binds := fun m t c => lenN2 (fun a0 a1 => by kernel_rfl)
  kind := by kernel_rfl
  co := by kernel_rfl
  gen := by kernel_rfl
theorem F_digits_end : FnAt "digits_end" 130 := ⟨fun P => by kernel_rfl, fun P => by kernel_rfl⟩
theorem D_number_end : DefAt 137 (tS 15) "number_end" ["source", "at"] where
  look := fun P => ⟨"moduleyard.srcitems", 265, 136, by kernel_rfl, by kernel_rfl⟩
  nodup := by decide
  binds := fun m t c => lenN2 (fun a0 a1 => by kernel_rfl)
  kind := by kernel_rfl
  co := by kernel_rfl
  gen := by kernel_rfl
theorem F_number_end : FnAt "number_end" 137 := ⟨fun P => by kernel_rfl, fun P => by kernel_rfl⟩
theorem D_sign_end : DefAt 144 (tS 16) "sign_end" ["source", "at"] where
  look := fun P => ⟨"moduleyard.srcitems", 265, 143, by kernel_rfl, by kernel_rfl⟩
  nodup := by decide
  binds := fun m t c => lenN2 (fun a0 a1 => by kernel_rfl)
  kind := by kernel_rfl
  co := by kernel_rfl
  gen := by kernel_rfl
theorem F_sign_end : FnAt "sign_end" 144 := ⟨fun P => by kernel_rfl, fun P => by kernel_rfl⟩
theorem D_item_at : DefAt 158 (tS 18) "item_at" ["source", "at", "words"] where
  look := fun P => ⟨"moduleyard.srcitems", 265, 157, by kernel_rfl, by kernel_rfl⟩
  nodup := by decide
  binds := fun m t c => lenN3 (fun a0 a1 a2 => by kernel_rfl)
  kind := by kernel_rfl
  co := by kernel_rfl
  gen := by kernel_rfl
theorem F_item_at : FnAt "item_at" 158 := ⟨fun P => by kernel_rfl, fun P => by kernel_rfl⟩
theorem D_source_items : DefAt 165 (tS 19) "source_items" ["source"] where
  look := fun P => ⟨"moduleyard.srcitems", 265, 164, by kernel_rfl, by kernel_rfl⟩
  nodup := by decide
  binds := fun m t c => lenN1 (fun a0 => by kernel_rfl)
  kind := by kernel_rfl
  co := by kernel_rfl
  gen := by kernel_rfl
theorem F_source_items : FnAt "source_items" 165 := ⟨fun P => by kernel_rfl, fun P => by kernel_rfl⟩
theorem D_Block_init : DefAt 179 (mS 22 0) "Block.__init__" ["self", "word", "base"] where
  look := fun P => ⟨"moduleyard.formatter", 393, 178, by kernel_rfl, by kernel_rfl⟩
  nodup := by decide
  binds := fun m t c => lenN3 (fun a0 a1 a2 => by kernel_rfl)
  kind := by kernel_rfl
  co := by kernel_rfl
  gen := by kernel_rfl
theorem M_Block_init : MeAt 182 "__init__" 179 := ⟨fun P => by kernel_rfl, fun P => by kernel_rfl, fun P => by kernel_rfl⟩
theorem D_is_unary : DefAt 193 (tS 23) "is_unary" ["before", "sign"] where
  look := fun P => ⟨"moduleyard.formatter", 393, 192, by kernel_rfl, by kernel_rfl⟩
  nodup := by decide
  binds := fun m t c => lenN2 (fun a0 a1 => by kernel_rfl)
  kind := by kernel_rfl
  co := by kernel_rfl
  gen := by kernel_rfl
theorem F_is_unary : FnAt "is_unary" 193 := ⟨fun P => by kernel_rfl, fun P => by kernel_rfl⟩
theorem D_would_join : DefAt 200 (tS 24) "would_join" ["before", "item"] where
  look := fun P => ⟨"moduleyard.formatter", 393, 199, by kernel_rfl, by kernel_rfl⟩
  nodup := by decide
  binds := fun m t c => lenN2 (fun a0 a1 => by kernel_rfl)
  kind := by kernel_rfl
  co := by kernel_rfl
  gen := by kernel_rfl
theorem F_would_join : FnAt "would_join" 200 := ⟨fun P => by kernel_rfl, fun P => by kernel_rfl⟩
theorem D_is_close : DefAt 207 (tS 25) "is_close" ["before", "item"] where
  look := fun P => ⟨"moduleyard.formatter", 393, 206, by kernel_rfl, by kernel_rfl⟩
  nodup := by decide
  binds := fun m t c => lenN2 (fun a0 a1 => by kernel_rfl)
  kind := by kernel_rfl
  co := by kernel_rfl
  gen := by kernel_rfl
theorem F_is_close : FnAt "is_close" 207 := ⟨fun P => by kernel_rfl, fun P => by kernel_rfl⟩
theorem D_Formatter_init : DefAt 221 (mS 26 0) "Formatter.__init__" ["self"] where
  look := fun P => ⟨"moduleyard.formatter", 393, 220, by kernel_rfl, by kernel_rfl⟩
  nodup := by decide
  binds := fun m t c => lenN1 (fun a0 => by kernel_rfl)
  kind := by kernel_rfl
  co := by kernel_rfl
  gen := by kernel_rfl
theorem M_Formatter_init : MeAt 357 "__init__" 221 := ⟨fun P => by kernel_rfl, fun P => by kernel_rfl, fun P => by kernel_rfl⟩
theorem D_Formatter_top : DefAt 228 (mS 26 1) "Formatter.top" ["self"] where
  look := fun P => ⟨"moduleyard.formatter", 393, 227, by kernel_rfl, by kernel_rfl⟩
  nodup := by decide
  binds := fun m t c => lenN1 (fun a0 => by kernel_rfl)
  kind := by kernel_rfl
  co := by kernel_rfl
  gen := by kernel_rfl
theorem M_Formatter_top : MeAt 357 "top" 228 := ⟨fun P => by kernel_rfl, fun P => by kernel_rfl, fun P => by kernel_rfl⟩
theorem D_Formatter_usual_depth : DefAt 235 (mS 26 2) "Formatter.usual_depth" ["self"] where
  look := fun P => ⟨"moduleyard.formatter", 393, 234, by kernel_rfl, by kernel_rfl⟩
  nodup := by decide
  binds := fun m t c => lenN1 (fun a0 => by kernel_rfl)
  kind := by kernel_rfl
  co := by kernel_rfl
  gen := by kernel_rfl
theorem M_Formatter_usual_depth : MeAt 357 "usual_depth" 235 := ⟨fun P => by kernel_rfl, fun P => by kernel_rfl, fun P => by kernel_rfl⟩
theorem D_Formatter_end_row : DefAt 242 (mS 26 3) "Formatter.end_row" ["self"] where
  look := fun P => ⟨"moduleyard.formatter", 393, 241, by kernel_rfl, by kernel_rfl⟩
  nodup := by decide
  binds := fun m t c => lenN1 (fun a0 => by kernel_rfl)
  kind := by kernel_rfl
  co := by kernel_rfl
  gen := by kernel_rfl
theorem M_Formatter_end_row : MeAt 357 "end_row" 242 := ⟨fun P => by kernel_rfl, fun P => by kernel_rfl, fun P => by kernel_rfl⟩
theorem D_Formatter_write : DefAt 249 (mS 26 4) "Formatter.write" ["self", "item"] where
  look := fun P => ⟨"moduleyard.formatter", 393, 248, by kernel_rfl, by kernel_rfl⟩
  nodup := by decide
  binds := fun m t c => lenN2 (fun a0 a1 => by kernel_rfl)
  kind := by kernel_rfl
  co := by kernel_rfl
  gen := by kernel_rfl
theorem M_Formatter_write : MeAt 357 "write" 249 := ⟨fun P => by kernel_rfl, fun P => by kernel_rfl, fun P => by kernel_rfl⟩
theorem D_Formatter_write_at : DefAt 256 (mS 26 5) "Formatter.write_at" ["self", "item", "depth"] where
  look := fun P => ⟨"moduleyard.formatter", 393, 255, by kernel_rfl, by kernel_rfl⟩
  nodup := by decide
  binds := fun m t c => lenN3 (fun a0 a1 a2 => by kernel_rfl)
  kind := by kernel_rfl
  co := by kernel_rfl
  gen := by kernel_rfl
theorem M_Formatter_write_at : MeAt 357 "write_at" 256 := ⟨fun P => by kernel_rfl, fun P => by kernel_rfl, fun P => by kernel_rfl⟩
theorem D_Formatter_is_tight : DefAt 263 (mS 26 6) "Formatter.is_tight" ["self", "item"] where
  look := fun P => ⟨"moduleyard.formatter", 393, 262, by kernel_rfl, by kernel_rfl⟩
  nodup := by decide
  binds := fun m t c => lenN2 (fun a0 a1 => by kernel_rfl)
  kind := by kernel_rfl
  co := by kernel_rfl
  gen := by kernel_rfl
theorem M_Formatter_is_tight : MeAt 357 "is_tight" 263 := ⟨fun P => by kernel_rfl, fun P => by kernel_rfl, fun P => by kernel_rfl⟩
theorem D_Formatter_token : DefAt 277 (mS 26 8) "Formatter.token" ["self", "item"] where
  look := fun P => ⟨"moduleyard.formatter", 393, 276, by kernel_rfl, by kernel_rfl⟩
  nodup := by decide
  binds := fun m t c => lenN2 (fun a0 a1 => by kernel_rfl)
  kind := by kernel_rfl
  co := by kernel_rfl
  gen := by kernel_rfl
theorem M_Formatter_token : MeAt 357 "token" 277 := ⟨fun P => by kernel_rfl, fun P => by kernel_rfl, fun P => by kernel_rfl⟩
theorem D_Formatter_pop : DefAt 291 (mS 26 10) "Formatter.pop" ["self"] where
  look := fun P => ⟨"moduleyard.formatter", 393, 290, by kernel_rfl, by kernel_rfl⟩
  nodup := by decide
  binds := fun m t c => lenN1 (fun a0 => by kernel_rfl)
  kind := by kernel_rfl
  co := by kernel_rfl
  gen := by kernel_rfl
theorem M_Formatter_pop : MeAt 357 "pop" 291 := ⟨fun P => by kernel_rfl, fun P => by kernel_rfl, fun P => by kernel_rfl⟩
theorem D_Formatter_word : DefAt 298 (mS 26 11) "Formatter.word" ["self", "item"] where
  look := fun P => ⟨"moduleyard.formatter", 393, 297, by kernel_rfl, by kernel_rfl⟩
  nodup := by decide
  binds := fun m t c => lenN2 (fun a0 a1 => by kernel_rfl)
  kind := by kernel_rfl
  co := by kernel_rfl
  gen := by kernel_rfl
theorem M_Formatter_word : MeAt 357 "word" 298 := ⟨fun P => by kernel_rfl, fun P => by kernel_rfl, fun P => by kernel_rfl⟩
theorem D_Formatter_opening : DefAt 305 (mS 26 12) "Formatter.opening" ["self", "item"] where
  look := fun P => ⟨"moduleyard.formatter", 393, 304, by kernel_rfl, by kernel_rfl⟩
  nodup := by decide
  binds := fun m t c => lenN2 (fun a0 a1 => by kernel_rfl)
  kind := by kernel_rfl
  co := by kernel_rfl
  gen := by kernel_rfl
theorem M_Formatter_opening : MeAt 357 "opening" 305 := ⟨fun P => by kernel_rfl, fun P => by kernel_rfl, fun P => by kernel_rfl⟩
theorem D_Formatter_middle : DefAt 312 (mS 26 13) "Formatter.middle" ["self", "item"] where
  look := fun P => ⟨"moduleyard.formatter", 393, 311, by kernel_rfl, by kernel_rfl⟩
  nodup := by decide
  binds := fun m t c => lenN2 (fun a0 a1 => by kernel_rfl)
  kind := by kernel_rfl
  co := by kernel_rfl
  gen := by kernel_rfl
theorem M_Formatter_middle : MeAt 357 "middle" 312 := ⟨fun P => by kernel_rfl, fun P => by kernel_rfl, fun P => by kernel_rfl⟩
theorem D_Formatter_part : DefAt 319 (mS 26 14) "Formatter.part" ["self", "item"] where
  look := fun P => ⟨"moduleyard.formatter", 393, 318, by kernel_rfl, by kernel_rfl⟩
  nodup := by decide
  binds := fun m t c => lenN2 (fun a0 a1 => by kernel_rfl)
  kind := by kernel_rfl
  co := by kernel_rfl
  gen := by kernel_rfl
theorem M_Formatter_part : MeAt 357 "part" 319 := ⟨fun P => by kernel_rfl, fun P => by kernel_rfl, fun P => by kernel_rfl⟩
theorem D_Formatter_procedure : DefAt 326 (mS 26 15) "Formatter.procedure" ["self", "item"] where
  look := fun P => ⟨"moduleyard.formatter", 393, 325, by kernel_rfl, by kernel_rfl⟩
  nodup := by decide
  binds := fun m t c => lenN2 (fun a0 a1 => by kernel_rfl)
  kind := by kernel_rfl
  co := by kernel_rfl
  gen := by kernel_rfl
theorem M_Formatter_procedure : MeAt 357 "procedure" 326 := ⟨fun P => by kernel_rfl, fun P => by kernel_rfl, fun P => by kernel_rfl⟩
theorem D_Formatter_section : DefAt 333 (mS 26 16) "Formatter.section" ["self", "item"] where
  look := fun P => ⟨"moduleyard.formatter", 393, 332, by kernel_rfl, by kernel_rfl⟩
  nodup := by decide
  binds := fun m t c => lenN2 (fun a0 a1 => by kernel_rfl)
  kind := by kernel_rfl
  co := by kernel_rfl
  gen := by kernel_rfl
theorem M_Formatter_section : MeAt 357 "section" 333 := ⟨fun P => by kernel_rfl, fun P => by kernel_rfl, fun P => by kernel_rfl⟩
theorem D_Formatter_sign : DefAt 340 (mS 26 17) "Formatter.sign" ["self", "item"] where
  look := fun P => ⟨"moduleyard.formatter", 393, 339, by kernel_rfl, by kernel_rfl⟩
  nodup := by decide
  binds := fun m t c => lenN2 (fun a0 a1 => by kernel_rfl)
  kind := by kernel_rfl
  co := by kernel_rfl
  gen := by kernel_rfl
theorem M_Formatter_sign : MeAt 357 "sign" 340 := ⟨fun P => by kernel_rfl, fun P => by kernel_rfl, fun P => by kernel_rfl⟩
theorem D_Formatter_bracket : DefAt 347 (mS 26 18) "Formatter.bracket" ["self", "item"] where
  look := fun P => ⟨"moduleyard.formatter", 393, 346, by kernel_rfl, by kernel_rfl⟩
  nodup := by decide
  binds := fun m t c => lenN2 (fun a0 a1 => by kernel_rfl)
  kind := by kernel_rfl
  co := by kernel_rfl
  gen := by kernel_rfl
theorem M_Formatter_bracket : MeAt 357 "bracket" 347 := ⟨fun P => by kernel_rfl, fun P => by kernel_rfl, fun P => by kernel_rfl⟩
theorem D_Formatter_finish : DefAt 354 (mS 26 19) "Formatter.finish" ["self"] where
  look := fun P => ⟨"moduleyard.formatter", 393, 353, by kernel_rfl, by kernel_rfl⟩
  nodup := by decide
  binds := fun m t c => lenN1 (fun a0 => by kernel_rfl)
  kind := by kernel_rfl
  co := by kernel_rfl
  gen := by kernel_rfl
theorem M_Formatter_finish : MeAt 357 "finish" 354 := ⟨fun P => by kernel_rfl, fun P => by kernel_rfl, fun P => by kernel_rfl⟩
theorem D_formatted : DefAt 366 (tS 27) "formatted" ["source"] where
  look := fun P => ⟨"moduleyard.formatter", 393, 365, by kernel_rfl, by kernel_rfl⟩
  nodup := by decide
  binds := fun m t c => lenN1 (fun a0 => by kernel_rfl)
  kind := by kernel_rfl
  co := by kernel_rfl
  gen := by kernel_rfl
theorem F_formatted : FnAt "formatted" 366 := ⟨fun P => by kernel_rfl, fun P => by kernel_rfl⟩
theorem D_law_stock : DefAt 373 (tS 29) "_law_stock" ["script"] where
  look := fun P => ⟨"law_pb0365_01", 664, 372, by kernel_rfl, by kernel_rfl⟩
  nodup := by decide
  binds := fun m t c => lenN1 (fun a0 => by kernel_rfl)
  kind := by kernel_rfl
  co := by kernel_rfl
  gen := by kernel_rfl
theorem F_law_stock : FnAt "_law_stock" 373 := ⟨fun P => by kernel_rfl, fun P => by kernel_rfl⟩
theorem D_law_pick : DefAt 380 (tS 30) "_law_pick" ["pool", "ways"] where
  look := fun P => ⟨"law_pb0365_01", 664, 379, by kernel_rfl, by kernel_rfl⟩
  nodup := by decide
  binds := fun m t c => lenN2 (fun a0 a1 => by kernel_rfl)
  kind := by kernel_rfl
  co := by kernel_rfl
  gen := by kernel_rfl
theorem F_law_pick : FnAt "_law_pick" 380 := ⟨fun P => by kernel_rfl, fun P => by kernel_rfl⟩
theorem D_law_tree : DefAt 385 (tS 31) "_law_tree" ["pool", "spare", "deep"] where
  look := fun P => ⟨"law_pb0365_01", 664, 384, by kernel_rfl, by kernel_rfl⟩
  nodup := by decide
  binds := fun m t c => lenN3 (fun a0 a1 a2 => by kernel_rfl)
  kind := by kernel_rfl
  co := by kernel_rfl
  gen := by kernel_rfl
theorem F_law_tree : FnAt "_law_tree" 385 := ⟨fun P => by kernel_rfl, fun P => by kernel_rfl⟩
theorem D_law_block : DefAt 390 (tS 32) "_law_block" ["pool", "spare", "deep"] where
  look := fun P => ⟨"law_pb0365_01", 664, 389, by kernel_rfl, by kernel_rfl⟩
  nodup := by decide
  binds := fun m t c => lenN3 (fun a0 a1 a2 => by kernel_rfl)
  kind := by kernel_rfl
  co := by kernel_rfl
  gen := by kernel_rfl
theorem F_law_block : FnAt "_law_block" 390 := ⟨fun P => by kernel_rfl, fun P => by kernel_rfl⟩
theorem D_law_joined : DefAt 395 (tS 33) "_law_joined" ["block"] where
  look := fun P => ⟨"law_pb0365_01", 664, 394, by kernel_rfl, by kernel_rfl⟩
  nodup := by decide
  binds := fun m t c => lenN1 (fun a0 => by kernel_rfl)
  kind := by kernel_rfl
  co := by kernel_rfl
  gen := by kernel_rfl
theorem F_law_joined : FnAt "_law_joined" 395 := ⟨fun P => by kernel_rfl, fun P => by kernel_rfl⟩
theorem D_law_flat : DefAt 400 (tS 34) "_law_flat" ["tree"] where
  look := fun P => ⟨"law_pb0365_01", 664, 399, by kernel_rfl, by kernel_rfl⟩
  nodup := by decide
  binds := fun m t c => lenN1 (fun a0 => by kernel_rfl)
  kind := by kernel_rfl
  co := by kernel_rfl
  gen := by kernel_rfl
theorem F_law_flat : FnAt "_law_flat" 400 := ⟨fun P => by kernel_rfl, fun P => by kernel_rfl⟩
theorem D_law_rows : DefAt 407 (tS 35) "_law_rows" ["block", "deep"] where
  look := fun P => ⟨"law_pb0365_01", 664, 406, by kernel_rfl, by kernel_rfl⟩
  nodup := by decide
  binds := fun m t c => lenN2 (fun a0 a1 => by kernel_rfl)
  kind := by kernel_rfl
  co := by kernel_rfl
  gen := by kernel_rfl
theorem F_law_rows : FnAt "_law_rows" 407 := ⟨fun P => by kernel_rfl, fun P => by kernel_rfl⟩
theorem D_law_laid : DefAt 414 (tS 36) "_law_laid" ["tree", "deep"] where
  look := fun P => ⟨"law_pb0365_01", 664, 413, by kernel_rfl, by kernel_rfl⟩
  nodup := by decide
  binds := fun m t c => lenN2 (fun a0 a1 => by kernel_rfl)
  kind := by kernel_rfl
  co := by kernel_rfl
  gen := by kernel_rfl
theorem F_law_laid : FnAt "_law_laid" 414 := ⟨fun P => by kernel_rfl, fun P => by kernel_rfl⟩
theorem D_law_shift : DefAt 421 (tS 37) "_law_shift" ["inner", "span", "deep", "front"] where
  look := fun P => ⟨"law_pb0365_01", 664, 420, by kernel_rfl, by kernel_rfl⟩
  nodup := by decide
  binds := fun m t c => lenN4 (fun a0 a1 a2 a3 => by kernel_rfl)
  kind := by kernel_rfl
  co := by kernel_rfl
  gen := by kernel_rfl
theorem F_law_shift : FnAt "_law_shift" 421 := ⟨fun P => by kernel_rfl, fun P => by kernel_rfl⟩
theorem D_law : DefAt 428 (tS 38) "law" ["script"] where
  look := fun P => ⟨"law_pb0365_01", 664, 427, by kernel_rfl, by kernel_rfl⟩
  nodup := by decide
  binds := fun m t c => lenN1 (fun a0 => by kernel_rfl)
  kind := by kernel_rfl
  co := by kernel_rfl
  gen := by kernel_rfl
theorem F_SourceItem : FnAt "SourceItem" 91 := ⟨fun P => by kernel_rfl, fun P => by kernel_rfl⟩
theorem F_Block : FnAt "Block" 182 := ⟨fun P => by kernel_rfl, fun P => by kernel_rfl⟩
theorem F_Formatter : FnAt "Formatter" 357 := ⟨fun P => by kernel_rfl, fun P => by kernel_rfl⟩
theorem N91_kind : NoAttr 91 "kind" := fun P => by kernel_rfl
theorem N91_text : NoAttr 91 "text" := fun P => by kernel_rfl
theorem N91_place : NoAttr 91 "place" := fun P => by kernel_rfl
theorem N182_word : NoAttr 182 "word" := fun P => by kernel_rfl
theorem N182_base : NoAttr 182 "base" := fun P => by kernel_rfl
theorem N182_body : NoAttr 182 "body" := fun P => by kernel_rfl
theorem N182_section : NoAttr 182 "section" := fun P => by kernel_rfl
theorem N182_label : NoAttr 182 "label" := fun P => by kernel_rfl
theorem N357_rows : NoAttr 357 "rows" := fun P => by kernel_rfl
theorem N357_pieces : NoAttr 357 "pieces" := fun P => by kernel_rfl
theorem N357_before : NoAttr 357 "before" := fun P => by kernel_rfl
theorem N357_depth : NoAttr 357 "depth" := fun P => by kernel_rfl
theorem N357_blocks : NoAttr 357 "blocks" := fun P => by kernel_rfl
theorem N357_open_brackets : NoAttr 357 "open_brackets" := fun P => by kernel_rfl
theorem N357_arrays : NoAttr 357 "arrays" := fun P => by kernel_rfl
theorem N357_naming : NoAttr 357 "naming" := fun P => by kernel_rfl
theorem N357_heading : NoAttr 357 "heading" := fun P => by kernel_rfl
theorem N357_fields : NoAttr 357 "fields" := fun P => by kernel_rfl
theorem N357_base_open : NoAttr 357 "base_open" := fun P => by kernel_rfl
theorem N357_unary : NoAttr 357 "unary" := fun P => by kernel_rfl
theorem N357_starred : NoAttr 357 "starred" := fun P => by kernel_rfl
theorem N357_broken : NoAttr 357 "broken" := fun P => by kernel_rfl
theorem N357_after_remark : NoAttr 357 "after_remark" := fun P => by kernel_rfl
end
section
open PySem PySem.W PyProof.Rows
section
variable {W : W0} {n : Nat} {env : Env} {ρ : Rho} {G : Gh} {μ : List Loc} {H : List O} {s : Shared} {A : Around} {Q : V → List O → Prop}

theorem kind_of {sc : Scope} {x : Str} {k : NameKind} (h : env.scope = sc) (e : sc.names.lookup x = some k) : env.kindOf x = some k := by
  show env.scope.names.lookup x = _
  rw [h]; exact e
theorem seq_next {rest : List Stmt} {Q : Fl → Rho → List O → Prop} (h : ExecsOk W n env rest ρ H Q) : Seq W n env rest Q .next ρ H := h
theorem seq_ret {rest : List Stmt} {v : V} {Q : Fl → Rho → List O → Prop} (h : Q (.ret v) ρ H) : Seq W n env rest Q (.ret v) ρ H := h
theorem ok_fn {x : String} {a : Addr} {args : List Expr} {p pos : Pos} (F : FnAt x a) (h : EvalsOk W n env args ρ H fun vs H1 => CallOk W n (.ref a) vs H1 Q) (hx : env.kindOf (Str.ofString x) = some .globalImplicit)
    (hd : (Str.ofString x == ("__debug__" : Str)) = false := by kernel_rfl) (ha : args.all (fun e => !isStarred e) = true := by rfl) : EvalOk W n env (.Call (.Name (Str.ofString x) p) args [] pos) ρ H Q :=
  ok_call F.ns F.keep ha hx hd h
theorem ok_me {o : Expr} {C : Addr} {m : String} {f : Addr} {apos pos : Pos} {args : List Expr} (K : ClsOk C) (F : MeAt C m f) (he : MShape o m apos pos args) 
    (h : EvalOk W n env o ρ H fun v H1 => ∃ fs, (∃ i, v = .ref i ∧ H1[i]? = some (.inst C fs)) ∧ fs.lookup m = none ∧ EvalsOk W n env args ρ H1 fun vs H2 => CallOk W n (.ref f) (v :: vs) H2 Q) (ha : args.all (fun e => !isStarred e) = true := by rfl) : EvalOk W n env (.Call (.Attribute o (Str.ofString m) apos) args [] pos) ρ H Q :=
  ok_mcall he ha (ok_mono h fun v H1 ⟨fs, h1, h2, h3⟩ => ⟨C, fs, f, .inr h1, K, F.find, F.fn, F.keep, h2, h3⟩)
theorem q_of {v v' : V} (h : Q v H) (e : v = v') : Q v' H := e ▸ h
theorem call_def' {a : Addr} {d : Stmt} {q : String} {ps : List String} {args : List V} (D : DefAt a d q ps) (hn : 1 ≤ n) (hlen : args.length = ps.length)
    (h : ∀ env, GoodEnv env → env.scope = sS d → ExecsOk W (n - 1) env (bS d) (ps.zip args) H (fun fl _ H' => Q fl.val H')) 
    (hcell : ∀ x ∈ (sS d).names, x.2 ≠ .cell := by decide +kernel) (hloc : ∀ x ∈ ps, (sS d).names.lookup (Str.ofString x) = some .local := by decide +kernel) : CallOk W n (.ref a) args H Q := by
  obtain ⟨m, rfl⟩ : ∃ m, n = m + 1 := ⟨n - 1, by walk_at "om"⟩
  exact call_def D hlen hcell hloc h

noncomputable def Sub (ρ L : Rho) : Prop := ∀ x v, L.lookup x = some v → ρ.lookup x = some v
theorem sub_nil : Sub ρ [] := fun _ _ e => by cases e
theorem sub_cons {x : String} {v : V} {L : Rho} (h : ρ.lookup x = some v) (hs : Sub ρ L) : Sub ρ ((x, v) :: L) := fun y w e => by
  simp only [List.lookup_cons] at e
  by_cases q : y = x
  · subst q; simp only [beq_self_eq_true] at e; cases e; exact h
  · rw [beq_eq_false_iff_ne.mpr q] at e; exact hs y w e
theorem St.sub {L : Rho} (h : St W env ρ G μ H s) (hs : Sub ρ L) : St W env L G μ H s := by
  obtain ⟨m, hn, hr⟩ := h.ns
  exact ⟨h.sg, h.hp, h.genv, ⟨m, hn, fun x v e => hr x v (hs x v e)⟩, h.nG, h.nF⟩
theorem oks_sub {L : Rho} {sts : List Stmt} {Q : Fl → Rho → List O → Prop} (hs : Sub ρ L) (h : ExecsOk W n env sts L H Q) : ExecsOk W n env sts ρ H Q := fun A G μ s hA hst => h A G μ s hA (hst.sub hs)
theorem sub_upd {L : Rho} {x : String} {v : V} (h : Sub ρ L) : Sub (upd ρ x v) (upd L x v) := fun y w e => by
  rw [upd_lookup] at e ⊢
  by_cases q : y = x
  · rw [if_pos q] at e ⊢; exact e
  · rw [if_neg q] at e ⊢; exact h y w e
theorem sub_refl : Sub ρ ρ := fun _ _ e => e
end
section
variable {W : W0} {n : Nat} {H : List O} {Q : V → List O → Prop}
noncomputable def letS (x : List Nat) : Bool := (!decide (x < cd "a") && !decide (cd "z" < x)) || (!decide (x < cd "A") && !decide (cd "Z" < x))
noncomputable def digS (x : List Nat) : Bool := !decide (x < cd "0") && !decide (cd "9" < x)
noncomputable def hexS (x : List Nat) : Bool := digS x || (!decide (x < cd "A") && !decide (cd "F" < x))
theorem c_is_letter {x : List Nat} (hn : 1 ≤ n) (h : Q (.bool (letS x)) H) : CallOk W n (.ref 60) [.str x] H Q := by
  refine call_def' D_is_letter hn rfl (fun env ge hsc => ?_)
  refine oks_seq ?_
  repeat walk_at "st"
  all_goals (refine q_of h (congrArg V.bool ?_); unfold letS; simp_all)
theorem c_is_digit {x : List Nat} (hn : 1 ≤ n) (h : Q (.bool (digS x)) H) : CallOk W n (.ref 67) [.str x] H Q := by
  refine call_def' D_is_digit hn rfl (fun env ge hsc => ?_)
  refine oks_seq ?_
  repeat walk_at "st"
  all_goals (refine q_of h (congrArg V.bool ?_); unfold digS; simp_all)
theorem c_is_hex {x : List Nat} (hn : 2 ≤ n) (h : Q (.bool (hexS x)) H) : CallOk W n (.ref 74) [.str x] H Q := by
  refine call_def' D_is_hex_digit (by walk_at "om") rfl (fun env ge hsc => ?_)
  refine oks_seq ?_
  repeat walk_at "st"
  refine c_is_digit (by walk_at "om") ?_
  repeat walk_at "st"
  all_goals (refine q_of h (congrArg V.bool ?_); unfold hexS; simp_all)
end
end
section
section
variable {W : W0} {n : Nat} {env : Env} {ρ : Rho} {H : List O}
theorem test_as {e : Expr} {Q : Bool → List O → Prop} (b : Bool) (h : TestOk W n env e ρ H fun b' H' => b' = b ∧ H' = H) (q : Q b H) : TestOk W n env e ρ H Q := fun A G μ s hA hs =>
  wpAny_mono (h A G μ s hA hs) (fun f s' ⟨G', μ', H', g, m, x, e1, e2⟩ => ⟨G', μ', H', g, m, x, by rw [e1, e2]; exact q⟩) fun _ _ x => x
theorem ok_as {e : Expr} {Q : V → List O → Prop} (v : V) (h : EvalOk W n env e ρ H fun v' H' => v' = v ∧ H' = H) (q : Q v H) : EvalOk W n env e ρ H Q := ok_mono h fun v' H' e => e.1 ▸ e.2 ▸ q
theorem bt2 {A B : Bool} (h1 : A = true) (h2 : B = true) : true = (A && B) := by rw [h1, h2]; rfl
theorem bf1 {A B : Bool} (h1 : A = false) : false = (A && B) := by rw [h1]; rfl
theorem bf2 {A B : Bool} (h2 : B = false) : false = (A && B) := by rw [h2, Bool.and_false]
theorem bf3 {A B C : Bool} (h1 : A = false) : false = (A && B && C) := by rw [h1]; rfl
theorem bf4 {A B C : Bool} (h1 : B = false) : false = (A && B && C) := by rw [h1, Bool.and_false]; rfl
theorem bo1 {A B : Bool} (h1 : A = true) : true = (A || B) := by rw [h1]; rfl
theorem bo2 {A B : Bool} (h2 : B = true) : true = (A || B) := by rw [h2, Bool.or_true]
theorem bo3 {A B : Bool} (h1 : A = false) (h2 : B = false) : false = (A || B) := by rw [h1, h2]; rfl
theorem bo4 {A B C : Bool} (h1 : A = false) (h2 : B = true) (h3 : C = true) : true = (A || (B && C)) := by rw [h1, h2, h3]; rfl
theorem bo5 {A B C : Bool} (h1 : A = false) (h2 : B = false) : false = (A || (B && C)) := by rw [h1, h2]; rfl
theorem bo6 {A B C : Bool} (h1 : A = false) (h2 : C = false) : false = (A || (B && C)) := by rw [h1, h2, Bool.and_false]; rfl
theorem bv1 {A B : Bool} (h1 : A = true) : B = (A && B) := by rw [h1]; rfl
theorem bv2 {A B C : Bool} (h1 : A = true) (h2 : B = true) : C = (A && B && C) := by rw [h1, h2]; rfl
theorem bv3 {A B : Bool} (h1 : A = false) : B = (A || B) := by rw [h1]; rfl
end
theorem tf_tt {A B : Prop} (h : A) : (true = true → A) ∧ (true = false → B) := ⟨fun _ => h, fun e => by cases e⟩
theorem nf_t {A B : Prop} (h : A) : ((!false) = true → A) ∧ ((!false) = false → B) := tf_tt h
theorem nt_f {A B : Prop} (h : B) : ((!true) = true → A) ∧ ((!true) = false → B) := ⟨fun e => (by cases e), fun _ => h⟩
theorem tf_ff {A B : Prop} (h : B) : (false = true → A) ∧ (false = false → B) := ⟨fun e => (by cases e), fun _ => h⟩
theorem ft_tt {A B : Prop} (h : B) : (true = false → A) ∧ (true = true → B) := ⟨fun e => (by cases e), fun _ => h⟩
theorem ft_ff {A B : Prop} (h : A) : (false = false → A) ∧ (false = true → B) := ⟨fun _ => h, fun e => by cases e⟩
section
variable {W : W0} {n : Nat} {env : Env} {ρ : Rho} {G : Gh} {μ : List Loc} {H : List O} {s : Shared} {A : Around} {Q : V → List O → Prop}
set_option genSizeOf false in
structure BiAt (x : String) (id : String) : Prop where
  ns : ∀ P, nsIn (K0 P) mainGlobals (Str.ofString x) = some none
  bo : bootBuiltins (Str.ofString x) = some (.builtin id)
  nm : Str.ofString x ≠ "__name__"
theorem B_len : BiAt "len" "len" := ⟨fun P => by kernel_rfl, by kernel_rfl, by decide +kernel⟩
theorem B_ord : BiAt "ord" "ord" := ⟨fun P => by kernel_rfl, by kernel_rfl, by decide +kernel⟩
theorem B_max : BiAt "max" "max" := ⟨fun P => by kernel_rfl, by kernel_rfl, by decide +kernel⟩
theorem B_sum : BiAt "sum" "sum" := ⟨fun P => by kernel_rfl, by kernel_rfl, by decide +kernel⟩
theorem ok_bi {x id : String} {args : List Expr} {p pos : Pos} (F : BiAt x id) (h : EvalsOk W n env args ρ H fun vs H1 => OpsOk W n env (fun cs => PySem.call (.builtin id) cs) vs ρ H1 Q) (hx : env.kindOf (Str.ofString x) = some .globalImplicit)
    (hd : (Str.ofString x == ("__debug__" : Str)) = false := by kernel_rfl) (ha : args.all (fun e => !isStarred e) = true := by rfl) : EvalOk W n env (.Call (.Name (Str.ofString x) p) args [] pos) ρ H Q :=
  ok_bcall F.ns F.bo F.nm ha hx hd h
end
section
variable {W : W0} {n : Nat} {env : Env} {ρ : Rho} {H : List O} {Q : V → List O → Prop}
noncomputable def unS : List V → List (List Nat)
  | .str s :: r => s :: unS r
  | _ => []
theorem op_in_tup' {x : List Nat} {vs : List V} (h : Q (.bool ((unS vs).contains x)) H) (e : vs = (unS vs).map V.str := by rfl) : Op2Ok W n env (compareOp .In) (.str x) (.tup vs) ρ H Q := op_in_tup e h
theorem op_notin_tup' {x : List Nat} {vs : List V} (h : Q (.bool (!(unS vs).contains x)) H) (e : vs = (unS vs).map V.str := by rfl) : Op2Ok W n env (compareOp .NotIn) (.str x) (.tup vs) ρ H Q := op_notin_tup e h
theorem op_is_none_none (h : Q (.bool true) H) : Op2Ok W n env (compareOp .Is) .none .none ρ H Q := op_is_none h
theorem op_is_none_ref {i : Nat} (h : Q (.bool false) H) : Op2Ok W n env (compareOp .Is) (.ref i) .none ρ H Q := op_is_none h
theorem drop_lt {x t : List Nat} {c a : Nat} (h : x.drop a = c :: t) : a < x.length := by
  rcases Nat.lt_or_ge a x.length with h1 | h1
  · exact h1
  · rw [List.drop_of_length_le h1] at h; cases h
theorem sub_str_at {x t : List Nat} {a c : Nat} (hd : x.drop a = c :: t) (hx : x.length ≤ sizeLine) (h : Q (.str [c]) H) : SubOk W n env (.str x) (.int a) ρ H Q := by
  have h1 := drop_lt hd
  rw [sizeLine_eq] at hx
  refine sub_str (c := c) ⟨by walk_at "om", by walk_at "om"⟩ ?_ h
  unfold pyGet
  rw [if_pos (by walk_at "om"), Int.toNat_natCast, ← List.head?_drop, hd]
  rfl
end
section
variable {W : W0} {n : Nat} {H : List O} {Q : V → List O → Prop}
theorem take_one_add (a : Nat) : a + 1 - a = 1 := by walk_at "om"
theorem drop_succ {x t : List Nat} {c : Nat} {a : Nat} (h : x.drop a = c :: t) : x.drop (a + 1) = t := by
  have := List.drop_drop (i := 1) (j := a) (l := x)
  rw [h] at this
  exact this.symm
theorem c_digits_end {x t rest : List Nat} {a : Nat} (hn : 2 ≤ n) (hx : x.length ≤ sizeLine) (hd : x.drop a = t ++ rest) (ht : ∀ c ∈ t, digS [c] = true) (hr : digS (rest.take 1) = false)
    (h : Q (.int (a + t.length : Nat)) H) : CallOk W n (.ref 130) [.str x, .int a] H Q := by
  refine call_def' D_digits_end (by walk_at "om") rfl (fun env ge hsc => ?_)
  refine oks_seq ?_
  refine ok_while (fun k ρ' H' => ∃ b t', ρ' = [("source", V.str x), ("at", .int (b : Nat))] ∧ H' = H ∧ t'.length = k ∧ x.drop b = t' ++ rest ∧ (∀ c ∈ t', digS [c] = true) ∧ b + k = a + t.length) ?_ t.length ⟨a, t, rfl, rfl, rfl, hd, ht, rfl⟩
  rintro k ρ' H' ⟨b, t', rfl, rfl, rfl, hb, ht', hk⟩
  walk_at "go"
  refine ⟨x, b, b + 1, rfl, rfl, rfl, hx, ?_⟩
  rw [take_one_add, hb]
  walk_at "go"
  refine c_is_digit (by walk_at "om") ⟨_, rfl, ?_⟩
  cases t' with
  | nil =>
    rw [List.nil_append, hr]
    walk_at "go"
    exact q_of h (congrArg (fun z : Nat => V.int z) hk.symm)
  | cons c t' =>
    rw [show ((c :: t') ++ rest).take 1 = [c] from rfl, ht' c List.mem_cons_self]
    walk_at "go"
    refine ⟨t'.length, by simp, b + 1, t', rfl, rfl, rfl, drop_succ hb, fun d hd => ht' d (List.mem_cons_of_mem _ hd), ?_⟩
    simp only [List.length_cons] at hk; omega

theorem c_word_end {x t rest : List Nat} {a : Nat} (hn : 2 ≤ n) (hx : x.length ≤ sizeLine) (hd : x.drop a = t ++ rest) (ht : ∀ c ∈ t, (letS [c] || digS [c]) = true) (hr : (letS (rest.take 1) || digS (rest.take 1)) = false)
    (h : Q (.int (a + t.length : Nat)) H) : CallOk W n (.ref 123) [.str x, .int a] H Q := by
  refine call_def' D_word_end (by walk_at "om") rfl (fun env ge hsc => ?_)
  refine oks_seq ?_
  refine ok_while (fun k ρ' H' => ∃ b t', ρ' = [("source", V.str x), ("at", .int (b : Nat))] ∧ H' = H ∧ t'.length = k ∧ x.drop b = t' ++ rest ∧ (∀ c ∈ t', (letS [c] || digS [c]) = true) ∧ b + k = a + t.length) ?_ t.length ⟨a, t, rfl, rfl, rfl, hd, ht, rfl⟩
  rintro k ρ' H' ⟨b, t', rfl, rfl, rfl, hb, ht', hk⟩
  have key : ∀ c, (List.take (b + 1 - b) (x.drop b)) = c → (letS c || digS c) = decide (t' ≠ []) := by
    rintro c rfl
    rw [take_one_add, hb]
    cases t' with
    | nil => simpa using hr
    | cons c r => simpa using ht' c List.mem_cons_self
  walk_at "go"
  refine ⟨x, b, b + 1, rfl, rfl, rfl, hx, ?_⟩
  obtain ⟨sl, hsl⟩ : ∃ sl, sl = List.take (b + 1 - b) (x.drop b) := ⟨_, rfl⟩
  rw [← hsl]
  have key := key sl hsl.symm
  walk_at "go"
  refine c_is_letter (by walk_at "om") ⟨_, rfl, ?_⟩
  have fin : t' = [] → Q (.int (b : Nat)) H' := by rintro rfl; exact q_of h (congrArg (fun z : Nat => V.int z) hk.symm)
  have go : t' ≠ [] → ∃ j, j < t'.length ∧ ∃ b1 t1, upd [("source", V.str x), ("at", V.int ↑b)] "at" (V.int (↑b + 1)) = [("source", V.str x), ("at", V.int (b1 : Nat))] ∧ H' = H' ∧ t1.length = j ∧ List.drop b1 x = t1 ++ rest ∧ (∀ c ∈ t1, (letS [c] || digS [c]) = true) ∧ b1 + j = a + t.length := by
    intro hne
    cases t' with
    | nil => exact absurd rfl hne
    | cons c t' =>
      refine ⟨t'.length, by simp, b + 1, t', rfl, rfl, rfl, drop_succ hb, fun d hd => ht' d (List.mem_cons_of_mem _ hd), ?_⟩
      simp only [List.length_cons] at hk; omega
  cases hl : letS sl with
  | true =>
    rw [hl, Bool.true_or] at key
    walk_at "go"
    exact go (by simpa using key.symm)
  | false =>
    rw [hl, Bool.false_or] at key
    walk_at "go"
    refine ⟨x, b, b + 1, rfl, rfl, rfl, hx, ?_⟩
    rw [← hsl]
    walk_at "go"
    refine c_is_digit (by walk_at "om") ⟨_, rfl, ?_⟩
    rw [key]
    walk_at "go"
    · rename_i hc; exact fin (by simpa using hc)
    · rename_i hc; exact go (by simpa using hc)
theorem c_gap_end {x t rest : List Nat} {a d : Nat} (hn : 1 ≤ n) (hx : x.length ≤ sizeLine) (hd : x.drop a = t ++ d :: rest) (ht : ∀ c ∈ t, c ≤ 32) (hr : 32 < d)
    (h : Q (.int (a + t.length : Nat)) H) : CallOk W n (.ref 102) [.str x, .int a] H Q := by
  refine call_def' D_gap_end (by walk_at "om") rfl (fun env ge hsc => ?_)
  refine oks_seq ?_
  refine ok_while (fun k ρ' H' => ∃ b t', ρ' = [("source", V.str x), ("at", .int (b : Nat))] ∧ H' = H ∧ t'.length = k ∧ x.drop b = t' ++ d :: rest ∧ (∀ c ∈ t', c ≤ 32) ∧ b + k = a + t.length) ?_ t.length ⟨a, t, rfl, rfl, rfl, hd, ht, rfl⟩
  rintro k ρ' H' ⟨b, t', rfl, rfl, rfl, hb, ht', hk⟩
  have hlt : b < x.length := by
    cases t' with
    | nil => exact drop_lt hb
    | cons c r => exact drop_lt hb
  walk_at "go"
  · cases t' with
    | nil =>
      refine sub_str_at hb hx ?_
      walk_at "go"
      · rename_i hc; simp at hc; omega
      · exact q_of h (congrArg (fun z : Nat => V.int z) hk.symm)
    | cons c t' =>
      refine sub_str_at (t := t' ++ d :: rest) hb hx ?_
      walk_at "go"
      · refine ⟨t'.length, by simp, b + 1, t', rfl, rfl, rfl, drop_succ hb, fun d hd => ht' d (List.mem_cons_of_mem _ hd), ?_⟩
        simp only [List.length_cons] at hk; omega
      · rename_i hc; have := ht' c List.mem_cons_self; simp at hc; omega
  · rename_i hc; simp at hc; omega

noncomputable def Stop (r : List Nat) : Prop := r.take 1 = [] ∨ r.take 1 = [32]
theorem stop_no {r : List Nat} (h : Stop r) : letS (r.take 1) = false ∧ digS (r.take 1) = false ∧ hexS (r.take 1) = false := by
  rcases h with h | h <;> rw [h] <;> decide
theorem c_number_end {x rest : List Nat} {a d : Nat} (hn : 3 ≤ n) (hx : x.length ≤ sizeLine) (hd : x.drop a = d :: rest) (hdig : digS [d] = true) (hr : Stop rest)
    (h : Q (.int (a + 1 : Nat)) H) : CallOk W n (.ref 137) [.str x, .int a] H Q := by
  have hhex : hexS [d] = true := by unfold hexS; rw [hdig]; rfl
  refine call_def' D_number_end (by walk_at "om") rfl (fun env ge hsc => ?_)
  refine oks_seq ?_
  walk_at "go"
  refine ok_while (fun k ρ' H' => H' = H ∧ ∃ b, ρ' = [("source", V.str x), ("at", .int (a : Nat)), ("end", .int (b : Nat))] ∧ ((k = 1 ∧ b = a) ∨ (k = 0 ∧ b = a + 1))) ?_ 1 ⟨rfl, a, rfl, .inl ⟨rfl, rfl⟩⟩
  rintro k ρ' H' ⟨rfl, b, rfl, hk⟩
  walk_at "go"
  refine ⟨x, b, b + 1, rfl, rfl, rfl, hx, ?_⟩
  walk_at "go"
  refine c_is_hex (by walk_at "om") ⟨_, rfl, ?_⟩
  rw [take_one_add]
  rcases hk with ⟨rfl, rfl⟩ | ⟨rfl, rfl⟩
  · rw [hd, show (d :: rest).take 1 = [d] from rfl, hhex]
    walk_at "go"
    exact ⟨0, by decide, rfl, b + 1, rfl, .inr ⟨rfl, rfl⟩⟩
  · rw [drop_succ hd, (stop_no hr).2.2]
    walk_at "go"
    refine ⟨x, a + 1, a + 1 + 1, rfl, rfl, rfl, hx, ?_⟩
    rw [take_one_add, drop_succ hd]
    walk_at "go"
    · rename_i hc
      rcases hr with hr | hr <;> rw [hr] at hc <;> exact absurd hc (by decide)
    refine c_digits_end (t := [d]) (rest := rest) (by walk_at "om") hx hd (by simpa using hdig) (stop_no hr).2.1 ?_
    walk_at "go"
    refine ⟨x, a + 1, a + 1 + 1, rfl, rfl, rfl, hx, ?_⟩
    rw [take_one_add, drop_succ hd]
    walk_at "go"
    · rename_i hc
      rcases hr with hr | hr <;> rw [hr] at hc <;> exact absurd hc (by decide)
    · exact h
end
end
section
section
variable {W : W0} {n : Nat} {H : List O} {Q : V → List O → Prop}
theorem set_last {o o' : O} : (H ++ [o]).set H.length o' = H ++ [o'] := by simp
theorem get_last {o : O} : (H ++ [o])[H.length]? = some o := by simp
theorem c_item_init {k t p : V} (hn : 1 ≤ n) (h : Q .none (H ++ [.inst 91 [("kind", k), ("text", t), ("place", p)]])) : CallOk W n (.ref 88) [.ref H.length, k, t, p] (H ++ [.inst 91 []]) Q := by
  refine call_def' D_SourceItem_init hn rfl (fun env ge hsc => ?_)
  refine oks_seq ?_
  refine ok_assign_attr ?_
  walk_at "go"
  refine ⟨_, _, _, rfl, get_last, cls_item, N91_kind, by simp, ?_⟩
  rw [set_last]
  refine seq_next (oks_seq (ok_assign_attr ?_))
  walk_at "go"
  refine ⟨_, _, _, rfl, get_last, cls_item, N91_text, by (show List.length [_] ≤ _); simp, ?_⟩
  rw [set_last]
  refine seq_next (oks_seq (ok_assign_attr ?_))
  walk_at "go"
  refine ⟨_, _, _, rfl, get_last, cls_item, N91_place, by (show List.length [_, _] ≤ _); simp, ?_⟩
  rw [set_last]
  walk_at "go"
  exact h
theorem c_item {k t p : V} (hn : 2 ≤ n) (h : Q (.ref H.length) (H ++ [.inst 91 [("kind", k), ("text", t), ("place", p)]])) : CallOk W n (.ref 91) [k, t, p] H Q := by
  obtain ⟨m, rfl⟩ : ∃ m, n = m + 1 := ⟨n - 1, by walk_at "om"⟩
  refine call_new cls_item M_SourceItem_init.find (fun P => by kernel_rfl) ?_
  exact c_item_init (by walk_at "om") ⟨rfl, h⟩
noncomputable def kws : List (List Nat) := ["ARRAY", "BEGIN", "BY", "CASE", "CONST", "DIV", "DO", "ELSE", "ELSIF", "END", "FOR", "IF", "IMPORT", "IN", "IS", "MOD", "MODULE", "NIL", "OF", "OR", "POINTER", "PROCEDURE", "RECORD", "REPEAT", "RETURN", "THEN", "TO", "TYPE", "UNTIL", "VAR", "WHILE"].map cd
theorem c_keywords (hn : 1 ≤ n) (h : Q (.tup (kws.map V.str)) H) : CallOk W n (.ref 53) [] H Q := by
  refine call_def' D_keywords hn rfl (fun env ge hsc => ?_)
  refine oks_seq ?_
  walk_at "go"
  exact h
noncomputable def sgs : List Nat := cd "+-*/~&.,;|([{^=#<>:)]}"
noncomputable def twos : List (List Nat) := [":=", "<=", ">=", ".."].map cd
theorem take_two_add (a : Nat) : a + 2 - a = 2 := by walk_at "om"
theorem c_sign_end2 {x t rest : List Nat} {a : Nat} (hn : 1 ≤ n) (hx : x.length ≤ sizeLine) (hd : x.drop a = t ++ rest) (ht : t ∈ twos) (h : Q (.int (a + 2 : Nat)) H) : CallOk W n (.ref 144) [.str x, .int a] H Q := by
  refine call_def' D_sign_end hn rfl (fun env ge hsc => ?_)
  refine oks_seq ?_
  walk_at "go"
  refine ⟨x, a, a + 2, rfl, rfl, rfl, hx, ?_⟩
  have e : (x.drop a).take (a + 2 - a) = t := by
    rw [take_two_add, hd]
    have : t.length = 2 := by
      have ht' : t ∈ [[58, 61], [60, 61], [62, 61], [46, 46]] := ht
      simp only [List.mem_cons, List.not_mem_nil, or_false] at ht'
      rcases ht' with rfl | rfl | rfl | rfl <;> rfl
    rw [← this]; exact List.take_left
  rw [e]
  walk_at "go"
  · exact h
  · rename_i hc
    have : twos.contains t = true := by simpa using ht
    exact absurd (this.symm.trans hc) (by decide)
theorem c_sign_end1 {x rest : List Nat} {a c : Nat} (hn : 1 ≤ n) (hx : x.length ≤ sizeLine) (hd : x.drop a = c :: rest) (hc : sgs.contains c = true) (hr : Stop rest) (h : Q (.int (a + 1 : Nat)) H) : CallOk W n (.ref 144) [.str x, .int a] H Q := by
  refine call_def' D_sign_end hn rfl (fun env ge hsc => ?_)
  refine oks_seq ?_
  walk_at "go"
  refine ⟨x, a, a + 2, rfl, rfl, rfl, hx, ?_⟩
  have e : (x.drop a).take (a + 2 - a) = c :: rest.take 1 := by rw [take_two_add, hd]; rfl
  rw [e]
  walk_at "go"
  · rename_i hq
    have : twos.contains (c :: rest.take 1) = true := hq
    rcases hr with hr | hr <;> rw [hr] at this <;> revert this <;> simp [twos, cd]
  · refine sub_str_at hd hx ?_
    walk_at "go"
    · exact h
    · rename_i hq
      exact absurd (hc.symm.trans hq) (by decide)

/- what a text is made of -/
noncomputable def wordB : List Nat → Bool
  | [] => false
  | c :: r => letS [c] && decide (32 < c) && (c != 40) && (c :: r).all fun d => letS [d] || digS [d]
noncomputable def digB : List Nat → Bool
  | [d] => digS [d] && !letS [d] && decide (32 < d) && (d != 40)
  | _ => false
noncomputable def signB : List Nat → Bool
  | [c] => sgs.contains c && !letS [c] && !digS [c] && decide (32 < c) && (c != 34)
  | [c, d] => twos.contains [c, d] && !letS [c] && !digS [c] && decide (32 < c) && (c != 34) && (c != 40)
  | _ => false
noncomputable def kindT (t : List Nat) : List Nat := if wordB t then (if kws.contains t then cd "word" else cd "name") else if digB t then cd "number" else cd "sign"
noncomputable def itemO (k t : List Nat) (p : Nat) : O := .inst 91 [("kind", .str k), ("text", .str t), ("place", .int p)]
theorem unS_map (ls : List (List Nat)) : unS (ls.map V.str) = ls := by
  induction ls with
  | nil => rfl
  | cons x r ih => simp only [List.map_cons, unS, ih]
theorem no_rem {c : Nat} {l : List Nat} (h : c ≠ 40) : ((c :: l).take 2 == cd "(*") = false := by
  rw [beq_eq_false_iff_ne]
  intro e
  have := congrArg List.head? e
  simp [cd] at this
  exact h this
theorem take_pre {x t rest : List Nat} {a : Nat} (hd : x.drop a = t ++ rest) : (x.drop a).take (a + t.length - a) = t := by
  rw [Nat.add_sub_cancel_left, hd]; exact List.take_left
theorem c_item_gap {x rest : List Nat} {a d : Nat} {ws : V} (hn : 3 ≤ n) (hx : x.length ≤ sizeLine) (hd : x.drop a = 32 :: d :: rest) (h32 : 32 < d) (h : Q (.ref H.length) (H ++ [itemO (cd "gap") [32] a])) : CallOk W n (.ref 158) [.str x, .int a, ws] H Q := by
  refine call_def' D_item_at (by walk_at "om") rfl (fun env ge hsc => ?_)
  refine oks_seq ?_
  walk_at "go"
  refine sub_str_at hd hx ?_
  walk_at "go"
  · refine c_gap_end (t := [32]) (by walk_at "om") hx hd (by simp) h32 ⟨x, a, a + 1, rfl, rfl, rfl, hx, ?_⟩
    have := take_pre (t := [32]) (rest := d :: rest) hd
    rw [show a + [32].length - a = a + 1 - a from rfl] at this
    rw [this]
    walk_at "go"
    exact c_item (by walk_at "om") h
  · rename_i hc; exact absurd hc (by decide)
theorem c_item_word {x t rest : List Nat} {a : Nat} (hn : 4 ≤ n) (hx : x.length ≤ sizeLine) (hd : x.drop a = t ++ rest) (ht : wordB t = true) (hr : Stop rest) (h : Q (.ref H.length) (H ++ [itemO (kindT t) t a])) : CallOk W n (.ref 158) [.str x, .int a, .tup (kws.map V.str)] H Q := by
  cases t with
  | nil => cases ht
  | cons c r =>
    have ht0 := ht
    simp only [wordB, Bool.and_eq_true, decide_eq_true_eq, bne_iff_ne, ne_eq, List.all_eq_true] at ht
    obtain ⟨⟨⟨h1, h2⟩, h3⟩, h4⟩ := ht
    refine call_def' D_item_at (by walk_at "om") rfl (fun env ge hsc => ?_)
    refine oks_seq ?_
    walk_at "go"
    refine sub_str_at hd hx ?_
    walk_at "go"
    · rename_i hc; simp at hc; omega
    · refine ⟨x, a, a + 2, rfl, rfl, rfl, hx, ?_⟩
      rw [take_two_add, hd, List.cons_append]
      walk_at "go"
      · rename_i hc; rw [no_rem h3] at hc; cases hc
      refine c_is_letter (by walk_at "om") ⟨_, rfl, ?_⟩
      rw [h1]
      walk_at "go"
      refine c_word_end (by walk_at "om") hx hd h4 (by rw [(stop_no hr).1, (stop_no hr).2.1]; rfl) ⟨x, a, a + (c :: r).length, rfl, rfl, rfl, hx, ?_⟩
      rw [take_pre hd]
      walk_at "go"
      all_goals
        rename_i hc
        rw [unS_map] at hc
        refine c_item (by walk_at "om") ?_
        unfold kindT at h
        rw [if_pos ht0, hc] at h
        exact h
theorem c_item_num {x t rest : List Nat} {a : Nat} {ws : V} (hn : 4 ≤ n) (hx : x.length ≤ sizeLine) (hd : x.drop a = t ++ rest) (ht : digB t = true) (hr : Stop rest) (h : Q (.ref H.length) (H ++ [itemO (kindT t) t a])) : CallOk W n (.ref 158) [.str x, .int a, ws] H Q := by
  match t, ht with
  | [c], ht =>
    have ht0 := ht
    simp only [digB, Bool.and_eq_true, decide_eq_true_eq, bne_iff_ne, ne_eq, Bool.not_eq_true'] at ht
    obtain ⟨⟨⟨h1, h2⟩, h3⟩, h4⟩ := ht
    have hk : kindT [c] = cd "number" := by
      unfold kindT
      rw [if_neg (by simp [wordB, h2]), if_pos ht0]
    rw [hk] at h
    refine call_def' D_item_at (by walk_at "om") rfl (fun env ge hsc => ?_)
    refine oks_seq ?_
    walk_at "go"
    refine sub_str_at hd hx ?_
    walk_at "go"
    · rename_i hc; simp at hc; omega
    · refine ⟨x, a, a + 2, rfl, rfl, rfl, hx, ?_⟩
      rw [take_two_add, hd, List.cons_append]
      walk_at "go"
      · rename_i hc; rw [no_rem h4] at hc; cases hc
      refine c_is_letter (by walk_at "om") ⟨_, rfl, ?_⟩
      rw [h2]
      walk_at "go"
      refine c_is_digit (by walk_at "om") ⟨_, rfl, ?_⟩
      rw [h1]
      walk_at "go"
      refine c_number_end (by walk_at "om") hx hd h1 hr ⟨x, a, a + 1, rfl, rfl, rfl, hx, ?_⟩
      have := take_pre (t := [c]) hd
      rw [show a + [c].length - a = a + 1 - a from rfl] at this
      rw [this]
      walk_at "go"
      exact c_item (by walk_at "om") h
theorem c_item_sign {x t rest : List Nat} {a : Nat} {ws : V} (hn : 4 ≤ n) (hx : x.length ≤ sizeLine) (hd : x.drop a = t ++ rest) (ht : signB t = true) (hr : Stop rest) (h : Q (.ref H.length) (H ++ [itemO (kindT t) t a])) : CallOk W n (.ref 158) [.str x, .int a, ws] H Q := by
  have hend : ∀ {Q : V → List O → Prop} {m}, 1 ≤ m → Q (.int (a + t.length : Nat)) H → CallOk W m (.ref 144) [.str x, .int a] H Q := by
    intro Q m hm hq
    match t, ht with
    | [c], ht =>
      simp only [signB, Bool.and_eq_true] at ht
      exact c_sign_end1 hm hx hd ht.1.1.1.1 hr hq
    | [c, d], ht =>
      simp only [signB, Bool.and_eq_true] at ht
      exact c_sign_end2 hm hx hd (by simpa using ht.1.1.1.1.1) hq
  have hrem : ((t ++ rest).take 2 == cd "(*") = false := by
    match t, ht with
    | [c], ht =>
      rw [show ([c] ++ rest).take 2 = c :: rest.take 1 from rfl]
      rcases hr with hr | hr <;> rw [hr] <;> simp [cd]
    | [c, d], ht =>
      simp only [signB, Bool.and_eq_true, bne_iff_ne, ne_eq] at ht
      exact no_rem ht.2
  have hh : ∃ c r, t = c :: r ∧ letS [c] = false ∧ digS [c] = false ∧ 32 < c ∧ c ≠ 34 ∧ kindT t = cd "sign" := by
    match t, ht with
    | [c], ht =>
      simp only [signB, Bool.and_eq_true, decide_eq_true_eq, bne_iff_ne, ne_eq, Bool.not_eq_true'] at ht
      refine ⟨c, [], rfl, ht.1.1.1.2, ht.1.1.2, ht.1.2, ht.2, ?_⟩
      unfold kindT
      rw [if_neg (by simp [wordB, ht.1.1.1.2]), if_neg (by simp [digB, ht.1.1.2])]
    | [c, d], ht =>
      simp only [signB, Bool.and_eq_true, decide_eq_true_eq, bne_iff_ne, ne_eq, Bool.not_eq_true'] at ht
      refine ⟨c, [d], rfl, ht.1.1.1.1.2, ht.1.1.1.2, ht.1.1.2, ht.1.2, ?_⟩
      unfold kindT
      rw [if_neg (by simp [wordB, ht.1.1.1.1.2]), if_neg (by simp [digB])]
  obtain ⟨c, r, rfl, h2, h1, h3, h4, hk⟩ := hh
  rw [hk] at h
  refine call_def' D_item_at (by walk_at "om") rfl (fun env ge hsc => ?_)
  refine oks_seq ?_
  walk_at "go"
  refine sub_str_at hd hx ?_
  walk_at "go"
  · rename_i hc; simp at hc; omega
  · refine ⟨x, a, a + 2, rfl, rfl, rfl, hx, ?_⟩
    rw [take_two_add, hd]
    walk_at "go"
    · rename_i hc; rw [hrem] at hc; cases hc
    refine c_is_letter (by walk_at "om") ⟨_, rfl, ?_⟩
    rw [h2]
    walk_at "go"
    refine c_is_digit (by walk_at "om") ⟨_, rfl, ?_⟩
    rw [h1]
    walk_at "go"
    · rename_i hc; exact absurd hc (by simp [cd, h4])
    · refine hend (by walk_at "om") ?_
      walk_at "go"
      · refine ⟨x, a, a + (c :: r).length, rfl, rfl, rfl, hx, ?_⟩
        rw [take_pre hd]
        walk_at "go"
        exact c_item (by walk_at "om") h
      · rename_i hc; simp at hc; omega
end
end
section
section
variable {W : W0} {n : Nat} {env : Env} {ρ : Rho} {H : List O} {Q : V → List O → Prop}
theorem ok_append {o arg : Expr} {apos pos : Pos} (h : EvalOk W n env o ρ H fun v H1 => ∃ i, v = .ref i ∧ (∃ xs, H1[i]? = some (.list xs)) ∧ EvalOk W n env arg ρ H1 fun w H2 => ∃ xs, H2[i]? = some (.list xs) ∧ xs.length ≤ sizeLine ∧ Q .none (H2.set i (.list (xs ++ [w]))))
    (he : MShape o "append" apos pos [arg] := by intro env; exact ⟨_, rfl⟩) (ha : isStarred arg = false := by rfl) : EvalOk W n env (.Call (.Attribute o (Str.ofString "append") apos) [arg] [] pos) ρ H Q := by
  refine ok_tmeth he (by simp [ha]) F.plainAttrs_list F.slot_list_append F.type_list_append (ok_mono h ?_)
  rintro v H1 ⟨i, rfl, ⟨xs, hx⟩, k⟩
  refine ⟨.inr ⟨rfl, i, xs, rfl, hx⟩, ?_⟩
  refine oks_cons (ok_mono k ?_) ha
  rintro w H2 ⟨ys, h1, h2, h3⟩
  exact oks_nil (call_append h1 h2 h3)
theorem ok_lpop {o : Expr} {apos pos : Pos} (h : EvalOk W n env o ρ H fun v H1 => ∃ i xs x, v = .ref i ∧ H1[i]? = some (.list (xs ++ [x])) ∧ xs.length < sizeLine ∧ Q x (H1.set i (.list xs)))
    (he : MShape o "pop" apos pos [] := by intro env; exact ⟨_, rfl⟩) : EvalOk W n env (.Call (.Attribute o (Str.ofString "pop") apos) [] [] pos) ρ H Q := by
  refine ok_tmeth he rfl F.plainAttrs_list F.slot_list_pop F.type_list_pop (ok_mono h ?_)
  rintro v H1 ⟨i, xs, x, rfl, hx, k1, k2⟩
  exact ⟨.inr ⟨rfl, i, _, rfl, hx⟩, oks_nil (call_pop hx k1 k2)⟩
theorem ok_reverse {o : Expr} {apos pos : Pos} (h : EvalOk W n env o ρ H fun v H1 => ∃ i xs, v = .ref i ∧ H1[i]? = some (.list xs) ∧ xs.length ≤ sizeLine ∧ Q .none (H1.set i (.list xs.reverse)))
    (he : MShape o "reverse" apos pos [] := by intro env; exact ⟨_, rfl⟩) : EvalOk W n env (.Call (.Attribute o (Str.ofString "reverse") apos) [] [] pos) ρ H Q := by
  refine ok_tmeth he rfl F.plainAttrs_list F.slot_list_reverse F.type_list_reverse (ok_mono h ?_)
  rintro v H1 ⟨i, xs, rfl, hx, k1, k2⟩
  exact ⟨.inr ⟨rfl, i, _, rfl, hx⟩, oks_nil (call_reverse hx k1 k2)⟩
theorem ok_join {o arg : Expr} {apos pos : Pos} (h : EvalOk W n env o ρ H fun v H1 => ∃ sep, v = .str sep ∧ EvalOk W n env arg ρ H1 fun w H2 => ∃ ls, (w = .lst (ls.map V.str) ∨ ∃ i, w = .ref i ∧ H2[i]? = some (.list (ls.map V.str))) ∧ sep.length ≤ 64 ∧ (ls.map List.length).sum + ls.length * 64 ≤ 16777216 ∧ Q (.str (joinL sep ls)) H2)
    (he : MShape o "join" apos pos [arg] := by intro env; exact ⟨_, rfl⟩) (ha : isStarred arg = false := by rfl) : EvalOk W n env (.Call (.Attribute o (Str.ofString "join") apos) [arg] [] pos) ρ H Q := by
  refine ok_tmeth he (by simp [ha]) F.plainAttrs_str F.slot_str_join F.type_str_join (ok_mono h ?_)
  rintro v H1 ⟨sep, rfl, k⟩
  refine ⟨.inl ⟨rfl, _, rfl⟩, ?_⟩
  refine oks_cons (ok_mono k ?_) ha
  rintro w H2 ⟨ls, h1, h2, h3, h4⟩
  exact oks_nil (call_join h1 h2 h3 h4)
theorem ok_lstrip {o arg : Expr} {apos pos : Pos} (h : EvalOk W n env o ρ H fun v H1 => ∃ x, v = .str x ∧ EvalOk W n env arg ρ H1 fun w H2 => ∃ c, w = .str [c] ∧ x.length ≤ sizeLine ∧ Q (.str (x.dropWhile (· == c))) H2)
    (he : MShape o "lstrip" apos pos [arg] := by intro env; exact ⟨_, rfl⟩) (ha : isStarred arg = false := by rfl) : EvalOk W n env (.Call (.Attribute o (Str.ofString "lstrip") apos) [arg] [] pos) ρ H Q := by
  refine ok_tmeth he (by simp [ha]) F.plainAttrs_str F.slot_str_lstrip F.type_str_lstrip (ok_mono h ?_)
  rintro v H1 ⟨sep, rfl, k⟩
  refine ⟨.inl ⟨rfl, _, rfl⟩, ?_⟩
  refine oks_cons (ok_mono k ?_) ha
  rintro w H2 ⟨ls, rfl, h3, h4⟩
  exact oks_nil (call_lstrip h3 h4)
end
section
variable {W : W0} {n : Nat} {H : List O} {Q : V → List O → Prop}
/- the items of a text -/
noncomputable def Seg (t rest : List Nat) : Prop := (t = [32] ∧ ∃ d r, rest = d :: r ∧ 32 < d) ∨ (Stop rest ∧ (wordB t || digB t || signB t) = true)
noncomputable def kindG (t : List Nat) : List Nat := if t = [32] then cd "gap" else kindT t
theorem c_item_seg {x t rest : List Nat} {a : Nat} (hn : 4 ≤ n) (hx : x.length ≤ sizeLine) (hd : x.drop a = t ++ rest) (hs : Seg t rest) (h : Q (.ref H.length) (H ++ [itemO (kindG t) t a])) : CallOk W n (.ref 158) [.str x, .int a, .tup (kws.map V.str)] H Q := by
  rcases hs with ⟨rfl, d, r, rfl, h32⟩ | ⟨hr, ht⟩
  · exact c_item_gap (by walk_at "om") hx hd h32 h
  · have hne : t ≠ [32] := by rintro rfl; revert ht; decide
    unfold kindG at h
    rw [if_neg hne] at h
    rw [Bool.or_eq_true, Bool.or_eq_true] at ht
    rcases ht with (ht | ht) | ht
    · exact c_item_word hn hx hd ht hr h
    · exact c_item_num hn hx hd ht hr h
    · exact c_item_sign hn hx hd ht hr h
noncomputable def Segs : List (List Nat) → Prop
  | [] => True
  | t :: r => t ≠ [] ∧ Seg t r.flatten ∧ Segs r
noncomputable def itemsO : List (List Nat) → Nat → List O
  | [], _ => []
  | t :: r, a => itemO (kindG t) t a :: itemsO r (a + t.length)
theorem itemsO_len : ∀ (l : List (List Nat)) (a : Nat), (itemsO l a).length = l.length
  | [], _ => rfl
  | t :: r, a => by simp [itemsO, itemsO_len r]
theorem itemsO_app : ∀ (l m : List (List Nat)) (a : Nat), itemsO (l ++ m) a = itemsO l a ++ itemsO m (a + l.flatten.length)
  | [], m, a => by simp [itemsO]
  | t :: r, m, a => by simp [itemsO, itemsO_app r m, Nat.add_assoc]
noncomputable def refsFrom (k : Nat) (m : Nat) : List V := (List.range m).map fun i => V.ref (k + i)
theorem refs_succ (k m : Nat) : refsFrom k (m + 1) = refsFrom k m ++ [V.ref (k + m)] := by simp [refsFrom, List.range_succ]
noncomputable def wB : Stmt → List Stmt
  | .While _ b _ _ => b
  | _ => []
theorem c_source_items {segs : List (List Nat)} (hn : 5 ≤ n) (hx : segs.flatten.length ≤ sizeLine) (hm : segs.length ≤ sizeLine) (hs : Segs segs)
    (h : Q (.ref H.length) (H ++ .list (refsFrom (H.length + 1) segs.length) :: itemsO segs 0)) : CallOk W n (.ref 165) [.str segs.flatten] H Q := by
  refine call_def' D_source_items (by walk_at "om") rfl (fun env ge hsc => ?_)
  refine oks_seq ?_
  walk_at "go"
  refine c_keywords (by walk_at "om") ?_
  walk_at "go"
  generalize hxx : segs.flatten = x at hx ⊢
  refine ok_while (fun k ρ' H' => ∃ (dn td : List (List Nat)), segs = dn ++ td ∧ k = td.length ∧ (∃ tl, ρ' = [("source", V.str x), ("words", .tup (kws.map V.str)), ("found", .ref H.length), ("at", .int (dn.flatten.length : Nat))] ++ tl ∧ (tl = [] ∨ ∃ w, tl = [("item", w)])) ∧
     H' = H ++ .list (refsFrom (H.length + 1) dn.length) :: itemsO dn 0 ∧ Segs td) ?_ segs.length ⟨[], segs, rfl, rfl, ⟨[], rfl, .inl rfl⟩, rfl, hs⟩
  rintro k ρ' H' ⟨dn, td, rfl, rfl, ⟨tl, rfl, htl⟩, rfl, hsg⟩
  have hfl : x.drop dn.flatten.length = td.flatten := by
    rw [← hxx, List.flatten_append]; exact List.drop_left
  have hxl : x.length = dn.flatten.length + td.flatten.length := by rw [← hxx]; simp
  cases td with
  | nil =>
    have hnlt : decide (((dn.flatten.length : Nat) : Int) < (x.length : Int)) = false := by simp [hxl]
    rcases htl with rfl | ⟨w, rfl⟩
    all_goals
      walk_at "go"
      · rename_i hc; rw [hnlt] at hc; cases hc
      · rw [List.append_nil] at h; exact h
  | cons t r =>
    obtain ⟨h1, h2, h3⟩ := hsg
    have hpos : 0 < t.length := List.length_pos_iff.mpr h1
    have hlt : decide (((dn.flatten.length : Nat) : Int) < (x.length : Int)) = true := by
      rw [decide_eq_true_eq, hxl, List.flatten_cons, List.length_append]; omega
    have hdn : dn.length < sizeLine := by simp at hm; omega
    have key : ExecsOk W (n - 1) env (wB (((bS (tS 19))[3]?).getD default)) [("source", V.str x), ("words", .tup (kws.map V.str)), ("found", .ref H.length), ("at", .int (dn.flatten.length : Nat))] (H ++ O.list (refsFrom (H.length + 1) dn.length) :: itemsO dn 0) fun fl ρ' H' => match fl with
        | .next => ∃ j, j < (t :: r).length ∧ ∃ (dn' td : List (List Nat)), dn ++ t :: r = dn' ++ td ∧ j = td.length ∧ (∃ tl, ρ' = [("source", V.str x), ("words", .tup (kws.map V.str)), ("found", .ref H.length), ("at", .int (dn'.flatten.length : Nat))] ++ tl ∧ (tl = [] ∨ ∃ w, tl = [("item", w)])) ∧ H' = H ++ .list (refsFrom (H.length + 1) dn'.length) :: itemsO dn' 0 ∧ Segs td
        | _ => False := by
      refine oks_seq ?_
      walk_at "go"
      refine c_item_seg (by walk_at "om") hx (by rw [hfl, List.flatten_cons]) h2 ?_
      walk_at "go"
      refine ⟨_, rfl, ⟨refsFrom (H.length + 1) dn.length, by simp⟩, ?_⟩
      walk_at "go"
      refine ⟨refsFrom (H.length + 1) dn.length, by simp, by simp [refsFrom]; omega, ?_⟩
      walk_at "go"
      have heq : (H ++ O.list (refsFrom (H.length + 1) dn.length) :: itemsO dn 0 ++ [itemO (kindG t) t dn.flatten.length]).set H.length
          (O.list (refsFrom (H.length + 1) dn.length ++ [V.ref (H ++ O.list (refsFrom (H.length + 1) dn.length) :: itemsO dn 0).length])) =
          H ++ O.list (refsFrom (H.length + 1) (dn ++ [t]).length) :: itemsO (dn ++ [t]) 0 := by
        rw [List.append_assoc, List.cons_append, List.set_append_right _ _ (Nat.le_refl _), Nat.sub_self, List.set_cons_zero]
        congr 1
        rw [show (dn ++ [t]).length = dn.length + 1 by simp, refs_succ, itemsO_app]
        have hl : (H ++ O.list (refsFrom (H.length + 1) dn.length) :: itemsO dn 0).length = H.length + 1 + dn.length := by simp [itemsO_len]; omega
        rw [hl]
        simp [itemsO]
      rw [heq]
      refine ⟨91, [("kind", .str (kindG t)), ("text", .str t), ("place", .int dn.flatten.length)], .str t, .inr ⟨_, rfl, ?_⟩, cls_item, N91_text, rfl, ?_⟩
      · rw [List.getElem?_append_right (by simp)]
        simp [itemsO_app, itemsO, itemsO_len, itemO]
      have htl : t.length ≤ sizeLine := by rw [hxl, List.flatten_cons, List.length_append] at hx; omega
      walk_at "go"
      refine ⟨r.length, by simp, dn ++ [t], r, by simp, rfl, ⟨[("item", V.ref (H ++ O.list (refsFrom (H.length + 1) dn.length) :: itemsO dn 0).length)], ?_, .inr ⟨_, rfl⟩⟩, rfl, h3⟩
      rw [show (dn ++ [t]).flatten.length = dn.flatten.length + t.length by simp]
      rfl
    rcases htl with rfl | ⟨w, rfl⟩
    all_goals
      walk_at "tt"
      · refine oks_mono (oks_sub (sub_cons rfl (sub_cons rfl (sub_cons rfl (sub_cons rfl sub_nil)))) key) fun fl ρ' H' q => ?_
        cases fl with
        | next => exact q
        | _ => exact q.elim
      · rename_i hc; rw [hlt] at hc; cases hc
end
end
section
section
variable {W : W0} {n : Nat} {env : Env} {ρ : Rho} {H : List O} {Q : V → List O → Prop} {B : Nat → Option O}
/- what a method owns -/
set_option genSizeOf false in
structure Own (B : Nat → Option O) (H : List O) (cs : List (Nat × O)) : Prop where
  at_ : ∀ c ∈ cs, H[c.1]? = some c.2
  nd : (cs.map (·.1)).Nodup
  base : ∀ i o, B i = some o → H[i]? = some o
  out : ∀ i o, B i = some o → i ∉ cs.map (·.1)
theorem lt_of_get {α : Type} {l : List α} {i : Nat} {o : α} (h : l[i]? = some o) : i < l.length := by
  rcases Nat.lt_or_ge i l.length with h1 | h1
  · exact h1
  · rw [List.getElem?_eq_none h1] at h; cases h
theorem Own.at0 {f : Nat} {o : O} {l : List (Nat × O)} (h : Own B H ((f, o) :: l)) : H[f]? = some o := h.at_ _ List.mem_cons_self
theorem Own.get {l₁ l₂ : List (Nat × O)} {f : Nat} {o : O} (h : Own B H (l₁ ++ (f, o) :: l₂)) : H[f]? = some o := h.at_ (f, o) (by simp)
theorem Own.upd {l₁ l₂ : List (Nat × O)} {i : Nat} {o o' : O} (h : Own B H (l₁ ++ (i, o) :: l₂)) : Own B (H.set i o') (l₁ ++ (i, o') :: l₂) := by
  have hi := lt_of_get h.get
  have hnd := h.nd
  have hout := h.out
  simp only [List.map_append, List.map_cons] at hnd hout
  rw [List.nodup_append, List.nodup_cons] at hnd
  obtain ⟨n1, ⟨n2, n3⟩, n4⟩ := hnd
  have hne : ∀ c, (c ∈ l₁ ∨ c ∈ l₂) → c.1 ≠ i := by
    rintro c (hc | hc) rfl
    · exact n4 _ (List.mem_map_of_mem hc) c.1 List.mem_cons_self rfl
    · exact n2 (List.mem_map_of_mem hc)
  refine ⟨?_, ?_, ?_, ?_⟩
  · intro c hc
    rw [List.mem_append, List.mem_cons] at hc
    rcases hc with hc | rfl | hc
    · rw [List.getElem?_set_ne (Ne.symm (hne c (.inl hc)))]; exact h.at_ c (by simp [hc])
    · exact List.getElem?_set_self hi
    · rw [List.getElem?_set_ne (Ne.symm (hne c (.inr hc)))]; exact h.at_ c (by simp [hc])
  · have := h.nd; simpa using this
  · intro j q e
    have hj : j ≠ i := by rintro rfl; exact hout _ _ e (by simp)
    rw [List.getElem?_set_ne (Ne.symm hj)]; exact h.base _ _ e
  · intro j q e; have := h.out j q e; simpa using this
theorem Own.new {l : List (Nat × O)} {o : O} (h : Own B H l) : Own B (H ++ [o]) ((H.length, o) :: l) := by
  have hlt : ∀ c ∈ l, c.1 < H.length := fun c hc => lt_of_get (h.at_ c hc)
  refine ⟨?_, ?_, ?_, ?_⟩
  · intro c hc
    rcases List.mem_cons.mp hc with rfl | hc
    · simp
    · rw [List.getElem?_append_left (hlt c hc)]; exact h.at_ c hc
  · rw [List.map_cons, List.nodup_cons]
    refine ⟨fun hm => ?_, h.nd⟩
    obtain ⟨c, hc, e⟩ := List.mem_map.mp hm
    have := hlt c hc
    dsimp only at e; omega
  · intro j q e
    have := h.base j q e
    rw [List.getElem?_append_left (lt_of_get this)]; exact this
  · intro j q e
    rw [List.map_cons, List.mem_cons, not_or]
    refine ⟨?_, h.out j q e⟩
    have := lt_of_get (h.base j q e)
    dsimp only; omega
theorem Own.perm {l l' : List (Nat × O)} (h : Own B H l) (p : l.Perm l') : Own B H l' := ⟨fun c hc => h.at_ c (p.mem_iff.mpr hc), (p.map _).nodup_iff.mp h.nd, h.base, fun i o e hm => h.out i o e ((p.map _).mem_iff.mpr hm)⟩
theorem Own.tail {c : Nat × O} {l : List (Nat × O)} (h : Own B H (c :: l)) : Own B H l := ⟨fun d hd => h.at_ d (List.mem_cons_of_mem _ hd), (List.nodup_cons.mp h.nd).2, h.base, fun i o e hm => h.out i o e (List.mem_cons_of_mem _ hm)⟩
theorem Own.upd0 {l : List (Nat × O)} {i : Nat} {o o' : O} (h : Own B H ((i, o) :: l)) : Own B (H.set i o') ((i, o') :: l) := Own.upd (l₁ := []) h

set_option genSizeOf false in
set_option genInjectivity false in
structure Blk where
  word : List Nat
  base : Nat
  body : Bool
  section_ : List Nat
  label : Bool
noncomputable def blkO (b : Blk) : O := .inst 182 [("word", .str b.word), ("base", .int b.base), ("body", .bool b.body), ("section", .str b.section_), ("label", .bool b.label)]
set_option genSizeOf false in
set_option genInjectivity false in
structure FS where
  rows : List (List Nat)
  pieces : List (List Nat)
  before : Option (List Nat × List Nat)
  depth : Nat
  top : Blk
  under : List Blk
  ob : Nat
  arrays : Nat
  naming : Bool
  heading : Bool
  unary : Bool
  starred : Bool
noncomputable def fsL (vb : V) (r p bl : Nat) (st : FS) : List (String × V) := [("rows", .ref r), ("pieces", .ref p), ("before", vb), ("depth", .int st.depth), ("blocks", .ref bl), ("open_brackets", .int st.ob), ("arrays", .int st.arrays),
  ("naming", .bool st.naming), ("heading", .bool st.heading), ("fields", .bool false), ("base_open", .bool false), ("unary", .bool st.unary), ("starred", .bool st.starred), ("broken", .bool false), ("after_remark", .bool false)]
noncomputable def BefR (B : Nat → Option O) (vb : V) : Option (List Nat × List Nat) → Prop
  | none => vb = .none
  | some (k, t) => ∃ i a, vb = .ref i ∧ B i = some (itemO k t a)
noncomputable def cellsF (f r p bl i : Nat) (uc : List (Nat × Blk)) (fs : List (String × V)) (rows pieces : List (List Nat)) (top : Blk) : List (Nat × O) :=
  (f, .inst 357 fs) :: (r, .list (rows.map V.str)) :: (p, .list (pieces.map V.str)) :: (bl, .list ((uc.map fun c => V.ref c.1).reverse ++ [V.ref i])) :: (i, blkO top) :: uc.map fun c => (c.1, blkO c.2)
noncomputable def FmtAt (B : Nat → Option O) (f i : Nat) (H : List O) (st : FS) : Prop :=
  ∃ r p bl uc vb, BefR B vb st.before ∧ st.under = uc.map (·.2) ∧ Own B H (cellsF f r p bl i uc (fsL vb r p bl st) st.rows st.pieces st.top)
theorem Own.newEnd {l : List (Nat × O)} {o : O} (h : Own B H l) : Own B (H ++ [o]) (l ++ [(H.length, o)]) := h.new.perm (List.perm_append_singleton _ _).symm
theorem Own.nil (hb : ∀ i o, B i = some o → H[i]? = some o) : Own B H [] := ⟨fun c hc => (nomatch hc), List.nodup_nil, hb, fun _ _ _ hm => (nomatch hm)⟩
theorem ok_selfset {value : Expr} {x : String} {f : Nat} {ps p' pos : Pos} {Q : Fl → Rho → List O → Prop} (hs : ρ.lookup "self" = some (.ref f))
    (h : EvalOk W n env value ρ H fun v H1 => ∃ (B : Nat → Option O) (fs : List (String × V)) (l : List (Nat × O)), Own B H1 ((f, .inst 357 fs) :: l) ∧ NoAttr 357 x ∧ fs.length ≤ 900 ∧
      ∀ H2, Own B H2 ((f, .inst 357 (upd fs x v)) :: l) → H2.length = H1.length → Q .next ρ H2)
    (hw : ∀ env, swapsWith value (some (.Attribute (.Name (Str.ofString "self") ps) (Str.ofString x) p')) pos.line env = pure false := by intro _; rfl) :
    ExecOk W n env (.Assign [.Attribute (.Name (Str.ofString "self") ps) (Str.ofString x) p'] value pos) ρ H Q := by
  refine ok_assign_attr (ok_mono h ?_) hw
  rintro v H1 ⟨B, fs, l, h1, h2, h3, h4⟩
  refine ok_name hs ?_
  exact ⟨f, 357, fs, rfl, h1.at0, cls_fmt, h2, h3, h4 _ h1.upd0 (by simp)⟩
end
section
variable {W : W0} {n : Nat} {H : List O} {Q : V → List O → Prop}
theorem c_block_init {w b : V} (hn : 1 ≤ n) (h : Q .none (H ++ [.inst 182 [("word", w), ("base", b), ("body", .bool false), ("section", .str []), ("label", .bool false)]])) : CallOk W n (.ref 179) [.ref H.length, w, b] (H ++ [.inst 182 []]) Q := by
  refine call_def' D_Block_init hn rfl (fun env ge hsc => ?_)
  refine oks_seq ?_
  refine ok_assign_attr ?_
  walk_at "go"
  refine ⟨_, _, _, rfl, get_last, cls_block, N182_word, by simp, ?_⟩
  rw [set_last]
  refine seq_next (oks_seq (ok_assign_attr ?_))
  walk_at "go"
  refine ⟨_, _, _, rfl, get_last, cls_block, N182_base, by (show List.length [_] ≤ _); simp, ?_⟩
  rw [set_last]
  refine seq_next (oks_seq (ok_assign_attr ?_))
  walk_at "go"
  refine ⟨_, _, _, rfl, get_last, cls_block, N182_body, by (show List.length [_, _] ≤ _); simp, ?_⟩
  rw [set_last]
  refine seq_next (oks_seq (ok_assign_attr ?_))
  walk_at "go"
  refine ⟨_, _, _, rfl, get_last, cls_block, N182_section, by (show List.length [_, _, _] ≤ _); simp, ?_⟩
  rw [set_last]
  refine seq_next (oks_seq (ok_assign_attr ?_))
  walk_at "go"
  refine ⟨_, _, _, rfl, get_last, cls_block, N182_label, by (show List.length [_, _, _, _] ≤ _); simp, ?_⟩
  rw [set_last]
  walk_at "go"
  exact h
theorem c_block {w : List Nat} {b : Nat} (hn : 2 ≤ n) (h : Q (.ref H.length) (H ++ [blkO ⟨w, b, false, [], false⟩])) : CallOk W n (.ref 182) [.str w, .int b] H Q := by
  obtain ⟨m, rfl⟩ : ∃ m, n = m + 1 := ⟨n - 1, by walk_at "om"⟩
  refine call_new cls_block M_Block_init.find (fun P => by kernel_rfl) ?_
  exact c_block_init (by walk_at "om") ⟨rfl, h⟩
end
end
section
section
variable {W : W0} {n : Nat} {H : List O} {Q : V → List O → Prop} {B : Nat → Option O}
noncomputable abbrev Bef := Option (List Nat × List Nat)
noncomputable def BefH (H : List O) (vb : V) : Bef → Prop
  | none => vb = .none
  | some (k, t) => ∃ i a, vb = .ref i ∧ H[i]? = some (itemO k t a)
noncomputable def isUn (b : Bef) (t : List Nat) : Bool :=
  if t != cd "+" && t != cd "-" then false else match b with
    | none => true
    | some (k, bt) => if k == cd "word" then true else k == cd "sign" && !([")", "]", "}", "^"].map cd).contains bt
theorem c_is_unary {vb : V} {b : Bef} {t : List Nat} (hn : 1 ≤ n) (hb : BefH H vb b) (h : Q (.bool (isUn b t)) H) : CallOk W n (.ref 193) [vb, .str t] H Q := by
  refine call_def' D_is_unary hn rfl (fun env ge hsc => ?_)
  unfold isUn at h
  have k1 : (t != cd "+" && t != cd "-") = false → ExecsOk W (n - 1) env ((bS (tS 23)).drop 1) [("before", vb), ("sign", .str t)] H (fun fl _ H' => Q fl.val H') := by
    intro h0
    rw [h0, if_neg (by decide)] at h
    refine oks_seq ?_
    match b, hb, h with
    | none, hb, h =>
      subst hb
      walk_at "go"
      exact h
    | some (k, bt), hb, h =>
      obtain ⟨i, a, rfl, hi⟩ := hb
      walk_at "go"
      · have h2 : (k == cd "word") = false := by assumption
        have h3 : (k == cd "sign") = true := by assumption
        simp only [h2, h3, Bool.false_eq_true, if_false, Bool.true_and] at h
        exact h
      · have h2 : (k == cd "word") = false := by assumption
        have h3 : (k == cd "sign") = false := by assumption
        simp only [h2, h3, Bool.false_eq_true, if_false, Bool.false_and] at h
        exact h
      · have h2 : (k == cd "word") = true := by assumption
        simp only [h2, if_true] at h
        exact h
  refine oks_seq ?_
  walk_at "g1"
  · have h1 : (!(t == cd "+")) = true := by assumption
    have h2 : (!(t == cd "-")) = true := by assumption
    rw [show (t != cd "+" && t != cd "-") = true by unfold bne; rw [h1, h2]; rfl, if_pos rfl] at h
    exact h
  · have h2 : (!(t == cd "-")) = false := by assumption
    exact k1 (by unfold bne; rw [h2, Bool.and_false])
  · have h1 : (!(t == cd "+")) = false := by assumption
    exact k1 (by unfold bne; rw [h1, Bool.false_and])
noncomputable def wJ (bk bt t : List Nat) : Bool := if bt == cd "(" && t.take 1 == cd "*" then true else if t == cd "." || t == cd ".." then (bt == cd "." || (bk == cd "number" && t == cd ".")) else false
theorem c_would_join {i j a a' : Nat} {bk bt k t : List Nat} (hn : 1 ≤ n) (hi : H[i]? = some (itemO bk bt a)) (hj : H[j]? = some (itemO k t a')) (ht : t ≠ []) (h : Q (.bool (wJ bk bt t)) H) : CallOk W n (.ref 200) [.ref i, .ref j] H Q := by
  refine call_def' D_would_join hn rfl (fun env ge hsc => ?_)
  unfold wJ at h
  have k1 : (bt == cd "(" && t.take 1 == cd "*") = false → ExecsOk W (n - 1) env ((bS (tS 24)).drop 1) [("before", .ref i), ("item", .ref j)] H (fun fl _ H' => Q fl.val H') := by
    intro h0
    rw [h0, if_neg (by decide)] at h
    have k2 : ∀ v, (v = (bt == cd "." || (bk == cd "number" && t == cd "."))) → (t == cd "." || t == cd "..") = true → Q (.bool v) H := by
      rintro v rfl h2
      rw [if_pos h2] at h; exact h
    refine oks_seq ?_
    walk_at "go"
    · have a1 : (t == cd ".") = false := by assumption
      have a2 : (t == cd "..") = false := by assumption
      rw [a1, a2] at h
      exact h
    all_goals
      have a0 : (t == cd "." || t == cd "..") = true := by
        first
          | (have a1 : (t == cd ".") = true := by assumption
             rw [a1]; rfl)
          | (have a2 : (t == cd "..") = true := by assumption
             rw [a2, Bool.or_true])
      refine k2 _ ?_ a0
      first
        | (have b1 : (bt == cd ".") = true := by assumption
           rw [b1]; rfl)
        | (have b1 : (bt == cd ".") = false := by assumption
           have b2 : (bk == cd "number") = true := by assumption
           rw [b1, b2]; rfl)
        | (have b1 : (bt == cd ".") = false := by assumption
           have b2 : (bk == cd "number") = false := by assumption
           rw [b1, b2]; rfl)
  refine oks_seq ?_
  walk_at "g1"
  · have h1 : (bt == cd "(") = true := by assumption
    cases t with
    | nil => exact absurd rfl ht
    | cons c r =>
      refine sub_str (c := c) ⟨by decide, by decide⟩ rfl ?_
      walk_at "g1"
      · have h2 : ([c] == cd "*") = true := by assumption
        rw [show (bt == cd "(" && (c :: r).take 1 == cd "*") = true by rw [h1]; exact h2, if_pos rfl] at h
        exact h
      · have h2 : ([c] == cd "*") = false := by assumption
        exact k1 (by rw [h1]; exact h2)
  · have h1 : (bt == cd "(") = false := by assumption
    exact k1 (by rw [h1, Bool.false_and])
noncomputable def isCl (bk bt k t : List Nat) : Bool :=
  if ([";", ",", ")", "]", "}", ".", "^", "..", ":"].map cd).contains t && k == cd "sign" then true
  else if (["(", "[", "{", ".", "~", ".."].map cd).contains bt && bk == cd "sign" then true
  else if (["(", "["].map cd).contains t then bk == cd "name" || ([")", "]", "^"].map cd).contains bt else false
theorem c_is_close {i j a a' : Nat} {bk bt k t : List Nat} (hn : 1 ≤ n) (hi : H[i]? = some (itemO bk bt a)) (hj : H[j]? = some (itemO k t a')) (h : Q (.bool (isCl bk bt k t)) H) : CallOk W n (.ref 207) [.ref i, .ref j] H Q := by
  refine call_def' D_is_close hn rfl (fun env ge hsc => ?_)
  have k2 : Q (.bool (if (["(", "["].map cd).contains t then bk == cd "name" || ([")", "]", "^"].map cd).contains bt else false)) H → ExecsOk W (n - 1) env ((bS (tS 25)).drop 2) [("before", .ref i), ("item", .ref j)] H (fun fl _ H' => Q fl.val H') := by
    intro h
    refine oks_seq ?_
    walk_at "go"
    · have h1 : (["(", "["].map cd).contains t = true := by assumption
      have h2 : (bk == cd "name") = false := by assumption
      rw [if_pos h1, h2] at h
      exact h
    · have h1 : (["(", "["].map cd).contains t = true := by assumption
      have h2 : (bk == cd "name") = true := by assumption
      rw [if_pos h1, h2] at h
      exact h
    · have h1 : (["(", "["].map cd).contains t = false := by assumption
      rw [if_neg (by rw [h1]; decide)] at h
      exact h
  have k1 : Q (.bool (if (["(", "[", "{", ".", "~", ".."].map cd).contains bt && bk == cd "sign" then true else if (["(", "["].map cd).contains t then bk == cd "name" || ([")", "]", "^"].map cd).contains bt else false)) H → ExecsOk W (n - 1) env ((bS (tS 25)).drop 1) [("before", .ref i), ("item", .ref j)] H (fun fl _ H' => Q fl.val H') := by
    intro h
    refine oks_seq ?_
    walk_at "g1"
    · have h1 : (["(", "[", "{", ".", "~", ".."].map cd).contains bt = true := by assumption
      have h2 : (bk == cd "sign") = true := by assumption
      rw [h1, h2] at h
      exact h
    · have h2 : (bk == cd "sign") = false := by assumption
      rw [h2, Bool.and_false] at h
      exact k2 h
    · have h1 : (["(", "[", "{", ".", "~", ".."].map cd).contains bt = false := by assumption
      rw [h1] at h
      exact k2 h
  unfold isCl at h
  refine oks_seq ?_
  walk_at "g1"
  · have h1 : ([";", ",", ")", "]", "}", ".", "^", "..", ":"].map cd).contains t = true := by assumption
    have h2 : (k == cd "sign") = true := by assumption
    rw [h1, h2] at h
    exact h
  · have h2 : (k == cd "sign") = false := by assumption
    rw [h2, Bool.and_false] at h
    exact k1 h
  · have h1 : ([";", ",", ")", "]", "}", ".", "^", "..", ":"].map cd).contains t = false := by assumption
    rw [h1] at h
    exact k1 h
end
end
section
section
variable {W : W0} {n : Nat} {env : Env} {ρ : Rho} {H : List O} {Q : V → List O → Prop}
theorem ok_step {pos : Pos} (hx : env.kindOf (Str.ofString "STEP") = some .globalImplicit) (h : Q (.int 2) H) : EvalOk W n env (.Name (Str.ofString "STEP") pos) ρ H Q := by
  intro A G μ s hA hs
  obtain ⟨t, ht⟩ : ∃ t, nsIn W.K mainGlobals (Str.ofString "STEP") = some (some (.int 2 t)) := ⟨395, by kernel_rfl⟩
  exact name_global hs ht (postV hs vr_int h) hx (by kernel_rfl)
theorem pyGet_last {α : Type} (l : List α) (v : α) : pyGet (l ++ [v]) (-1) = some v := by
  unfold pyGet
  rw [if_neg (by decide), if_pos (by simp; omega)]
  have : ((-1 : Int) + ((l ++ [v]).length : Nat)).toNat = l.length := by simp; omega
  rw [this]; simp
noncomputable def spaces (k : Nat) : List Nat := List.replicate k 32
theorem spaces_eq (d : Nat) : (List.replicate (2 * (d : Int)).toNat (cd " ")).flatten = spaces (2 * d) := by
  have : (2 * (d : Int)).toNat = 2 * d := by walk_at "om"
  rw [this]
  show (List.replicate (2 * d) [32]).flatten = _
  unfold spaces
  induction (2 * d) with
  | zero => rfl
  | succ k ih => rw [List.replicate_succ, List.flatten_cons, ih, List.replicate_succ]; rfl
theorem join_empty (ls : List (List Nat)) : joinL (cd "") ls = ls.flatten := by
  cases ls with
  | nil => rfl
  | cons x r => show x ++ r.flatMap _ = x ++ r.flatten; congr 1; rw [List.flatten_eq_flatMap]; rfl
end
section
variable {W : W0} {n : Nat} {H : List O} {Q : V → List O → Prop} {B : Nat → Option O} {f r p bl i : Nat} {uc : List (Nat × Blk)} {fs : List (String × V)} {rows pieces : List (List Nat)} {top : Blk} {st : FS}
theorem Own.c1 (h : Own B H (cellsF f r p bl i uc fs rows pieces top)) : H[r]? = some (.list (rows.map V.str)) := h.tail.at0
theorem Own.c2 (h : Own B H (cellsF f r p bl i uc fs rows pieces top)) : H[p]? = some (.list (pieces.map V.str)) := h.tail.tail.at0
theorem Own.c3 (h : Own B H (cellsF f r p bl i uc fs rows pieces top)) : H[bl]? = some (.list ((uc.map fun c => V.ref c.1).reverse ++ [V.ref i])) := h.tail.tail.tail.at0
theorem Own.c4 (h : Own B H (cellsF f r p bl i uc fs rows pieces top)) : H[i]? = some (blkO top) := h.tail.tail.tail.tail.at0
set_option genSizeOf false in
structure Small (st : FS) (k : Nat) : Prop where
  rows : st.rows.length ≤ k
  pieces : st.pieces.length ≤ k
  sum : (st.pieces.map List.length).sum ≤ 32 * k
  depth : st.depth ≤ k
  under : st.under.length ≤ k
  base : st.top.base ≤ k
  bases : ∀ b ∈ st.under, b.base ≤ k
noncomputable def lim : Nat := 100000
theorem c_top (hn : 1 ≤ n) (ho : Own B H (cellsF f r p bl i uc fs rows pieces top)) (hl : fs.lookup "blocks" = some (.ref bl)) (h : Q (.ref i) H) : CallOk W n (.ref 228) [.ref f] H Q := by
  refine call_def' D_Formatter_top hn rfl (fun env ge hsc => ?_)
  refine oks_seq ?_
  walk_at "go"
  exact sub_ref ho.c3 (by decide) (pyGet_last _ _) h
noncomputable def usual (b : Blk) : Nat :=
  if b.word == [] then 0
  else if (["MODULE", "PROCEDURE"].map cd).contains b.word then (if !b.body && b.section_ != [] then b.base + 2 else b.base + 1)
  else if b.word == cd "CASE" && !b.label then b.base + 2 else b.base + 1
theorem c_usual (hn2 : 2 ≤ n) (ho : Own B H (cellsF f r p bl i uc fs rows pieces top)) (hl : fs.lookup "blocks" = some (.ref bl)) (hb : fs.lookup "broken" = some (.bool false)) (hn : fs.lookup "top" = none) (h : Q (.int (usual top : Nat)) H) : CallOk W n (.ref 235) [.ref f] H Q := by
  refine call_def' D_Formatter_usual_depth (by walk_at "om") rfl (fun env ge hsc => ?_)
  have hi := ho.c4
  have fin : ∀ (d : Nat), usual top = d → ExecsOk W (n - 1) env ((bS (mS 26 2)).drop 3) [("self", .ref f), ("block", .ref i), ("depth", .int d)] H (fun fl _ H' => Q fl.val H') := by
    rintro d rfl
    refine oks_seq ?_
    walk_at "go"
    exact h
  unfold usual at fin
  refine oks_seq ?_
  walk_at "g1"
  refine c_top (by walk_at "om") ho hl ?_
  refine seq_next (oks_seq ?_)
  walk_at "g1"
  refine seq_next (oks_seq (ok_if (test_as (top.word == []) (by walk_at "tb") ⟨fun e1 => ?_, fun e1 => ?_⟩)))
  · refine oks_seq ?_
    walk_at "g1"
    walk_at "ge"
    exact fin 0 (by rw [if_pos e1])
  · refine oks_seq (ok_if (test_as ((["MODULE", "PROCEDURE"].map cd).contains top.word) (by walk_at "tb") ⟨fun e2 => ?_, fun e2 => ?_⟩))
    · refine oks_seq (ok_if (test_as (!top.body && top.section_ != []) (by walk_at "tb") ⟨fun e3 => ?_, fun e3 => ?_⟩))
      · refine oks_seq ?_
        walk_at "g1"
        walk_at "ge"
        exact fin (top.base + 2) (by rw [e1, e2, e3]; rfl)
      · walk_at "ge"
        exact fin (top.base + 1) (by rw [e1, e2, e3]; rfl)
    · refine oks_seq (ok_if (test_as (top.word == cd "CASE" && !top.label) (by walk_at "tb") ⟨fun e3 => ?_, fun e3 => ?_⟩))
      · refine oks_seq ?_
        walk_at "g1"
        walk_at "ge"
        exact fin (top.base + 2) (by rw [e1, e2, e3]; rfl)
      · walk_at "ge"
        exact fin (top.base + 1) (by rw [e1, e2, e3]; rfl)
end
end
section
theorem le900 {l : List (String × V)} (h : Nat.ble l.length 900 = true) : l.length ≤ 900 := Nat.le_of_ble_eq_true h
theorem flat_len (ls : List (List Nat)) : ls.flatten.length = (ls.map List.length).sum := by
  induction ls with
  | nil => rfl
  | cons x r ih => simp [ih]
section
variable {W : W0} {n : Nat} {H : List O} {Q : V → List O → Prop} {B : Nat → Option O} {f r p bl i : Nat} {uc : List (Nat × Blk)} {fs : List (String × V)} {rows pieces : List (List Nat)} {top : Blk} {st : FS} {k : Nat}
theorem Own.u1 {rows' : List (List Nat)} (h : Own B H (cellsF f r p bl i uc fs rows pieces top)) : Own B (H.set r (.list (rows'.map V.str))) (cellsF f r p bl i uc fs rows' pieces top) := Own.upd (l₁ := [(f, _)]) h
theorem Own.u2 {pieces' : List (List Nat)} (h : Own B H (cellsF f r p bl i uc fs rows pieces top)) : Own B (H.set p (.list (pieces'.map V.str))) (cellsF f r p bl i uc fs rows pieces' top) := Own.upd (l₁ := [(f, _), (r, _)]) h
theorem Own.u4 {top' : Blk} (h : Own B H (cellsF f r p bl i uc fs rows pieces top)) : Own B (H.set i (blkO top')) (cellsF f r p bl i uc fs rows pieces top') := Own.upd (l₁ := [(f, _), (r, _), (p, _), (bl, _)]) h
/-- a new list of pieces is at hand -/
theorem Own.np (h : Own B H (cellsF f r p bl i uc fs rows pieces top)) : Own B (H ++ [.list []]) ((f, .inst 357 fs) :: (r, .list (rows.map V.str)) :: (H.length, .list (([] : List (List Nat)).map V.str)) :: (bl, .list ((uc.map fun c => V.ref c.1).reverse ++ [V.ref i])) :: (i, blkO top) :: uc.map fun c => (c.1, blkO c.2)) := by
  have h1 := h.new (o := .list [])
  -- drop p
  have h2 : Own B (H ++ [.list []]) ((p, .list (pieces.map V.str)) :: (f, .inst 357 fs) :: (r, .list (rows.map V.str)) :: (H.length, .list []) :: (bl, .list ((uc.map fun c => V.ref c.1).reverse ++ [V.ref i])) :: (i, blkO top) :: uc.map fun c => (c.1, blkO c.2)) := by
    refine h1.perm ?_
    refine ((List.Perm.swap _ _ _).trans (.cons _ ((List.Perm.swap _ _ _).trans (.cons _ (List.Perm.swap _ _ _))))).trans ?_
    exact (List.Perm.cons _ (List.Perm.swap _ _ _)).trans (List.Perm.swap _ _ _)
  exact h2.tail
theorem fmt_of {vb : V} {st' : FS} (ho : Own B H (cellsF f r p bl i uc fs rows pieces top)) (hb : BefR B vb st'.before) (hu : st'.under = uc.map (·.2)) (e1 : fs = fsL vb r p bl st') (e2 : rows = st'.rows) (e3 : pieces = st'.pieces) (e4 : top = st'.top) : FmtAt B f i H st' := by
  subst e1; subst e2; subst e3; subst e4
  exact ⟨r, p, bl, uc, vb, hb, hu, ho⟩
noncomputable def endRow (st : FS) : FS := { st with
  rows := if st.pieces = [] then st.rows else st.rows ++ [spaces (2 * st.depth) ++ st.pieces.flatten]
  pieces := [], before := none, unary := false, starred := false }
theorem Small.endRow (h : Small st k) : Small (endRow st) (k + 1) where
  rows := by
    have := h.rows
    show (if st.pieces = [] then st.rows else _).length ≤ _
    split
    · omega
    · rw [List.length_append]; simp; omega
  pieces := Nat.zero_le _
  sum := Nat.zero_le _
  depth := Nat.le_succ_of_le h.depth
  under := Nat.le_succ_of_le h.under
  base := Nat.le_succ_of_le h.base
  bases := fun b hb => Nat.le_succ_of_le (h.bases b hb)
theorem lim_size : lim ≤ sizeLine := by decide
theorem c_end_row (hn : 1 ≤ n) (hf : FmtAt B f i H st) (hs : Small st k) (hk : k ≤ lim) (h : ∀ H', FmtAt B f i H' (endRow st) → Q .none H') : CallOk W n (.ref 242) [.ref f] H Q := by
  obtain ⟨r, p, bl, uc, vb, hb, hu, ho⟩ := hf
  refine call_def' D_Formatter_end_row (by walk_at "om") rfl (fun env ge hsc => ?_)
  have key : ∀ (H1 : List O) (p' : Nat) (rows' : List (List Nat)), Own B H1 (cellsF f r p' bl i uc (fsL vb r p' bl st) rows' [] st.top) → (endRow st).rows = rows' → ExecsOk W (n - 1) env ((bS (mS 26 3)).drop 1) [("self", .ref f)] H1 (fun fl _ H' => Q fl.val H') := by
    rintro H1 p' rows' ho rfl
    refine oks_seq ?_
    walk_at "go"
    rename_i ho3 _
    exact h _ (fmt_of (vb := .none) ho3 rfl hu rfl rfl rfl rfl)
  refine oks_seq ?_
  have hrl : st.rows.length ≤ sizeLine := Nat.le_trans (Nat.le_trans hs.rows hk) lim_size
  have hpl : st.pieces.length ≤ sizeLine := Nat.le_trans (Nat.le_trans hs.pieces hk) lim_size
  have hdep := hs.depth
  have hsum := hs.sum
  have hp := hs.pieces
  have hlim : lim = 100000 := rfl
  walk_at "g1"
  refine call_len_ref ho.c2 (by simpa using hpl) ?_
  walk_at "g1"
  · rename_i hc
    have hne : st.pieces ≠ [] := by intro e; rw [e] at hc; simp at hc
    refine ⟨r, rfl, ⟨_, ho.c1⟩, ?_⟩
    walk_at "go"
    refine op_mul_int (by decide) ?_
    refine op_mul_str (by simp [cd]; omega) (by walk_at "om") (by walk_at "om") ?_
    rw [spaces_eq]
    walk_at "go"
    refine ⟨_, rfl, ?_⟩
    walk_at "go"
    refine ⟨st.pieces, .inr ⟨p, rfl, ho.c2⟩, by decide, by walk_at "om", ?_⟩
    rw [join_empty]
    refine op_add_str (by rw [flat_len, sizeLine_eq]; simp [spaces]; omega) ?_
    refine ⟨_, ho.c1, by simpa using hrl, ?_⟩
    have ho1 := ho.u1 (rows' := st.rows ++ [spaces (2 * st.depth) ++ st.pieces.flatten])
    rw [List.map_append] at ho1
    refine seq_next (oks_seq ?_)
    walk_at "g1"
    refine ⟨B, _, _, ho1.np, N357_pieces, le900 rfl, fun H2 ho2 _ => ?_⟩
    refine seq_next (oks_seq ?_)
    walk_at "g1"
    rename_i ho3 _
    walk_at "ge"
    exact key _ _ _ ho3 (by unfold endRow; rw [if_neg hne])
  · have hc : decide ((((st.pieces.map V.str).length : Nat) : Int) > 0) = false := by assumption
    have he : st.pieces = [] := by
      cases hh : st.pieces with
      | nil => rfl
      | cons a b => rw [hh] at hc; simp at hc
    walk_at "ge"
    rw [he] at ho
    exact key _ _ _ ho (by unfold endRow; rw [if_pos he])

noncomputable def fs0 : FS := ⟨[], [], none, 0, ⟨[], 0, false, [], false⟩, [], 0, 0, false, false, false, false⟩
theorem c_fmt_init (hn : 3 ≤ n) (h : ∀ H' i, FmtAt (fun i => H[i]?) H.length i H' fs0 → H.length < H'.length → Q .none H') : CallOk W n (.ref 221) [.ref H.length] (H ++ [.inst 357 []]) Q := by
  refine call_def' D_Formatter_init (by walk_at "om") rfl (fun env ge hsc => ?_)
  have ho : Own (fun i => H[i]?) (H ++ [.inst 357 []]) [(H.length, .inst 357 [])] := (Own.nil (B := fun i => H[i]?) (H := H) (fun i o e => e)).new
  refine oks_seq ?_
  refine ok_selfset (by rfl) ?_
  walk_at "go"
  have h1 := ho.newEnd (o := .list [])
  refine ⟨_, _, _, h1, N357_rows, le900 rfl, fun H2 h2 l2 => ?_⟩
  refine seq_next (oks_seq (ok_selfset (by rfl) ?_))
  walk_at "go"
  have h3 := h2.newEnd (o := .list [])
  refine ⟨_, _, _, h3, N357_pieces, le900 rfl, fun H3 h4 l3 => ?_⟩
  refine seq_next (oks_seq (ok_selfset (by rfl) ?_))
  walk_at "go"
  refine c_block (b := 0) (by walk_at "om") ?_
  rename_i H4 h5 l4 H5 h6 l5
  have h7 := h6.newEnd (o := blkO ⟨[], 0, false, [], false⟩)
  walk_at "go"
  have h8 := h7.newEnd (o := .list [.ref H5.length])
  refine ⟨_, _, _, h8, N357_blocks, le900 rfl, fun H6 h9 l6 => ?_⟩
  walk_at "go"
  rename_i h10 l10
  have h11 := h10.perm (l' := cellsF H.length _ _ _ _ [] _ [] [] ⟨[], 0, false, [], false⟩) (.cons _ (.cons _ (.cons _ (.swap _ _ _))))
  refine h _ _ (fmt_of (vb := .none) h11 rfl rfl rfl rfl rfl rfl) ?_
  exact lt_of_get h11.at0
theorem c_fmt (hn : 4 ≤ n) (h : ∀ H' i, FmtAt (fun i => H[i]?) H.length i H' fs0 → H.length < H'.length → Q (.ref H.length) H') : CallOk W n (.ref 357) [] H Q := by
  obtain ⟨m, rfl⟩ : ∃ m, n = m + 1 := ⟨n - 1, by walk_at "om"⟩
  refine call_new cls_fmt M_Formatter_init.find (fun P => by kernel_rfl) ?_
  exact c_fmt_init (by walk_at "om") fun H' i h1 h2 => ⟨rfl, h H' i h1 h2⟩
end
end
section
section
variable {W : W0} {n : Nat} {H : List O} {Q : V → List O → Prop} {B : Nat → Option O} {f r p bl i j a : Nat} {uc : List (Nat × Blk)} {fs : List (String × V)} {rows pieces : List (List Nat)} {top : Blk} {st : FS} {k : Nat} {vb : V} {kd t : List Nat}
theorem bef_h {cs : List (Nat × O)} (ho : Own B H cs) : ∀ {b : Bef}, BefR B vb b → BefH H vb b
  | none, h => h
  | some (k, t), ⟨i, a, e, h⟩ => ⟨i, a, e, ho.base _ _ h⟩
noncomputable def tight (st : FS) (kd t : List Nat) : Bool := match st.before with
  | none => false
  | some (bk, bt) => if bk == cd "remark" then false else if wJ bk bt t then false else if st.unary || (t == cd "*" && st.naming) then true else if st.starred && t == cd "(" then true else isCl bk bt kd t
theorem c_is_tight (hn : 2 ≤ n) (hb : BefR B vb st.before) (ho : Own B H (cellsF f r p bl i uc (fsL vb r p bl st) rows pieces top)) (hj : B j = some (itemO kd t a)) (ht : t ≠ []) (h : Q (.bool (tight st kd t)) H) : CallOk W n (.ref 263) [.ref f, .ref j] H Q := by
  refine call_def' D_Formatter_is_tight (by walk_at "om") rfl (fun env ge hsc => ?_)
  refine oks_seq ?_
  have hj' := ho.base _ _ hj
  cases hbb : st.before with
  | none =>
    rw [hbb] at hb
    subst hb
    walk_at "go"
    refine q_of h (congrArg V.bool ?_); unfold tight; rw [hbb]
  | some kt =>
    obtain ⟨bk, bt⟩ := kt
    rw [hbb] at hb
    obtain ⟨bi, ba, rfl, hbi⟩ := hb
    have hbi' := ho.base _ _ hbi
    walk_at "go"
    · rename_i hc1
      have hc1' : (bk == cd "remark") = false := hc1
      refine c_would_join (by walk_at "om") hbi' hj' ht ⟨_, rfl, fun hw => ?_, fun hw => ?_⟩
      · walk_at "go"
        have e : tight st kd t = false := by unfold tight; rw [hbb]; simp only [hc1', hw, Bool.false_eq_true, if_false, if_true]
        rw [e] at h; exact h
      · have e : tight st kd t = (if st.unary || (t == cd "*" && st.naming) then true else if st.starred && t == cd "(" then true else isCl bk bt kd t) := by unfold tight; rw [hbb]; simp only [hc1', hw, Bool.false_eq_true, if_false]
        rw [e] at h
        walk_at "ge"
        refine oks_seq (ok_if (test_as (st.unary || (t == cd "*" && st.naming)) (by walk_at "tb") ⟨fun hu => ?_, fun hu => ?_⟩))
        · walk_at "go"
          rw [if_pos hu] at h; exact h
        · rw [hu, if_neg (by decide)] at h
          walk_at "ge"
          refine oks_seq (ok_if (test_as (st.starred && t == cd "(") (by walk_at "tb") ⟨fun hu => ?_, fun hu => ?_⟩))
          · walk_at "go"
            rw [if_pos hu] at h; exact h
          · rw [hu, if_neg (by decide)] at h
            walk_at "go"
            exact c_is_close (by walk_at "om") hbi' hj' h
    · rename_i hc; refine q_of h (congrArg V.bool ?_); unfold tight; rw [hbb]; simp only [hc, if_true]

noncomputable def writeS (st : FS) (kd t : List Nat) : FS := { st with
  depth := if st.pieces = [] ∧ st.before = none then usual st.top else st.depth
  unary := isUn st.before t
  starred := t == cd "*" && st.naming
  pieces := st.pieces ++ [(if st.pieces = [] then [] else if tight st kd t then [] else [32]) ++ t]
  before := some (kd, t) }
theorem usual_le (b : Blk) : usual b ≤ b.base + 2 := by
  unfold usual
  split
  · omega
  · split
    · split <;> omega
    · split <;> omega
theorem Small.writeS (h : Small st k) (ht : t.length ≤ 31) : Small (writeS st kd t) (k + 2) where
  rows := Nat.le_trans h.rows (by walk_at "om")
  pieces := by
    have := h.pieces
    show (st.pieces ++ [_]).length ≤ _
    simp; omega
  sum := by
    have := h.sum
    show ((st.pieces ++ [_]).map List.length).sum ≤ _
    rw [List.map_append, List.sum_append]
    have : ((if st.pieces = [] then [] else if tight st kd t then [] else [32]) ++ t : List Nat).length ≤ 32 := by
      rw [List.length_append]
      split
      · simp; omega
      · split <;> simp <;> omega
    simp only [List.map_cons, List.map_nil, List.sum_cons, List.sum_nil]
    omega
  depth := by
    have h1 := h.depth; have h2 := h.base; have h3 := usual_le st.top
    show (if _ then _ else _) ≤ _
    split <;> omega
  under := Nat.le_trans h.under (by walk_at "om")
  base := Nat.le_trans h.base (by walk_at "om")
  bases := fun b hb => Nat.le_trans (h.bases b hb) (by walk_at "om")
theorem c_write (hn : 3 ≤ n) (hf : FmtAt B f i H st) (hs : Small st k) (hk : k ≤ lim) (hj : B j = some (itemO kd t a)) (ht : t ≠ []) (htl : t.length ≤ 31) (h : ∀ H', FmtAt B f i H' (writeS st kd t) → Q .none H') : CallOk W n (.ref 249) [.ref f, .ref j] H Q := by
  obtain ⟨r, p, bl, uc, vb, hb, hu, ho⟩ := hf
  have hpl : st.pieces.length ≤ sizeLine := Nat.le_trans (Nat.le_trans hs.pieces hk) lim_size
  have hj' := ho.base _ _ hj
  have key : ∀ (n : Nat) (env : Env) (ge : GoodEnv env) (hsc : env.scope = sS (mS 26 4)) (H1 : List O) (d : Nat) (gap : List Nat), 2 ≤ n → Own B H1 (cellsF f r p bl i uc (fsL vb r p bl { st with depth := d }) st.rows st.pieces st.top) →
      d = (if st.pieces = [] ∧ st.before = none then usual st.top else st.depth) → gap = (if st.pieces = [] then [] else if tight st kd t then [] else [32]) →
      ExecsOk W n env ((bS (mS 26 4)).drop 2) [("self", .ref f), ("item", .ref j), ("gap", .str gap)] H1 (fun fl _ H' => Q fl.val H') := by
    intro n env ge hsc H1 d gap hn ho hd hg
    have hj' := ho.base _ _ hj
    refine oks_seq ?_
    walk_at "go"
    refine c_is_unary (by walk_at "om") (bef_h ho hb) ?_
    walk_at "g1"
    refine seq_next (oks_seq (ok_selfset (by rfl) (ok_as (.bool (t == cd "*" && st.naming)) (by walk_at "tw") ?_)))
    walk_at "go"
    rename_i H3 ho3 l3
    refine ⟨p, rfl, ⟨_, Own.c2 ho3⟩, ?_⟩
    walk_at "go"
    refine op_add_str (by rw [sizeLine_eq, hg]; split <;> (try split) <;> simp <;> omega) ?_
    refine ⟨_, Own.c2 ho3, by simpa using hpl, ?_⟩
    have h5 := Own.u2 (pieces' := st.pieces ++ [gap ++ t]) ho3
    rw [List.map_append] at h5
    walk_at "go"
    rename_i h6 _
    subst hd; subst hg
    exact h _ (fmt_of (st' := writeS st kd t) (vb := .ref j) h6 ⟨j, a, rfl, hj⟩ hu rfl rfl rfl rfl)
  refine call_def' D_Formatter_write (by walk_at "om") rfl (fun env ge hsc => ?_)
  refine oks_seq ?_
  have hcl : ∀ (P : Prop), ((((st.pieces.map V.str).length : Nat) : Int) == 0) = true → (st.pieces = [] → P) → P := fun P hc g => g (by simpa using hc)
  have hcl2 : ∀ (P : Prop), ((((st.pieces.map V.str).length : Nat) : Int) == 0) = false → (st.pieces ≠ [] → P) → P := fun P hc g => g (by simpa using hc)
  have part2 : st.pieces ≠ [] → tight st kd t = true ∨ tight st kd t = false := fun _ => by cases tight st kd t <;> simp
  cases hbb : st.before with
  | none =>
    have hb2 := hb
    rw [hbb] at hb2
    subst hb2
    walk_at "go"
    refine call_len_ref ho.c2 (by simpa using hpl) ?_
    walk_at "go"
    · refine hcl _ (by assumption) fun he => ?_
      refine c_usual (by walk_at "om") ho rfl rfl rfl ?_
      walk_at "g1"
      rename_i h7 _
      walk_at "ge"
      exact key (n - 1) env ge hsc _ (usual st.top) [] (by walk_at "om") h7 (by rw [if_pos ⟨he, hbb⟩]) (by rw [if_pos he])
    · refine hcl2 _ (by assumption) fun he => ?_
      refine c_is_tight (by walk_at "om") hb ho hj ht ⟨_, rfl, ?_⟩
      have : tight st kd t = false := by unfold tight; rw [hbb]
      rw [this, Bool.not_false]
      walk_at "g1"
      walk_at "ge"
      exact key (n - 1) env ge hsc _ st.depth [32] (by walk_at "om") ho (by rw [if_neg (by simp [he])]) (by rw [if_neg he, this]; rfl)
  | some kt =>
    obtain ⟨bk, bt⟩ := kt
    have hb2 := hb
    rw [hbb] at hb2
    obtain ⟨bi, ba, rfl, hbi⟩ := hb2
    walk_at "go"
    refine call_len_ref ho.c2 (by simpa using hpl) ?_
    walk_at "g1"
    · refine hcl _ (by assumption) fun he => ?_
      walk_at "ge"
      exact key (n - 1) env ge hsc _ st.depth [] (by walk_at "om") ho (by rw [if_neg (by simp [hbb])]) (by rw [if_pos he])
    · refine hcl2 _ (by assumption) fun he => ?_
      refine c_is_tight (by walk_at "om") hb ho hj ht ⟨_, rfl, ?_⟩
      cases htt : tight st kd t with
      | true =>
        rw [Bool.not_true]
        walk_at "g1"
        walk_at "ge"
        exact key (n - 1) env ge hsc _ st.depth [] (by walk_at "om") ho (by rw [if_neg (by simp [he])]) (by rw [if_neg he, htt]; rfl)
      | false =>
        rw [Bool.not_false]
        walk_at "g1"
        walk_at "ge"
        exact key (n - 1) env ge hsc _ st.depth [32] (by walk_at "om") ho (by rw [if_neg (by simp [he])]) (by rw [if_neg he, htt]; rfl)
end
end
section
section
variable {W : W0} {n : Nat} {env : Env} {ρ : Rho} {H : List O}
noncomputable def blkL (b : Blk) : List (String × V) := [("word", .str b.word), ("base", .int b.base), ("body", .bool b.body), ("section", .str b.section_), ("label", .bool b.label)]
theorem ok_blkset {value o : Expr} {x : String} {p' pos : Pos} {Q : Fl → Rho → List O → Prop} (h : EvalOk W n env value ρ H fun v H1 => EvalOk W n env o ρ H1 fun ov H2 => ∃ (B : Nat → Option O) (f r p bl i : Nat) (uc : List (Nat × Blk)) (fs : List (String × V)) (rows pieces : List (List Nat)) (top top' : Blk),
      ov = .ref i ∧ Own B H2 (cellsF f r p bl i uc fs rows pieces top) ∧ NoAttr 182 x ∧ blkO top' = .inst 182 (upd (blkL top) x v) ∧ ∀ H3, Own B H3 (cellsF f r p bl i uc fs rows pieces top') → H3.length = H2.length → Q .next ρ H3)
    (hw : ∀ env, swapsWith value (some (.Attribute o (Str.ofString x) p')) pos.line env = pure false := by intro _; rfl) : ExecOk W n env (.Assign [.Attribute o (Str.ofString x) p'] value pos) ρ H Q := by
  refine ok_assign_attr (ok_mono h fun v H1 h1 => ok_mono h1 ?_) hw
  rintro ov H2 ⟨B, f, r, p, bl, i, uc, fs, rows, pieces, top, top', rfl, ho, h2, h3, h4⟩
  refine ⟨i, 182, blkL top, rfl, ho.c4, cls_block, h2, by (show 5 ≤ 900); decide, ?_⟩
  rw [← h3]
  exact h4 _ ho.u4 (by simp)
end
section
variable {W : W0} {n : Nat} {H : List O} {Q : V → List O → Prop} {B : Nat → Option O} {f r p bl i j a : Nat} {uc : List (Nat × Blk)} {fs : List (String × V)} {rows pieces : List (List Nat)} {top : Blk} {st : FS} {k : Nat} {vb : V} {kd t : List Nat}
noncomputable def writeAt (st : FS) (kd t : List Nat) (d : Nat) : FS := { endRow st with pieces := [t], before := some (kd, t), depth := d }
theorem Small.writeAt {d : Nat} (h : Small st k) (ht : t.length ≤ 31) (hd : d ≤ k + 1) : Small (writeAt st kd t d) (k + 1) where
  rows := h.endRow.rows
  pieces := by show 1 ≤ _; omega
  sum := by show t.length + 0 ≤ _; omega
  depth := hd
  under := h.endRow.under
  base := h.endRow.base
  bases := h.endRow.bases
theorem c_write_at {d : Nat} (hn : 2 ≤ n) (hf : FmtAt B f i H st) (hs : Small st k) (hk : k ≤ lim) (hj : B j = some (itemO kd t a)) (h : ∀ H', FmtAt B f i H' (writeAt st kd t d) → Q .none H') : CallOk W n (.ref 256) [.ref f, .ref j, .int d] H Q := by
  refine call_def' D_Formatter_write_at (by walk_at "om") rfl (fun env ge hsc => ?_)
  obtain ⟨r, p, bl, uc, vb, hb, hu, ho⟩ := id hf
  refine oks_seq ?_
  walk_at "go"
  refine c_end_row (by walk_at "om") hf hs hk fun H1 hf1 => ?_
  obtain ⟨r, p, bl, uc, vb, hb, hu, ho⟩ := hf1
  walk_at "go"
  refine ⟨p, rfl, ⟨_, Own.c2 ho⟩, ?_⟩
  walk_at "go"
  refine ⟨_, Own.c2 ho, by (show 0 ≤ _); omega, ?_⟩
  have h5 := Own.u2 (pieces' := [t]) ho
  walk_at "go"
  rename_i h6 _
  exact h _ (fmt_of (st' := writeAt st kd t d) (vb := .ref j) h6 ⟨j, a, rfl, hj⟩ hu rfl rfl rfl rfl)
noncomputable def popS (st : FS) : FS := match st.under with
  | [] => st
  | b :: u => { st with top := b, under := u }
noncomputable def popB (st : FS) : Nat := match st.under with
  | [] => 0
  | _ :: _ => st.top.base
theorem c_pop (hn : 1 ≤ n) (hf : FmtAt B f i H st) (hs : Small st k) (hk : k ≤ lim) (h : ∀ H' i', FmtAt B f i' H' (popS st) → Q (.int (popB st : Nat)) H') : CallOk W n (.ref 291) [.ref f] H Q := by
  refine call_def' D_Formatter_pop (by walk_at "om") rfl (fun env ge hsc => ?_)
  obtain ⟨r, p, bl, uc, vb, hb, hu, ho⟩ := id hf
  have hul : uc.length ≤ lim := by
    have := hs.under; rw [hu, List.length_map] at this; exact Nat.le_trans this hk
  have hlim := lim_size
  have hlim2 : lim = 100000 := rfl
  refine oks_seq ?_
  walk_at "go"
  refine call_len_ref ho.c3 (by simp; rw [sizeLine_eq]; omega) ?_
  cases uc with
  | nil =>
    walk_at "go"
    · have e1 : popB st = 0 := by unfold popB; rw [hu]; rfl
      have e2 : popS st = st := by unfold popS; rw [hu]; rfl
      have := h H i (by rw [e2]; exact hf)
      rw [e1] at this
      exact this
    · rename_i hc; simp at hc
  | cons c uc =>
    obtain ⟨i2, b2⟩ := c
    walk_at "go"
    · rename_i hc; simp at hc; omega
    · refine ⟨bl, _, .ref i, rfl, ho.c3, by simp; rw [sizeLine_eq]; simp at hul; omega, ?_⟩
      have h2 := Own.upd (l₁ := [(f, _), (r, _), (p, _)]) (o' := .list (List.map (fun c => V.ref c.1) ((i2, b2) :: uc)).reverse) ho
      refine ⟨182, _, _, .inr ⟨_, rfl, Own.get (l₁ := [(f, _), (r, _), (p, _), (bl, _)]) h2⟩, cls_block, N182_base, by rfl, ?_⟩
      walk_at "go"
      have h3 := (h2.perm (((((List.Perm.swap _ _ _).cons _).cons _).cons _).trans ((((List.Perm.swap _ _ _).cons _).cons _).trans (((List.Perm.swap _ _ _).cons _).trans (List.Perm.swap _ _ _))))).tail
      have e1 : popB st = st.top.base := by unfold popB; rw [hu]; rfl
      have e2 : popS st = { st with top := b2, under := uc.map (·.2) } := by unfold popS; rw [hu]; rfl
      have h4 := h (H.set bl (.list (List.map (fun c => V.ref c.1) ((i2, b2) :: uc)).reverse)) i2 (by
        rw [e2]
        refine fmt_of (uc := uc) (i := i2) (r := r) (p := p) (bl := bl) (vb := vb) ?_ hb rfl rfl rfl rfl rfl
        unfold cellsF
        simp only [List.map_cons, List.reverse_cons] at h3 ⊢
        exact h3)
      rw [e1] at h4
      exact h4
end
end
section
section
variable {W : W0} {n : Nat} {H : List O} {Q : V → List O → Prop} {B : Nat → Option O} {f r p bl i j a : Nat} {uc : List (Nat × Blk)} {fs : List (String × V)} {rows pieces : List (List Nat)} {top : Blk} {st : FS} {k : Nat} {vb : V} {kd t : List Nat}
theorem Own.push {b : Blk} (ho : Own B H (cellsF f r p bl i uc fs rows pieces top)) : Own B ((H ++ [blkO b]).set bl (.list (((uc.map fun c => V.ref c.1).reverse ++ [V.ref i]) ++ [V.ref H.length]))) (cellsF f r p bl H.length ((i, top) :: uc) fs rows pieces b) := by
  have h1 := ho.new (o := blkO b)
  have h2 := Own.upd (l₁ := [(H.length, _), (f, _), (r, _), (p, _)]) (o' := .list (((uc.map fun c => V.ref c.1).reverse ++ [V.ref i]) ++ [V.ref H.length])) h1
  have h3 := h2.perm ((List.Perm.swap _ _ _).trans (.cons _ ((List.Perm.swap _ _ _).trans (.cons _ ((List.Perm.swap _ _ _).trans (.cons _ (List.Perm.swap _ _ _)))))))
  unfold cellsF
  rw [List.map_cons, List.reverse_cons]
  exact h3
noncomputable def pushS (st : FS) (w : List Nat) : FS := { st with top := ⟨w, st.depth, false, [], false⟩, under := st.top :: st.under }
theorem Small.pushS {w : List Nat} (h : Small st k) : Small (pushS st w) (k + 1) where
  rows := Nat.le_succ_of_le h.rows
  pieces := Nat.le_succ_of_le h.pieces
  sum := Nat.le_trans h.sum (by walk_at "om")
  depth := Nat.le_succ_of_le h.depth
  under := by have := h.under; show (_ :: _ : List Blk).length ≤ _; simp; exact this
  base := Nat.le_succ_of_le h.depth
  bases := fun b hb => by
    rcases List.mem_cons.mp hb with rfl | hb
    · exact Nat.le_succ_of_le h.base
    · exact Nat.le_succ_of_le (h.bases b hb)
theorem Small.le {m : Nat} (h : Small st k) (hm : k ≤ m) : Small st m := ⟨Nat.le_trans h.rows hm, Nat.le_trans h.pieces hm, Nat.le_trans h.sum (by walk_at "om"), Nat.le_trans h.depth hm, Nat.le_trans h.under hm, Nat.le_trans h.base hm, fun b hb => Nat.le_trans (h.bases b hb) hm⟩
noncomputable def openS (st : FS) (kd t : List Nat) : FS := if t == cd "REPEAT" then endRow (pushS (writeS st kd t) t) else pushS (writeS st kd t) t
theorem uc_size (hs : Small st k) (hk : k ≤ lim) (hu : st.under = uc.map (·.2)) : ((uc.map fun c => V.ref c.1).reverse ++ [V.ref i]).length ≤ sizeLine := by
  have := hs.under; rw [hu, List.length_map] at this
  have hlim2 : lim = 100000 := rfl
  rw [sizeLine_eq]; simp; omega
theorem c_opening (hn : 4 ≤ n) (hf : FmtAt B f i H st) (hs : Small st k) (hk : k + 8 ≤ lim) (hj : B j = some (itemO kd t a)) (ht : t ≠ []) (htl : t.length ≤ 31) (hrec : (t == cd "RECORD") = false) (h : ∀ H' i', FmtAt B f i' H' (openS st kd t) → Q .none H') : CallOk W n (.ref 305) [.ref f, .ref j] H Q := by
  refine call_def' D_Formatter_opening (by walk_at "om") rfl (fun env ge hsc => ?_)
  obtain ⟨r, p, bl, uc, vb, hb, hu, ho⟩ := id hf
  refine oks_seq ?_
  walk_at "go"
  refine c_write (by walk_at "om") hf hs (by walk_at "om") hj ht htl fun H1 hf1 => ?_
  have hs1 := hs.writeS (kd := kd) htl
  obtain ⟨r, p, bl, uc, vb, hb, hu, ho⟩ := id hf1
  walk_at "go"
  refine ⟨bl, rfl, ⟨_, ho.c3⟩, ?_⟩
  walk_at "go"
  refine c_block (by walk_at "om") ?_
  have h2 := ho.push (b := ⟨t, (writeS st kd t).depth, false, [], false⟩)
  walk_at "go"
  refine ⟨_, Own.get (l₁ := [(H1.length, _), (f, _), (r, _), (p, _)]) (ho.new (o := blkO ⟨t, (writeS st kd t).depth, false, [], false⟩)), uc_size hs1 (by walk_at "om") hu, ?_⟩
  have hf2 : FmtAt B f H1.length _ (pushS (writeS st kd t) t) := fmt_of h2 hb (by show (writeS st kd t).top :: (writeS st kd t).under = _; rw [hu]; rfl) rfl rfl rfl rfl
  walk_at "go"
  · rename_i hc
    refine c_end_row (by walk_at "om") hf2 hs1.pushS (by walk_at "om") fun H3 hf3 => ?_
    obtain ⟨r, p, bl, uc, vb, hb, hu, ho⟩ := id hf3
    walk_at "go"
    · have hc2 : (t == cd "RECORD") = true := by assumption
      rw [hrec] at hc2; cases hc2
    · have := h _ _ (by unfold openS; rw [if_pos hc]; exact hf3)
      exact this
  · have hc2 : (t == cd "RECORD") = true := by assumption
    rw [hrec] at hc2; cases hc2
  · have hc : (t == cd "REPEAT") = false := by assumption
    have := h _ _ (by unfold openS; rw [if_neg (by rw [hc]; decide)]; exact hf2)
    exact this
noncomputable def setLab (st : FS) (b : Bool) : FS := { st with top := { st.top with label := b } }
noncomputable def midS (st : FS) (kd t : List Nat) : FS :=
  if t == cd "OF" && decide ((st.arrays : Int) > 0) then writeS { st with arrays := st.arrays - 1 } kd t
  else if ([cd "ELSE", cd "ELSIF"]).contains t then
    (if t == cd "ELSE" then endRow (writeAt (setLab st false) kd t st.top.base) else writeAt (setLab st false) kd t st.top.base)
  else setLab (endRow (writeS st kd t)) (t == cd "OF")
theorem Small.lab {b : Bool} (h : Small st k) : Small (setLab st b) k := ⟨h.rows, h.pieces, h.sum, h.depth, h.under, h.base, h.bases⟩
theorem c_middle (hn : 4 ≤ n) (hf : FmtAt B f i H st) (hs : Small st k) (hk : k + 8 ≤ lim) (hj : B j = some (itemO kd t a)) (ht : t ≠ []) (htl : t.length ≤ 31) (h : ∀ H' i', FmtAt B f i' H' (midS st kd t) → Q .none H') : CallOk W n (.ref 312) [.ref f, .ref j] H Q := by
  refine call_def' D_Formatter_middle (by walk_at "om") rfl (fun env ge hsc => ?_)
  obtain ⟨r, p, bl, uc, vb, hb, hu, ho⟩ := id hf
  refine oks_seq (ok_if (test_as (t == cd "OF" && decide ((st.arrays : Int) > 0)) (by walk_at "tb") ⟨fun hc => ?_, fun hc => ?_⟩))
  · obtain ⟨h1, h2⟩ := Bool.and_eq_true_iff.mp hc
    refine oks_seq ?_
    walk_at "go"
    rename_i ho2 _
    have h3 : ((st.arrays : Int) - 1) = ((st.arrays - 1 : Nat) : Int) := by simp at h2; omega
    have hf2 : FmtAt B f i _ { st with arrays := st.arrays - 1 } := fmt_of ho2 hb hu (by rw [h3]; rfl) rfl rfl rfl
    refine c_write (by walk_at "om") hf2 ⟨hs.rows, hs.pieces, hs.sum, hs.depth, hs.under, hs.base, hs.bases⟩ (by walk_at "om") hj ht htl fun H1 hf1 => ?_
    walk_at "go"
    have := h _ _ (by unfold midS; rw [if_pos (by rw [h1, h2]; rfl)]; exact hf1)
    exact this
  have hno : ¬ ((t == cd "OF" && decide ((st.arrays : Int) > 0)) = true) := by rw [hc]; decide
  refine oks_seq ?_
  walk_at "go"
  all_goals
    first
      | (have hin : ([cd "ELSE", cd "ELSIF"]).contains t = true := by assumption
         refine c_top (by walk_at "om") ho rfl ?_
         refine ⟨B, f, r, p, bl, i, uc, _, _, _, st.top, { st.top with label := false }, rfl, ho, N182_label, rfl, fun H3 h3 _ => ?_⟩
         have hf3 : FmtAt B f i H3 (setLab st false) := fmt_of h3 hb hu rfl rfl rfl rfl
         walk_at "go"
         refine c_top (by walk_at "om") h3 rfl ?_
         walk_at "go"
         refine c_write_at (by walk_at "om") hf3 hs.lab (by walk_at "om") hj fun H4 hf4 => ?_
         have hs4 : Small (writeAt (setLab st false) kd t st.top.base) (k + 1) := Small.writeAt hs.lab htl (by have := hs.base; omega)
         obtain ⟨r, p, bl, uc, vb, hb, hu, ho⟩ := id hf4
         walk_at "go"
         · have hel : (t == cd "ELSE") = true := by assumption
           refine c_end_row (by walk_at "om") hf4 hs4 (by walk_at "om") fun H5 hf5 => ?_
           walk_at "go"
           have := h _ _ (by unfold midS; rw [if_neg hno, if_pos hin, if_pos hel]; exact hf5)
           exact this
         · have hel : (t == cd "ELSE") = false := by assumption
           have := h _ _ (by unfold midS; rw [if_neg hno, if_pos hin, if_neg (by rw [hel]; decide)]; exact hf4)
           exact this)
      | (have hin : ([cd "ELSE", cd "ELSIF"]).contains t = false := by assumption
         refine c_write (by walk_at "om") hf hs (by walk_at "om") hj ht htl fun H1 hf1 => ?_
         have hs1 := hs.writeS (kd := kd) htl
         obtain ⟨r, p, bl, uc, vb, hb, hu, ho⟩ := id hf1
         walk_at "go"
         refine c_end_row (by walk_at "om") hf1 hs1 (by walk_at "om") fun H2 hf2 => ?_
         obtain ⟨r, p, bl, uc, vb, hb, hu, ho⟩ := id hf2
         walk_at "go"
         refine c_top (by walk_at "om") ho rfl ?_
         refine ⟨B, f, r, p, bl, i, uc, _, _, _, _, { (endRow (writeS st kd t)).top with label := (t == cd "OF") }, rfl, ho, N182_label, rfl, fun H3 h3 _ => ?_⟩
         have hf3 : FmtAt B f i H3 (setLab (endRow (writeS st kd t)) (t == cd "OF")) := fmt_of h3 hb hu rfl rfl rfl rfl
         walk_at "go"
         have := h _ _ (by unfold midS; rw [if_neg hno, if_neg (by rw [hin]; decide)]; exact hf3)
         exact this)
end
end
section
section
variable {W : W0} {n : Nat} {H : List O} {Q : V → List O → Prop} {B : Nat → Option O} {f r p bl i j a : Nat} {uc : List (Nat × Blk)} {fs : List (String × V)} {rows pieces : List (List Nat)} {top : Blk} {st : FS} {k : Nat} {vb : V} {kd t : List Nat}
noncomputable def bracketS (st : FS) (kd t : List Nat) : FS := { writeS st kd t with naming := if st.heading then false else st.naming, ob := st.ob + 1 }
theorem c_bracket (hn : 4 ≤ n) (hf : FmtAt B f i H st) (hs : Small st k) (hk : k + 8 ≤ lim) (hj : B j = some (itemO kd t a)) (ht : t ≠ []) (htl : t.length ≤ 31) (h : ∀ H', FmtAt B f i H' (bracketS st kd t) → Q .none H') : CallOk W n (.ref 347) [.ref f, .ref j] H Q := by
  refine call_def' D_Formatter_bracket (by walk_at "om") rfl (fun env ge hsc => ?_)
  obtain ⟨r, p, bl, uc, vb, hb, hu, ho⟩ := id hf
  refine oks_seq ?_
  walk_at "go"
  refine c_write (by walk_at "om") hf hs (by walk_at "om") hj ht htl fun H1 hf1 => ?_
  obtain ⟨r, p, bl, uc, vb, hb, hu, ho⟩ := id hf1
  walk_at "go"
  · have hh : st.heading = true := by assumption
    rename_i h3 _
    exact h _ (fmt_of h3 hb hu (by unfold bracketS; rw [if_pos hh]; rfl) rfl rfl rfl)
  · have hh : st.heading = false := by assumption
    rename_i h3 _
    exact h _ (fmt_of h3 hb hu (by unfold bracketS; rw [if_neg (by rw [hh]; decide)]; rfl) rfl rfl rfl)
noncomputable def finS (st : FS) : FS := { endRow st with heading := false, arrays := 0, naming := (([cd "MODULE", cd "PROCEDURE"]).contains st.top.word && !st.top.body && st.top.section_ != []) || st.top.word == cd "RECORD" }
theorem c_finish (hn : 3 ≤ n) (hf : FmtAt B f i H st) (hs : Small st k) (hk : k + 8 ≤ lim) (h : ∀ H', FmtAt B f i H' (finS st) → Q .none H') : CallOk W n (.ref 354) [.ref f] H Q := by
  refine call_def' D_Formatter_finish (by walk_at "om") rfl (fun env ge hsc => ?_)
  obtain ⟨r, p, bl, uc, vb, hb, hu, ho⟩ := id hf
  refine oks_seq ?_
  walk_at "go"
  refine c_end_row (by walk_at "om") hf hs (by walk_at "om") fun H1 hf1 => ?_
  obtain ⟨r, p, bl, uc, vb, hb, hu, ho⟩ := id hf1
  have fin : ∀ {H' : List O} {v : Bool}, Own B H' ((f, .inst 357 (upd (upd (upd (fsL vb r p bl (endRow st)) "heading" (.bool false)) "arrays" (.int 0)) "naming" (.bool v))) :: (cellsF f r p bl i uc [] (endRow st).rows (endRow st).pieces (endRow st).top).tail) →
      v = ((([cd "MODULE", cd "PROCEDURE"]).contains st.top.word && !st.top.body && st.top.section_ != []) || st.top.word == cd "RECORD") → Q .none H' := by
    intro H' v h3 e
    exact h _ (fmt_of h3 hb hu (congrArg (fun b => fsL vb r p bl { endRow st with heading := false, arrays := 0, naming := b }) e) rfl rfl rfl)
  clear h hf hf1 hs
  walk_at "go"
  rename_i h3 _
  refine c_top (by walk_at "om") h3 rfl ?_
  walk_at "g1"
  refine seq_next (oks_seq (ok_assign (ok_as (.bool (([cd "MODULE", cd "PROCEDURE"]).contains st.top.word && !st.top.body && st.top.section_ != [])) (by walk_at "tw") ?_) (kind_of (by assumption) (by kernel_rfl))))
  refine seq_next (oks_seq (ok_selfset (by rfl) (ok_as (.bool ((([cd "MODULE", cd "PROCEDURE"]).contains st.top.word && !st.top.body && st.top.section_ != []) || st.top.word == cd "RECORD")) (by walk_at "tw") ?_)))
  walk_at "go"
  rename_i h4 _
  exact fin h4 rfl
end
end
section
section
variable {W : W0} {n : Nat} {H : List O} {Q : V → List O → Prop} {B : Nat → Option O} {f r p bl i j a : Nat} {uc : List (Nat × Blk)} {fs : List (String × V)} {rows pieces : List (List Nat)} {top : Blk} {st : FS} {k : Nat} {vb : V} {kd t : List Nat}
noncomputable def setSec (st : FS) (x : List Nat) : FS := { st with top := { st.top with section_ := x } }
noncomputable def addRow (st : FS) : FS := { st with rows := st.rows ++ [[]] }
theorem Small.sec {x : List Nat} (h : Small st k) : Small (setSec st x) k := ⟨h.rows, h.pieces, h.sum, h.depth, h.under, h.base, h.bases⟩
theorem Small.addRow (h : Small st k) : Small (addRow st) (k + 1) := ⟨by have := h.rows; show (st.rows ++ [[]]).length ≤ _; simp; omega, Nat.le_trans h.pieces (by walk_at "om"), Nat.le_trans h.sum (by walk_at "om"), Nat.le_trans h.depth (by walk_at "om"), Nat.le_trans h.under (by walk_at "om"), Nat.le_trans h.base (by walk_at "om"), fun b hb => Nat.le_trans (h.bases b hb) (by walk_at "om")⟩
noncomputable def procTail (st : FS) (kd t : List Nat) : FS := { pushS (writeS st kd t) (cd "PROCEDURE") with naming := true, heading := true }
noncomputable def procS (st : FS) (kd t : List Nat) : FS :=
  if st.pieces = [] then (if st.rows = [] then procTail (setSec st []) kd t else procTail (addRow (setSec st [])) kd t) else writeS st kd t
theorem c_procedure (hn : 4 ≤ n) (hf : FmtAt B f i H st) (hs : Small st k) (hk : k + 8 ≤ lim) (hj : B j = some (itemO kd t a)) (ht : t ≠ []) (htl : t.length ≤ 31) (h : ∀ H' i', FmtAt B f i' H' (procS st kd t) → Q .none H') : CallOk W n (.ref 326) [.ref f, .ref j] H Q := by
  have tail : ∀ (n : Nat) (env : Env) (st : FS) (H : List O), 3 ≤ n → GoodEnv env → env.scope = sS (mS 26 15) → FmtAt B f i H st → Small st (k + 1) → (∀ H' i', FmtAt B f i' H' (procTail st kd t) → Q .none H') →
      ExecsOk W n env ((bS (mS 26 15)).drop 4) [("self", .ref f), ("item", .ref j), ("block", .ref i)] H (fun fl _ H' => Q fl.val H') := by
    intro n env st H hn ge hsc hf hs h
    obtain ⟨r, p, bl, uc, vb, hb, hu, ho⟩ := id hf
    refine oks_seq ?_
    walk_at "go"
    refine c_write (by walk_at "om") hf hs (by walk_at "om") hj ht htl fun H1 hf1 => ?_
    have hs1 := hs.writeS (kd := kd) htl
    obtain ⟨r, p, bl, uc, vb, hb, hu, ho⟩ := id hf1
    walk_at "go"
    refine ⟨bl, rfl, ⟨_, ho.c3⟩, ?_⟩
    walk_at "go"
    refine c_block (by walk_at "om") ?_
    have h2 := ho.push (b := ⟨cd "PROCEDURE", (writeS st kd t).depth, false, [], false⟩)
    walk_at "go"
    refine ⟨_, Own.get (l₁ := [(H1.length, _), (f, _), (r, _), (p, _)]) (ho.new (o := blkO ⟨cd "PROCEDURE", (writeS st kd t).depth, false, [], false⟩)), uc_size hs1 (by walk_at "om") hu, ?_⟩
    walk_at "go"
    rename_i h3 _
    have hf2 := fmt_of (st' := procTail st kd t) h3 hb (by show (writeS st kd t).top :: (writeS st kd t).under = _; rw [hu]; rfl) rfl rfl rfl rfl
    exact h _ _ hf2
  obtain ⟨r, p, bl, uc, vb, hb, hu, ho⟩ := id hf
  have hlim2 : lim = 100000 := rfl
  have hpl : st.pieces.length ≤ sizeLine := by have := hs.pieces; rw [sizeLine_eq]; omega
  have hrl : st.rows.length ≤ sizeLine := by have := hs.rows; rw [sizeLine_eq]; omega
  refine call_def' D_Formatter_procedure (by walk_at "om") rfl (fun env ge hsc => ?_)
  refine oks_seq ?_
  walk_at "go"
  refine call_len_ref ho.c2 (by simpa using hpl) ?_
  walk_at "go"
  · have hc : decide ((((st.pieces.map V.str).length : Nat) : Int) > 0) = false := by assumption
    have he : st.pieces = [] := by
      cases hh : st.pieces with
      | nil => rfl
      | cons a b => rw [hh] at hc; simp at hc
    refine c_top (by walk_at "om") ho rfl ?_
    walk_at "g1"
    refine seq_next (oks_seq (ok_blkset ?_))
    walk_at "g1"
    refine ⟨B, f, r, p, bl, i, uc, _, _, _, st.top, { st.top with section_ := [] }, rfl, ho, N182_section, rfl, fun H3 h3 _ => ?_⟩
    have hf3 : FmtAt B f i H3 (setSec st []) := fmt_of h3 hb hu rfl rfl rfl rfl
    refine seq_next (oks_seq ?_)
    walk_at "g1"
    refine call_len_ref h3.c1 (by simpa using hrl) ?_
    walk_at "g1"
    · have hc : decide ((((st.rows.map V.str).length : Nat) : Int) > 0) = true := by assumption
      have he2 : st.rows ≠ [] := by intro e; rw [e] at hc; simp at hc
      refine ⟨r, rfl, ⟨_, h3.c1⟩, ?_⟩
      walk_at "g1"
      refine ⟨_, h3.c1, by simpa using hrl, ?_⟩
      have h4 := h3.u1 (rows' := st.rows ++ [[]])
      rw [List.map_append] at h4
      have hf4 : FmtAt B f i _ (addRow (setSec st [])) := fmt_of h4 hb hu rfl rfl rfl rfl
      walk_at "ge"
      exact tail (n - 1) env _ _ (by walk_at "om") ge hsc hf4 hs.sec.addRow (fun H' i' hh => h H' i' (by unfold procS; rw [if_pos he, if_neg he2]; exact hh))
    · have hc : decide ((((st.rows.map V.str).length : Nat) : Int) > 0) = false := by assumption
      have he2 : st.rows = [] := by
        cases hh : st.rows with
        | nil => rfl
        | cons a b => rw [hh] at hc; simp at hc
      walk_at "ge"
      exact tail (n - 1) env _ _ (by walk_at "om") ge hsc hf3 (hs.sec.le (by walk_at "om")) (fun H' i' hh => h H' i' (by unfold procS; rw [if_pos he, if_pos he2]; exact hh))
  · have hc : decide ((((st.pieces.map V.str).length : Nat) : Int) > 0) = true := by assumption
    have he : st.pieces ≠ [] := by intro e; rw [e] at hc; simp at hc
    refine c_write (by walk_at "om") hf hs (by walk_at "om") hj ht htl fun H1 hf1 => ?_
    walk_at "go"
    have := h _ _ (by unfold procS; rw [if_neg he]; exact hf1)
    exact this

noncomputable def partS (st : FS) (kd t : List Nat) : FS :=
  if t == cd "MODULE" then { pushS (writeS st kd t) (cd "MODULE") with heading := true }
  else if t == cd "PROCEDURE" then procS st kd t
  else if t == cd "BEGIN" then endRow (writeAt { st with top := { st.top with body := true }, naming := false } kd t st.top.base)
  else writeAt st kd t (st.top.base + 1)
theorem c_part (hn : 5 ≤ n) (hf : FmtAt B f i H st) (hs : Small st k) (hk : k + 8 ≤ lim) (hj : B j = some (itemO kd t a)) (ht : t ≠ []) (htl : t.length ≤ 31) (h : ∀ H' i', FmtAt B f i' H' (partS st kd t) → Q .none H') : CallOk W n (.ref 319) [.ref f, .ref j] H Q := by
  obtain ⟨r, p, bl, uc, vb, hb, hu, ho⟩ := id hf
  refine call_def' D_Formatter_part (by walk_at "om") rfl (fun env ge hsc => ?_)
  refine oks_seq ?_
  walk_at "go"
  refine c_top (by walk_at "om") ho rfl ?_
  walk_at "go"
  · have e1 : (t == cd "MODULE") = true := by assumption
    refine c_write (by walk_at "om") hf hs (by walk_at "om") hj ht htl fun H1 hf1 => ?_
    have hs1 := hs.writeS (kd := kd) htl
    obtain ⟨r, p, bl, uc, vb, hb, hu, ho⟩ := id hf1
    walk_at "go"
    refine ⟨bl, rfl, ⟨_, ho.c3⟩, ?_⟩
    walk_at "go"
    refine c_block (by walk_at "om") ?_
    have h2 := ho.push (b := ⟨cd "MODULE", (writeS st kd t).depth, false, [], false⟩)
    walk_at "go"
    refine ⟨_, Own.get (l₁ := [(H1.length, _), (f, _), (r, _), (p, _)]) (ho.new (o := blkO ⟨cd "MODULE", (writeS st kd t).depth, false, [], false⟩)), uc_size hs1 (by walk_at "om") hu, ?_⟩
    walk_at "go"
    rename_i h3 _
    have hf2 := fmt_of (st' := { pushS (writeS st kd t) (cd "MODULE") with heading := true }) h3 hb (by show (writeS st kd t).top :: (writeS st kd t).under = _; rw [hu]; rfl) rfl rfl rfl rfl
    exact h _ _ (by unfold partS; rw [if_pos e1]; exact hf2)
  · have e1 : (t == cd "MODULE") = false := by assumption
    have e2 : (t == cd "PROCEDURE") = true := by assumption
    refine c_procedure (by walk_at "om") hf hs hk hj ht htl fun H1 i1 hf1 => ?_
    walk_at "go"
    exact h _ _ (by unfold partS; rw [if_neg (by rw [e1]; decide), if_pos e2]; exact hf1)
  · have e1 : (t == cd "MODULE") = false := by assumption
    have e2 : (t == cd "PROCEDURE") = false := by assumption
    have e3 : (t == cd "BEGIN") = true := by assumption
    refine ⟨B, f, r, p, bl, i, uc, _, _, _, st.top, { st.top with body := true }, rfl, ho, N182_body, rfl, fun H3 h3 _ => ?_⟩
    walk_at "go"
    rename_i h4 _
    have hf4 : FmtAt B f i _ { st with top := { st.top with body := true }, naming := false } := fmt_of h4 hb hu rfl rfl rfl rfl
    have hs4 : Small { st with top := { st.top with body := true }, naming := false } k := ⟨hs.rows, hs.pieces, hs.sum, hs.depth, hs.under, hs.base, hs.bases⟩
    refine c_write_at (d := st.top.base) (by walk_at "om") hf4 hs4 (by walk_at "om") hj fun H5 hf5 => ?_
    have hs5 := hs4.writeAt (kd := kd) (d := st.top.base) htl (by have := hs.base; omega)
    obtain ⟨r, p, bl, uc, vb, hb, hu, ho⟩ := id hf5
    walk_at "go"
    refine c_end_row (by walk_at "om") hf5 hs5 (by walk_at "om") fun H6 hf6 => ?_
    walk_at "go"
    exact h _ _ (by unfold partS; rw [if_neg (by rw [e1]; decide), if_neg (by rw [e2]; decide), if_pos e3]; exact hf6)
  · have e1 : (t == cd "MODULE") = false := by assumption
    have e2 : (t == cd "PROCEDURE") = false := by assumption
    have e3 : (t == cd "BEGIN") = false := by assumption
    refine c_write_at (d := st.top.base + 1) (by walk_at "om") hf hs (by walk_at "om") hj fun H5 hf5 => ?_
    walk_at "go"
    exact h _ _ (by unfold partS; rw [if_neg (by rw [e1]; decide), if_neg (by rw [e2]; decide), if_neg (by rw [e3]; decide)]; exact hf5)
noncomputable def secS (st : FS) (kd t : List Nat) : FS := { setSec (endRow (writeAt st kd t (st.top.base + 1))) t with naming := true }
theorem c_section (hn : 4 ≤ n) (hf : FmtAt B f i H st) (hs : Small st k) (hk : k + 8 ≤ lim) (hj : B j = some (itemO kd t a)) (ht : t ≠ []) (htl : t.length ≤ 31) (h : ∀ H', FmtAt B f i H' (secS st kd t) → Q .none H') : CallOk W n (.ref 333) [.ref f, .ref j] H Q := by
  obtain ⟨r, p, bl, uc, vb, hb, hu, ho⟩ := id hf
  refine call_def' D_Formatter_section (by walk_at "om") rfl (fun env ge hsc => ?_)
  refine oks_seq ?_
  walk_at "go"
  refine c_top (by walk_at "om") ho rfl ?_
  walk_at "go"
  refine c_write_at (d := st.top.base + 1) (by walk_at "om") hf hs (by walk_at "om") hj fun H5 hf5 => ?_
  have hs5 := hs.writeAt (kd := kd) (d := st.top.base + 1) htl (by have := hs.base; omega)
  obtain ⟨r, p, bl, uc, vb, hb, hu, ho⟩ := id hf5
  walk_at "go"
  refine c_end_row (by walk_at "om") hf5 hs5 (by walk_at "om") fun H6 hf6 => ?_
  obtain ⟨r, p, bl, uc, vb, hb, hu, ho⟩ := id hf6
  walk_at "go"
  refine ⟨B, f, r, p, bl, i, uc, _, _, _, _, { (endRow (writeAt st kd t (st.top.base + 1))).top with section_ := t }, rfl, ho, N182_section, rfl, fun H3 h3 _ => ?_⟩
  walk_at "go"
  rename_i h4 _
  exact h _ (fmt_of h4 hb hu rfl rfl rfl rfl)
end
end
section
section
variable {W : W0} {n : Nat} {H : List O} {Q : V → List O → Prop} {B : Nat → Option O} {f r p bl i j a : Nat} {uc : List (Nat × Blk)} {fs : List (String × V)} {rows pieces : List (List Nat)} {top : Blk} {st : FS} {k : Nat} {vb : V} {kd t : List Nat}
noncomputable def signA (st : FS) (t : List Nat) : Bool := t == cd "|" && st.top.word == cd "CASE" && (st.ob : Int) == 0
noncomputable def signR (st : FS) (kd t : List Nat) : FS :=
  if ([cd "(", cd "[", cd "{"]).contains t then bracketS st kd t
  else if ([cd ")", cd "]", cd "}"]).contains t then { writeS st kd t with ob := st.ob - 1 }
  else if t == cd "=" || t == cd ":" then
    (if t == cd ":" && (st.ob : Int) == 0 then setLab { writeS st kd t with naming := false } false else { writeS st kd t with naming := false })
  else if t == cd ";" && (st.ob : Int) == 0 then finS (writeS st kd t) else writeS st kd t
noncomputable def signS (st : FS) (kd t : List Nat) : FS := if signA st t then setLab (writeAt st kd t st.top.base) true else signR st kd t
theorem bf {b : Bool} (h : b = false) : ¬ b = true := by rw [h]; decide
theorem sR2 (e1 : ([cd "(", cd "[", cd "{"]).contains t = false) (e2 : ([cd ")", cd "]", cd "}"]).contains t = true) : signR st kd t = { writeS st kd t with ob := st.ob - 1 } := by unfold signR; rw [if_neg (bf e1), if_pos e2]
theorem c_sign (hn : 5 ≤ n) (hf : FmtAt B f i H st) (hs : Small st k) (hk : k + 16 ≤ lim) (hj : B j = some (itemO kd t a)) (ht : t ≠ []) (htl : t.length ≤ 31) (h : ∀ H' i', FmtAt B f i' H' (signS st kd t) → Q .none H') : CallOk W n (.ref 340) [.ref f, .ref j] H Q := by
  have key : ∀ (n : Nat) (env : Env), 4 ≤ n → GoodEnv env → env.scope = sS (mS 26 17) → (∀ H' i', FmtAt B f i' H' (signR st kd t) → Q .none H') →
      ExecsOk W n env ((bS (mS 26 17)).drop 3) [("self", .ref f), ("item", .ref j), ("text", .str t), ("block", .ref i)] H (fun fl _ H' => Q fl.val H') := by
    intro n env hn ge hsc h
    obtain ⟨r, p, bl, uc, vb, hb, hu, ho⟩ := id hf
    refine oks_seq ?_
    walk_at "go"
    · have e1 : ([cd "(", cd "[", cd "{"]).contains t = true := by assumption
      refine c_bracket (by walk_at "om") hf hs (by walk_at "om") hj ht htl fun H1 hf1 => ?_
      walk_at "go"
      exact h _ _ (by unfold signR; rw [if_pos e1]; exact hf1)
    · have e1 : ([cd "(", cd "[", cd "{"]).contains t = false := by assumption
      have n1 : ¬ ([cd "(", cd "[", cd "{"]).contains t = true := by rw [e1]; decide
      refine c_write (by walk_at "om") hf hs (by walk_at "om") hj ht htl fun H1 hf1 => ?_
      have hs1 := hs.writeS (kd := kd) htl
      obtain ⟨r, p, bl, uc, vb, hb, hu, ho⟩ := id hf1
      walk_at "g1"
      refine seq_next (oks_seq (ok_if (test_as (([cd ")", cd "]", cd "}"]).contains t) (by walk_at "tb") ⟨fun e2 => ?_, fun e2 => ?_⟩)))
      · refine oks_seq ?_
        walk_at "go"
        rename_i h3 _
        have hm : (max ((st.ob : Int) - 1) 0) = ((st.ob - 1 : Nat) : Int) := by walk_at "om"
        exact h _ _ (by rw [sR2 (by assumption) (by assumption)]; exact fmt_of h3 hb hu (congrArg (fun z => fsL vb r p bl { writeS st kd t with ob := z }) (rfl : st.ob - 1 = st.ob - 1) |> fun e => (by rw [← e]; show upd (fsL vb r p bl (writeS st kd t)) "open_brackets" (.int (max ((st.ob : Int) - 1) 0)) = _; rw [hm]; rfl)) rfl rfl rfl)
      · refine oks_seq (ok_if (test_as (t == cd "=" || t == cd ":") (by walk_at "tb") ⟨fun e3 => ?_, fun e3 => ?_⟩))
        · refine oks_seq ?_
          walk_at "g1"
          rename_i h3 _
          refine seq_next (oks_seq (ok_if (test_as (t == cd ":" && (st.ob : Int) == 0) (by walk_at "tb") ⟨fun e4 => ?_, fun e4 => ?_⟩)))
          · refine oks_seq ?_
            walk_at "g1"
            refine ⟨B, f, r, p, bl, i, uc, _, _, _, _, { (writeS st kd t).top with label := false }, rfl, h3, N182_label, rfl, fun H3 h4 _ => ?_⟩
            walk_at "go"
            exact h _ _ (by unfold signR; rw [if_neg (bf e1), if_neg (bf e2), if_pos e3, if_pos e4]; exact fmt_of h4 hb hu rfl rfl rfl rfl)
          · walk_at "go"
            exact h _ _ (by unfold signR; rw [if_neg (bf e1), if_neg (bf e2), if_pos e3, if_neg (bf e4)]; exact fmt_of h3 hb hu rfl rfl rfl rfl)
        · refine oks_seq (ok_if (test_as (t == cd ";" && (st.ob : Int) == 0) (by walk_at "tb") ⟨fun e4 => ?_, fun e4 => ?_⟩))
          · refine oks_seq ?_
            walk_at "go"
            refine c_finish (by walk_at "om") hf1 hs1 (by walk_at "om") fun H2 hf2 => ?_
            walk_at "go"
            exact h _ _ (by unfold signR; rw [if_neg (bf e1), if_neg (bf e2), if_neg (bf e3), if_pos e4]; exact hf2)
          · walk_at "go"
            exact h _ _ (by unfold signR; rw [if_neg (bf e1), if_neg (bf e2), if_neg (bf e3), if_neg (bf e4)]; exact hf1)
  obtain ⟨r, p, bl, uc, vb, hb, hu, ho⟩ := id hf
  refine call_def' D_Formatter_sign (by walk_at "om") rfl (fun env ge hsc => ?_)
  refine oks_seq ?_
  walk_at "g1"
  refine seq_next (oks_seq ?_)
  walk_at "g1"
  refine c_top (by walk_at "om") ho rfl ?_
  walk_at "g1"
  refine seq_next (oks_seq ?_)
  walk_at "g1"
  · have a1 : (t == cd "|") = true := by assumption
    have a2 : (st.top.word == cd "CASE") = true := by assumption
    have a3 : ((st.ob : Int) == 0) = true := by assumption
    refine c_write_at (d := st.top.base) (by walk_at "om") hf hs (by walk_at "om") hj fun H1 hf1 => ?_
    obtain ⟨r, p, bl, uc, vb, hb, hu, ho⟩ := id hf1
    walk_at "go"
    refine ⟨B, f, r, p, bl, i, uc, _, _, _, _, { (writeAt st kd t st.top.base).top with label := true }, rfl, ho, N182_label, rfl, fun H3 h3 _ => ?_⟩
    walk_at "go"
    exact h _ _ (by unfold signS signA; rw [if_pos (by rw [a1, a2, a3]; rfl)]; exact fmt_of h3 hb hu rfl rfl rfl rfl)
  all_goals
    have hno : signA st t = false := by
      unfold signA
      first
        | (have a1 : (t == cd "|") = false := by assumption
           rw [a1]; rfl)
        | (have a1 : (st.top.word == cd "CASE") = false := by assumption
           rw [a1, Bool.and_false]; rfl)
        | (have a1 : ((st.ob : Int) == 0) = false := by assumption
           rw [a1, Bool.and_false])
    walk_at "ge"
    exact key (n - 1) env (by walk_at "om") ge hsc (fun H' i' hh => h H' i' (by unfold signS; rw [if_neg (bf hno)]; exact hh))
end
end
section
section
variable {W : W0} {n : Nat} {H : List O} {Q : V → List O → Prop} {B : Nat → Option O} {f r p bl i j a : Nat} {uc : List (Nat × Blk)} {fs : List (String × V)} {rows pieces : List (List Nat)} {top : Blk} {st : FS} {k : Nat} {vb : V} {kd t : List Nat}
noncomputable def w1 : List (List Nat) := ["IF", "WHILE", "FOR", "CASE", "REPEAT", "RECORD"].map cd
noncomputable def w2 : List (List Nat) := ["THEN", "DO", "ELSE", "ELSIF", "OF"].map cd
noncomputable def w3 : List (List Nat) := ["MODULE", "PROCEDURE", "BEGIN", "RETURN", "IMPORT"].map cd
noncomputable def w4 : List (List Nat) := ["CONST", "TYPE", "VAR"].map cd
noncomputable def endS (st : FS) (kd t : List Nat) : FS := let s := endRow { st with naming := false }; writeAt (popS s) kd t (popB s)
noncomputable def wordS (st : FS) (kd t : List Nat) : FS :=
  if w1.contains t then openS st kd t
  else if w2.contains t then midS st kd t
  else if t == cd "END" || t == cd "UNTIL" then endS st kd t
  else if w3.contains t then partS st kd t
  else if w4.contains t && (st.ob : Int) == 0 then secS st kd t
  else if t == cd "ARRAY" then writeS { st with arrays := st.arrays + 1 } kd t else writeS st kd t
theorem Small.pop (h : Small st k) : Small (popS st) k := by
  unfold popS
  have hb := h.bases
  have hu := h.under
  cases e : st.under with
  | nil => exact h
  | cons b u =>
    rw [e] at hb hu
    exact ⟨h.rows, h.pieces, h.sum, h.depth, Nat.le_trans (Nat.le_succ _) hu, hb b List.mem_cons_self, fun c hc => hb c (List.mem_cons_of_mem _ hc)⟩
theorem popB_le (h : Small st k) : popB st ≤ k := by
  unfold popB
  split
  · omega
  · exact h.base
theorem wS1 (a : w1.contains t = true) : wordS st kd t = openS st kd t := by unfold wordS; rw [if_pos a]
theorem wS2 (a : w1.contains t = false) (b : w2.contains t = true) : wordS st kd t = midS st kd t := by unfold wordS; rw [if_neg (bf a), if_pos b]
theorem wS3 (a : w1.contains t = false) (b : w2.contains t = false) (c : (t == cd "END" || t == cd "UNTIL") = true) : wordS st kd t = endS st kd t := by unfold wordS; rw [if_neg (bf a), if_neg (bf b), if_pos c]
theorem wS4 (a : w1.contains t = false) (b : w2.contains t = false) (c : (t == cd "END") = false) (c' : (t == cd "UNTIL") = false) (d : w3.contains t = true) : wordS st kd t = partS st kd t := by
  unfold wordS; rw [if_neg (bf a), if_neg (bf b), if_neg (by rw [c, c']; decide), if_pos d]
theorem wS7 (a : w1.contains t = false) (b : w2.contains t = false) (c : (t == cd "END") = false) (c' : (t == cd "UNTIL") = false) (d : w3.contains t = false) (e : (w4.contains t && (st.ob : Int) == 0) = false) (g : (t == cd "ARRAY") = false) : wordS st kd t = writeS st kd t := by
  unfold wordS; rw [if_neg (bf a), if_neg (bf b), if_neg (by rw [c, c']; decide), if_neg (bf d), if_neg (bf e), if_neg (bf g)]
theorem c_word (hn : 6 ≤ n) (hf : FmtAt B f i H st) (hs : Small st k) (hk : k + 16 ≤ lim) (hj : B j = some (itemO kd t a)) (ht : t ≠ []) (htl : t.length ≤ 31) (hrec : (t == cd "RECORD") = false) (h : ∀ H' i', FmtAt B f i' H' (wordS st kd t) → Q .none H') : CallOk W n (.ref 298) [.ref f, .ref j] H Q := by
  obtain ⟨r, p, bl, uc, vb, hb, hu, ho⟩ := id hf
  refine call_def' D_Formatter_word (by walk_at "om") rfl (fun env ge hsc => ?_)
  unfold wordS at h
  refine oks_seq ?_
  walk_at "g1"
  refine seq_next (oks_seq (ok_if (test_as (w1.contains t) (by walk_at "tb") ⟨fun a1 => ?_, fun a1 => ?_⟩)))
  · rw [if_pos a1] at h
    refine oks_seq ?_
    walk_at "go"
    refine c_opening (by walk_at "om") hf hs (by walk_at "om") hj ht htl hrec fun H1 i1 hf1 => ?_
    walk_at "go"
    exact h _ _ hf1
  rw [if_neg (bf a1)] at h
  refine oks_seq (ok_if (test_as (w2.contains t) (by walk_at "tb") ⟨fun a2 => ?_, fun a2 => ?_⟩))
  · rw [if_pos a2] at h
    refine oks_seq ?_
    walk_at "go"
    refine c_middle (by walk_at "om") hf hs (by walk_at "om") hj ht htl fun H1 i1 hf1 => ?_
    walk_at "go"
    exact h _ _ hf1
  rw [if_neg (bf a2)] at h
  refine oks_seq (ok_if (test_as (t == cd "END" || t == cd "UNTIL") (by walk_at "tb") ⟨fun a3 => ?_, fun a3 => ?_⟩))
  · rw [if_pos a3] at h
    refine oks_seq ?_
    walk_at "go"
    rename_i h3 _
    have hf3 : FmtAt B f i _ { st with naming := false } := fmt_of h3 hb hu rfl rfl rfl rfl
    have hs3 : Small { st with naming := false } k := ⟨hs.rows, hs.pieces, hs.sum, hs.depth, hs.under, hs.base, hs.bases⟩
    refine c_end_row (by walk_at "om") hf3 hs3 (by walk_at "om") fun H1 hf1 => ?_
    obtain ⟨r, p, bl, uc, vb, hb, hu, ho⟩ := id hf1
    walk_at "go"
    refine c_pop (by walk_at "om") hf1 hs3.endRow (by walk_at "om") fun H2 i2 hf2 => ?_
    walk_at "go"
    refine c_write_at (by walk_at "om") hf2 hs3.endRow.pop (by walk_at "om") hj fun H4 hf4 => ?_
    walk_at "go"
    exact h _ _ hf4
  rw [if_neg (bf a3)] at h
  refine oks_seq (ok_if (test_as (w3.contains t) (by walk_at "tb") ⟨fun a4 => ?_, fun a4 => ?_⟩))
  · rw [if_pos a4] at h
    refine oks_seq ?_
    walk_at "go"
    refine c_part (by walk_at "om") hf hs (by walk_at "om") hj ht htl fun H1 i1 hf1 => ?_
    walk_at "go"
    exact h _ _ hf1
  rw [if_neg (bf a4)] at h
  refine oks_seq (ok_if (test_as (w4.contains t && (st.ob : Int) == 0) (by walk_at "tb") ⟨fun a5 => ?_, fun a5 => ?_⟩))
  · rw [if_pos a5] at h
    refine oks_seq ?_
    walk_at "go"
    refine c_section (by walk_at "om") hf hs (by walk_at "om") hj ht htl fun H1 hf1 => ?_
    walk_at "go"
    exact h _ _ hf1
  rw [if_neg (bf a5)] at h
  refine oks_seq (ok_if (test_as (t == cd "ARRAY") (by walk_at "tb") ⟨fun a6 => ?_, fun a6 => ?_⟩))
  · rw [if_pos a6] at h
    refine oks_seq ?_
    walk_at "go"
    rename_i h3 _
    have hf3 : FmtAt B f i _ { st with arrays := st.arrays + 1 } := fmt_of h3 hb hu rfl rfl rfl rfl
    refine c_write (by walk_at "om") hf3 ⟨hs.rows, hs.pieces, hs.sum, hs.depth, hs.under, hs.base, hs.bases⟩ (by walk_at "om") hj ht htl fun H1 hf1 => ?_
    walk_at "go"
    exact h _ _ hf1
  · rw [if_neg (bf a6)] at h
    walk_at "go"
    refine c_write (by walk_at "om") hf hs (by walk_at "om") hj ht htl fun H1 hf1 => ?_
    walk_at "go"
    exact h _ _ hf1
noncomputable def tokS (st : FS) (kd t : List Nat) : FS := if kd == cd "word" then wordS st kd t else if kd == cd "sign" then signS st kd t else writeS st kd t
theorem c_token (hn : 7 ≤ n) (hf : FmtAt B f i H st) (hs : Small st k) (hk : k + 16 ≤ lim) (hj : B j = some (itemO kd t a)) (ht : t ≠ []) (htl : t.length ≤ 31) (hrec : (t == cd "RECORD") = false) (h : ∀ H' i', FmtAt B f i' H' (tokS st kd t) → Q .none H') : CallOk W n (.ref 277) [.ref f, .ref j] H Q := by
  obtain ⟨r, p, bl, uc, vb, hb, hu, ho⟩ := id hf
  refine call_def' D_Formatter_token (by walk_at "om") rfl (fun env ge hsc => ?_)
  refine oks_seq ?_
  walk_at "go"
  · have e1 : (kd == cd "word") = true := by assumption
    refine c_word (by walk_at "om") hf hs hk hj ht htl hrec fun H1 i1 hf1 => ?_
    walk_at "go"
    exact h _ _ (by unfold tokS; rw [if_pos e1]; exact hf1)
  · have e1 : (kd == cd "word") = false := by assumption
    have e2 : (kd == cd "sign") = true := by assumption
    refine c_sign (by walk_at "om") hf hs hk hj ht htl fun H1 i1 hf1 => ?_
    walk_at "go"
    exact h _ _ (by unfold tokS; rw [if_neg (bf e1), if_pos e2]; exact hf1)
  · have e1 : (kd == cd "word") = false := by assumption
    have e2 : (kd == cd "sign") = false := by assumption
    refine c_write (by walk_at "om") hf hs (by walk_at "om") hj ht htl fun H1 hf1 => ?_
    walk_at "go"
    exact h _ _ (by unfold tokS; rw [if_neg (bf e1), if_neg (bf e2)]; exact hf1)
end
end
section
section
variable {W : W0} {n : Nat} {H : List O} {Q : V → List O → Prop} {B : Nat → Option O} {f r p bl i j a : Nat} {st : FS} {k : Nat} {vb : V} {kd t : List Nat}
theorem small_like {st st' : FS} (h : Small st k) (e1 : st'.rows = st.rows) (e2 : st'.pieces = st.pieces) (e3 : st'.depth = st.depth) (e4 : st'.under = st.under) (e5 : st'.top.base = st.top.base) : Small st' k :=
  ⟨e1 ▸ h.rows, e2 ▸ h.pieces, e2 ▸ h.sum, e3 ▸ h.depth, e4 ▸ h.under, e5 ▸ h.base, e4 ▸ h.bases⟩
theorem small_openS (h : Small st k) (ht : t.length ≤ 31) : Small (openS st kd t) (k + 4) := by
  unfold openS
  split
  · exact ((h.writeS ht).pushS).endRow
  · exact Small.le (k := k + 3) ((h.writeS ht).pushS) (by walk_at "om")
theorem small_midS (h : Small st k) (ht : t.length ≤ 31) : Small (midS st kd t) (k + 4) := by
  unfold midS
  split
  · exact Small.le (k := k + 2) (Small.writeS (small_like h rfl rfl rfl rfl rfl) ht) (by walk_at "om")
  · split
    · split
      · refine Small.le (k := k + 1 + 1) (Small.endRow (Small.writeAt h.lab ht ?_)) (by walk_at "om")
        have := h.base; omega
      · refine Small.le (k := k + 1) (Small.writeAt h.lab ht ?_) (by walk_at "om")
        have := h.base; omega
    · exact Small.le (k := k + 3) ((h.writeS ht).endRow.lab) (by walk_at "om")
theorem small_endS (h : Small st k) (ht : t.length ≤ 31) : Small (endS st kd t) (k + 4) := by
  have h0 : Small ({ st with naming := false } : FS) k := small_like h rfl rfl rfl rfl rfl
  have h1 : Small (endRow { st with naming := false }) (k + 1) := Small.endRow h0
  have h2 := popB_le h1
  unfold endS
  refine Small.le (k := k + 1 + 1) (Small.writeAt h1.pop ht ?_) (by walk_at "om")
  omega
theorem small_procTail (h : Small st k) (ht : t.length ≤ 31) : Small (procTail st kd t) (k + 3) := small_like (h.writeS (kd := kd) ht).pushS rfl rfl rfl rfl rfl
theorem small_partS (h : Small st k) (ht : t.length ≤ 31) : Small (partS st kd t) (k + 4) := by
  unfold partS
  split
  · exact Small.le (k := k + 3) (small_like ((h.writeS (kd := kd) ht).pushS (w := cd "MODULE")) rfl rfl rfl rfl rfl) (by walk_at "om")
  · split
    · unfold procS
      split
      · split
        · exact Small.le (k := k + 3) (small_procTail h.sec ht) (by walk_at "om")
        · exact Small.le (k := k + 1 + 3) (small_procTail h.sec.addRow ht) (by walk_at "om")
      · exact Small.le (k := k + 2) (h.writeS ht) (by walk_at "om")
    · split
      · refine Small.le (k := k + 1 + 1) (Small.endRow (Small.writeAt (small_like h rfl rfl rfl rfl rfl) ht ?_)) (by walk_at "om")
        have := h.base; omega
      · refine Small.le (k := k + 1) (Small.writeAt h ht ?_) (by walk_at "om")
        have := h.base; omega
theorem small_secS (h : Small st k) (ht : t.length ≤ 31) : Small (secS st kd t) (k + 4) := by
  have h1 : Small (writeAt st kd t (st.top.base + 1)) (k + 1) := Small.writeAt h ht (by have := h.base; omega)
  have h2 : Small (setSec (endRow (writeAt st kd t (st.top.base + 1))) t) (k + 2) := h1.endRow.sec
  exact Small.le (k := k + 2) (small_like h2 rfl rfl rfl rfl rfl) (by walk_at "om")
theorem small_signS (h : Small st k) (ht : t.length ≤ 31) : Small (signS st kd t) (k + 4) := by
  have hw := h.writeS (kd := kd) ht
  unfold signS
  split
  · refine Small.le (k := k + 1) (Small.lab (Small.writeAt h ht ?_)) (by walk_at "om")
    have := h.base; omega
  · unfold signR
    split
    · exact Small.le (k := k + 2) (small_like hw rfl rfl rfl rfl rfl) (by walk_at "om")
    · split
      · exact Small.le (k := k + 2) (small_like hw rfl rfl rfl rfl rfl) (by walk_at "om")
      · split
        · split
          · exact Small.le (k := k + 2) (Small.lab (small_like hw rfl rfl rfl rfl rfl)) (by walk_at "om")
          · exact Small.le (k := k + 2) (small_like hw rfl rfl rfl rfl rfl) (by walk_at "om")
        · split
          · exact Small.le (k := k + 3) (small_like hw.endRow rfl rfl rfl rfl rfl) (by walk_at "om")
          · exact Small.le (k := k + 2) hw (by walk_at "om")
theorem small_tokS (h : Small st k) (ht : t.length ≤ 31) : Small (tokS st kd t) (k + 4) := by
  unfold tokS
  split
  · unfold wordS
    split
    · exact small_openS h ht
    · split
      · exact small_midS h ht
      · split
        · exact small_endS h ht
        · split
          · exact small_partS h ht
          · split
            · exact small_secS h ht
            · split
              · exact Small.le (k := k + 2) (Small.writeS (small_like h rfl rfl rfl rfl rfl) ht) (by walk_at "om")
              · exact Small.le (k := k + 2) (h.writeS ht) (by walk_at "om")
  · split
    · exact small_signS h ht
    · exact Small.le (k := k + 2) (h.writeS ht) (by walk_at "om")
/-- what stood, and what has come since -/
noncomputable def baseB (H H1 H2 : List O) (i : Nat) : Option O := if i < H1.length then H[i]? else H2[i]?
theorem Own.rebase {H1 X : List O} {cs : List (Nat × O)} (h : Own (fun i => H[i]?) H1 cs) : Own (baseB H H1 (H1 ++ X)) (H1 ++ X) cs := by
  have hlt : ∀ c ∈ cs, c.1 < H1.length := fun c hc => lt_of_get (h.at_ c hc)
  refine ⟨fun c hc => ?_, h.nd, fun i o e => ?_, fun i o e => ?_⟩
  · rw [List.getElem?_append_left (hlt c hc)]; exact h.at_ c hc
  · unfold baseB at e
    split at e
    · have := h.base i o e
      rw [List.getElem?_append_left (lt_of_get this)]; exact this
    · exact e
  · unfold baseB at e
    split at e
    · exact h.out i o e
    · rename_i hi
      intro hm
      obtain ⟨c, hc, rfl⟩ := List.mem_map.mp hm
      exact hi (hlt c hc)
theorem FmtAt.rebase {H1 X : List O} (h : FmtAt (fun i => H[i]?) f i H1 fs0) : FmtAt (baseB H H1 (H1 ++ X)) f i (H1 ++ X) fs0 := by
  obtain ⟨r, p, bl, uc, vb, hb, hu, ho⟩ := h
  exact ⟨r, p, bl, uc, vb, hb, hu, ho.rebase⟩
end
end
section
section
variable {W : W0} {n : Nat} {H : List O} {Q : V → List O → Prop}
/-- the writer's steps over the segments of a text -/
noncomputable def runS (st : FS) (t : List Nat) : FS := if t = [32] then st else tokS st (kindT t) t
noncomputable def runs (ts : List (List Nat)) : FS := ts.foldl runS fs0
noncomputable def TokOk (t : List Nat) : Prop := t = [32] ∨ (t ≠ [] ∧ t.length ≤ 31 ∧ (t == cd "RECORD") = false)
theorem runs_snoc (ts : List (List Nat)) (t : List Nat) : runs (ts ++ [t]) = runS (runs ts) t := by unfold runs; rw [List.foldl_append]; rfl
theorem small_runs : ∀ (ts : List (List Nat)), (∀ t ∈ ts, TokOk t) → Small (runs ts) (4 * ts.length) := by
  intro ts
  generalize hk : ts.length = k
  induction k generalizing ts with
  | zero =>
    intro _
    rw [List.length_eq_zero_iff.mp hk]
    exact ⟨Nat.zero_le _, Nat.zero_le _, Nat.zero_le _, Nat.zero_le _, Nat.zero_le _, Nat.zero_le _, fun b hb => by cases hb⟩
  | succ k ih =>
    intro h
    have hne : ts ≠ [] := by rintro rfl; simp at hk
    rw [← List.dropLast_concat_getLast hne] at h ⊢
    have h1 := ih ts.dropLast (by simp [hk]) (fun t ht => h t (by simp [ht]))
    rw [runs_snoc]
    unfold runS
    split
    · exact h1.le (by walk_at "om")
    · rename_i hn
      rcases h (ts.getLast hne) (by simp) with h2 | h2
      · exact absurd h2 hn
      · exact Small.le (k := 4 * k + 4) (small_tokS h1 h2.2.1) (by walk_at "om")
theorem kindT_ne (t : List Nat) : (kindT t == cd "stray") = false ∧ (kindT t == cd "gap") = false ∧ (kindT t == cd "remark") = false := by
  unfold kindT
  split
  · split <;> decide
  · split <;> decide
theorem comp_free {env : Env} {ρ : Rho} {x : String} {g c : Bool} (hx : Str.ofString x ≠ Str.ofString ".0") : CompEnv { kind := .function, names := [(Str.ofString ".0", .local), (Str.ofString x, .local)], isGenerator := g, isCoroutine := c } env ρ [] [] x where
  clos := by rfl
  kind := rfl
  names := by
    intro y hy _
    simp only [List.mem_cons, List.not_mem_nil, or_false] at hy
    rcases hy with rfl | rfl
    · rfl
    · simp only [List.lookup_cons]
      rw [beq_eq_false_iff_ne.mpr hx, beq_self_eq_true]
  cell := by
    intro y hy
    simp only [List.mem_cons, List.not_mem_nil, or_false] at hy
    rcases hy with rfl | rfl <;> simp
  var := by
    simp only [List.lookup_cons]
    rw [beq_eq_false_iff_ne.mpr hx, beq_self_eq_true]
  cap := fun y v e => by cases e
theorem sum_mem : ∀ {l : List Nat} {a : Nat}, a ∈ l → a ≤ l.sum
  | b :: l, a, h => by
    rw [List.sum_cons]
    rcases List.mem_cons.mp h with rfl | h
    · omega
    · have := sum_mem h; omega
noncomputable def rowsOut (st : FS) : List (List Nat) := (endRow st).rows.map fun x => x ++ [10]
noncomputable def outS (st : FS) : List Nat := (rowsOut st).flatten
theorem c_formatted {segs : List (List Nat)} (hn : 9 ≤ n) (hx : segs.flatten.length ≤ sizeLine) (hm : segs.length ≤ 20000) (hs : Segs segs) (hto : ∀ t ∈ segs, TokOk t) (hro : ((rowsOut (runs segs)).map List.length).sum + (rowsOut (runs segs)).length * 64 ≤ 16777216)
    (h : ∀ H' : List O, (∀ (i : Nat) (o : O), H[i]? = some o → H'[i]? = some o) → Q (.str (outS (runs segs))) H') : CallOk W n (.ref 366) [.str segs.flatten] H Q := by
  refine call_def' D_formatted (by walk_at "om") rfl (fun env ge hsc => ?_)
  refine oks_seq ?_
  walk_at "go"
  refine c_fmt (by walk_at "om") fun H1 i0 hf1 hl1 => ?_
  walk_at "g1"
  refine seq_next (oks_seq ?_)
  walk_at "g1"
  refine seq_next (oks_seq (ok_for (kind_of (by assumption) (by kernel_rfl)) ?_))
  walk_at "g1"
  have hmm : segs.length ≤ sizeLine := by rw [sizeLine_eq]; omega
  refine c_source_items (by walk_at "om") hx hmm hs ?_
  have hlim2 : lim = 100000 := rfl
  have hf2 := hf1.rebase (X := .list (refsFrom (H1.length + 1) segs.length) :: itemsO segs 0)
  have hB : ∀ m t, segs[m]? = some t → ∃ a, baseB H H1 (H1 ++ .list (refsFrom (H1.length + 1) segs.length) :: itemsO segs 0) (H1.length + 1 + m) = some (itemO (kindG t) t a) := by
    intro m t ht
    unfold baseB
    rw [if_neg (by walk_at "om"), List.getElem?_append_right (by walk_at "om"), show H1.length + 1 + m - H1.length = m + 1 by walk_at "om", List.getElem?_cons_succ]
    have key : ∀ (l : List (List Nat)) (a m : Nat), l[m]? = some t → ∃ b, (itemsO l a)[m]? = some (itemO (kindG t) t b) := by
      intro l
      induction l with
      | nil => intro a m e; simp at e
      | cons x r ih =>
        intro a m e
        cases m with
        | zero => simp at e; subst e; exact ⟨a, rfl⟩
        | succ m => exact ih _ m (by simpa using e)
    exact key segs 0 m ht
  have hL : baseB H H1 (H1 ++ .list (refsFrom (H1.length + 1) segs.length) :: itemsO segs 0) H1.length = some (.list (refsFrom (H1.length + 1) segs.length)) := by
    unfold baseB; rw [if_neg (by walk_at "om")]; simp
  have hBH : ∀ (i : Nat) (o : O), H[i]? = some o → baseB H H1 (H1 ++ .list (refsFrom (H1.length + 1) segs.length) :: itemsO segs 0) i = some o := by
    intro i o e
    unfold baseB; rw [if_pos (by have := lt_of_get e; omega)]; exact e
  generalize baseB H H1 (H1 ++ .list (refsFrom (H1.length + 1) segs.length) :: itemsO segs 0) = B at hf2 hB hL hBH
  refine ⟨refsFrom (H1.length + 1) segs.length, fun m ρ' H' => Sub ρ' [("writer", .ref H.length)] ∧ ∃ i, FmtAt B H.length i H' (runs (segs.take m)), ?_, ?_, ?_, ?_⟩
  · exact ⟨sub_cons rfl sub_nil, i0, hf2⟩
  · rintro m ρ' H' _ ⟨_, i, r, p, bl, uc, vb, hb, hu, ho⟩
    exact .inr (.inl ⟨H1.length, rfl, ho.base _ _ hL⟩)
  · rintro m v ρ' H' hv ⟨hsub, i, hf⟩
    have hml : m < segs.length := by have := lt_of_get hv; simpa [refsFrom] using this
    obtain ⟨t, ht⟩ : ∃ t, segs[m]? = some t := ⟨segs[m], by simp [hml]⟩
    have hv' : v = .ref (H1.length + 1 + m) := by simp [refsFrom, hml] at hv; exact hv.symm
    subst hv'
    obtain ⟨a, hj⟩ := hB m t ht
    obtain ⟨r, p, bl, uc, vb, hb, hu, ho⟩ := id hf
    have hj' := ho.base _ _ hj
    have htake : segs.take (m + 1) = segs.take m ++ [t] := by rw [List.take_add_one, ht]; rfl
    have hsm := small_runs (segs.take m) fun t ht => hto t (List.mem_of_mem_take ht)
    have hsm2 : Small (runs (segs.take m)) (4 * segs.length) := hsm.le (by rw [List.length_take]; omega)
    have hmem : t ∈ segs := List.mem_of_getElem? ht
    refine oks_sub (L := [("item", .ref (H1.length + 1 + m)), ("writer", .ref H.length)]) (sub_cons (by rw [upd_lookup, if_pos rfl]) (sub_cons (by rw [upd_lookup, if_neg (by decide)]; exact hsub _ _ rfl) sub_nil)) ?_
    by_cases hg : t = [32]
    · subst hg
      have e : kindG [32] = cd "gap" := rfl
      rw [e] at hj hj'
      have hst : runs (segs.take (m + 1)) = runs (segs.take m) := by rw [htake, runs_snoc]; rfl
      refine oks_seq (ok_if (test_as false ?_ ⟨fun e => (by cases e), fun _ => ?_⟩))
      · walk_at "tt"
        exact ⟨by decide, rfl⟩
      walk_at "ge"
      refine oks_seq (ok_if (test_as true ?_ ⟨fun _ => ?_, fun e => (by cases e)⟩))
      · walk_at "tt"
        exact ⟨by decide, rfl⟩
      refine oks_seq ?_
      walk_at "g1"
      refine op_in_char (c := 10) ?_
      walk_at "go"
      · exact ⟨sub_cons rfl sub_nil, i, by rw [hst]; exact hf⟩
      · exact ⟨sub_cons rfl sub_nil, i, by rw [hst]; exact hf⟩
    · have hk1 : kindG t = kindT t := by unfold kindG; rw [if_neg hg]
      rw [hk1] at hj hj'
      obtain ⟨k1, k2, k3⟩ := kindT_ne t
      rcases hto t hmem with h2 | ⟨h2, h3, h4⟩
      · exact absurd h2 hg
      have hst : runs (segs.take (m + 1)) = tokS (runs (segs.take m)) (kindT t) t := by rw [htake, runs_snoc]; unfold runS; rw [if_neg hg]
      refine oks_seq (ok_if (test_as false ?_ ⟨fun e => (by cases e), fun _ => ?_⟩))
      · walk_at "tt"
        exact ⟨k1, rfl⟩
      walk_at "ge"
      refine oks_seq (ok_if (test_as false ?_ ⟨fun e => (by cases e), fun _ => ?_⟩))
      · walk_at "tt"
        exact ⟨k2, rfl⟩
      refine oks_seq (ok_if (test_as false ?_ ⟨fun e => (by cases e), fun _ => ?_⟩))
      · walk_at "tt"
        exact ⟨k3, rfl⟩
      refine oks_seq ?_
      walk_at "go"
      · refine c_token (by walk_at "om") hf hsm2 (by walk_at "om") hj h2 h3 h4 fun H2 i2 hf3 => ?_
        walk_at "go"
        exact ⟨sub_cons rfl sub_nil, i2, by rw [hst]; exact hf3⟩
  · rintro ρ' H' ⟨hsub, i, hf⟩
    refine seq_next ?_
    refine oks_sub (L := [("writer", .ref H.length)]) (sub_cons (hsub _ _ rfl) sub_nil) ?_
    obtain ⟨r, p, bl, uc, vb, hb, hu, ho⟩ := id hf
    refine oks_seq ?_
    walk_at "go"
    have hall : segs.take (refsFrom (H1.length + 1) segs.length).length = segs := List.take_of_length_le (by simp [refsFrom])
    rw [hall] at hf
    have hsm := small_runs segs hto
    refine c_end_row (by walk_at "om") hf hsm (by walk_at "om") fun H2 hf2 => ?_
    obtain ⟨r, p, bl, uc, vb, hb, hu, ho⟩ := hf2
    walk_at "go"
    refine ⟨_, rfl, ?_⟩
    refine ok_comp (ρc := []) (cl := []) (comp_free (by decide +kernel)) ?_
    walk_at "go"
    have hrl : (endRow (runs segs)).rows.length * 64 ≤ 16777216 := by
      have : (rowsOut (runs segs)).length = (endRow (runs segs)).rows.length := by unfold rowsOut; simp
      omega
    refine ⟨(endRow (runs segs)).rows.map V.str, fun j vs H' => H' = H2 ∧ vs = ((endRow (runs segs)).rows.take j).map (fun x => V.str (x ++ [10])), ⟨rfl, rfl⟩, ?_, by rw [List.length_map, sizeLine_eq]; omega, ?_, ?_⟩
    · rintro j vs H' _ ⟨rfl, _⟩
      exact .inr (.inl ⟨r, rfl, ho.c1⟩)
    · rintro cenv hge hcs j v vs ρ' H' hv hvl ⟨rfl, rfl⟩ hρ hxx
      obtain ⟨x, hx1, rfl⟩ : ∃ x, (endRow (runs segs)).rows[j]? = some x ∧ v = .str x := by
        rw [List.getElem?_map] at hv
        cases e : (endRow (runs segs)).rows[j]? with
        | none => rw [e] at hv; cases hv
        | some x => rw [e] at hv; cases hv; exact ⟨x, rfl, rfl⟩
      have hxl : x.length + 1 ≤ 16777216 := by
        have h1 : (x ++ [10]).length ∈ (rowsOut (runs segs)).map List.length := List.mem_map_of_mem (List.mem_map_of_mem (List.mem_of_getElem? hx1))
        have h2 := sum_mem h1
        rw [List.length_append] at h2
        simp at h2; omega
      walk_at "go"
      refine op_add_str (by rw [sizeLine_eq]; simp [cd]; omega) ⟨rfl, ?_⟩
      rw [List.take_add_one, hx1, List.map_append]
      rfl
    · rintro vs H' hl ⟨rfl, rfl⟩
      rw [List.length_map, List.take_length]
      refine ⟨rowsOut (runs segs), .inl ?_, by decide, hro, ?_⟩
      · unfold rowsOut; rw [List.map_map]; rfl
      · rw [join_empty]
        walk_at "go"
        exact h _ fun i o e => ho.base _ _ (hBH i o e)
end
end
section
section
variable {W : W0} {n : Nat} {H : List O} {Q : V → List O → Prop} {B : Nat → Option O}
theorem Own.grow {l : List (Nat × O)} {o : O} (h : Own B H l) : Own B (H ++ [o]) l := h.new.tail
noncomputable def PoolAt (B : Nat → Option O) (q s : Nat) (H : List O) : Prop := ∃ w, ∃ (ws : List Int), ∃ turn sp : Int, ws.length ≤ 400 ∧ Own B H [(q, .list [.ref w, .int turn]), (w, .list (ws.map V.int)), (s, .list [.int sp])]
end
section
variable {W : W0} {n : Nat} {H : List O} {Q : V → List O → Prop} {B : Nat → Option O} {q s : Nat}
theorem fmod_lt {a b : Int} (h : 0 < b) : 0 ≤ a.fmod b ∧ a.fmod b < b := ⟨Int.fmod_nonneg_of_pos a h, Int.fmod_lt_of_pos a h⟩
theorem c_pick {ways : Int} (hn : 1 ≤ n) (hp : PoolAt B q s H) (hw : 0 < ways) (h : ∀ H' v, PoolAt B q s H' → 0 ≤ v → v < ways → Q (.int v) H') : CallOk W n (.ref 380) [.ref q, .int ways] H Q := by
  obtain ⟨w, ws, turn, sp, hl, ho⟩ := hp
  refine call_def' D_law_pick (by walk_at "om") rfl (fun env ge hsc => ?_)
  refine oks_seq ?_
  walk_at "g1"
  refine sub_ref ho.at0 (by decide) rfl ?_
  walk_at "g1"
  have ho2 := ho.grow (o := .list [])
  refine op_ne_ints (xs := ws) (ys := []) ho2.tail.at0 (by simp) ?_
  walk_at "g1"
  · have hc : (!decide (ws = [])) = true := by assumption
    have hne : ws ≠ [] := by simpa using hc
    refine sub_ref ho2.at0 (by decide) rfl ?_
    obtain ⟨ws', x, rfl⟩ : ∃ ws' x, ws = ws' ++ [x] := ⟨ws.dropLast, ws.getLast hne, (List.dropLast_concat_getLast hne).symm⟩
    refine ⟨w, ws'.map V.int, .int x, rfl, by have := ho2.tail.at0; rw [List.map_append] at this; exact this, by rw [sizeLine_eq]; simp at hl ⊢; omega, ?_⟩
    have ho3 := Own.upd (l₁ := [(q, _)]) (o' := .list (ws'.map V.int)) ho2
    walk_at "g1"
    refine op_mod_int (by walk_at "om") ?_
    walk_at "go"
    obtain ⟨k1, k2⟩ := fmod_lt (a := x) hw
    exact h _ _ ⟨w, ws', turn, sp, by simp at hl; omega, ho3⟩ k1 k2
  · walk_at "ge"
    refine oks_seq ?_
    walk_at "g1"
    refine sub_ref ho2.at0 (by decide) rfl ?_
    walk_at "g1"
    · refine ok_assign_sub ?_
      walk_at "g1"
      refine sub_ref ho2.at0 (by decide) rfl ?_
      walk_at "g1"
      refine op_mul_int' (by decide) ?_
      walk_at "g1"
      refine op_mod_int (by decide) ?_
      walk_at "g1"
      refine ⟨q, _, 1, rfl, rfl, ho2.at0, by decide, by rfl, ?_⟩
      have ho3 := ho2.upd0 (o' := .list [.ref w, .int (max ((turn * 29 + 7).fmod 997) 1)])
      walk_at "ge"
      refine oks_seq ?_
      walk_at "g1"
      refine sub_ref ho3.at0 (by decide) rfl ?_
      walk_at "g1"
      refine op_mod_int (by walk_at "om") ?_
      walk_at "go"
      obtain ⟨k1, k2⟩ := fmod_lt (a := max ((turn * 29 + 7).fmod 997) 1) hw
      exact h _ _ ⟨w, ws, _, sp, hl, ho3⟩ k1 k2
    · walk_at "ge"
      refine oks_seq ?_
      walk_at "g1"
      refine sub_ref ho2.at0 (by decide) rfl ?_
      walk_at "g1"
      refine op_mod_int (by walk_at "om") ?_
      walk_at "go"
      obtain ⟨k1, k2⟩ := fmod_lt (a := turn) hw
      exact h _ _ ⟨w, ws, turn, sp, hl, ho2⟩ k1 k2
end
end
section
section
variable {W : W0} {n : Nat} {H : List O} {Q : V → List O → Prop} {B : Nat → Option O} {q s : Nat}
noncomputable def fB : Stmt → List Stmt
  | .For _ _ b _ _ => b
  | _ => []
theorem get_at {α : Type} {l : List α} {o : α} : (l ++ [o])[l.length]? = some o := by simp
theorem set_at {α : Type} {l : List α} {o o' : α} : (l ++ [o]).set l.length o' = l ++ [o'] := by simp
theorem c_stock {ns : List Int} (hn : 1 ≤ n) (hl : ns.length ≤ 63) (h : ∀ (ws : List Int) (turn : Int), ws.length ≤ 400 → Q (.ref (H.length + 1)) ((H ++ [.list (ws.map V.int)]) ++ [.list [.ref H.length, .int turn]])) : CallOk W n (.ref 373) [.lst (ns.map V.int)] H Q := by
  refine call_def' D_law_stock (by walk_at "om") rfl (fun env ge hsc => ?_)
  refine oks_seq ?_
  walk_at "g1"
  refine seq_next (oks_seq (ok_for (kind_of (by assumption) (by kernel_rfl)) ?_))
  have hsl : ns.length ≤ sizeLine := by rw [sizeLine_eq]; omega
  refine ok_slice_upto ?_
  walk_at "g1"
  refine ⟨ns.map V.int, 50, rfl, rfl, by simpa using hsl, ?_⟩
  refine ⟨(ns.map V.int).take 50, fun j ρ' H' => Sub ρ' [("script", .lst (ns.map V.int)), ("waiting", .ref H.length)] ∧ ∃ ws : List Int, H' = H ++ [.list (ws.map V.int)] ∧ (∀ y ∈ ws, 0 ≤ y ∧ y < 1000) ∧ ws.length ≤ 300 + j, ?_, ?_, ?_, ?_⟩
  · exact ⟨sub_cons rfl (sub_cons rfl sub_nil), [], rfl, by simp, by simp⟩
  · intro j ρ' H' _ _; exact .inl rfl
  · rintro j v ρ' H' hv ⟨hsub, ws, rfl, hws, hwl⟩
    obtain ⟨c, rfl⟩ : ∃ c, v = .int c := by
      have := List.mem_of_getElem? hv
      have := List.mem_of_mem_take this
      obtain ⟨c, _, rfl⟩ := List.mem_map.mp this
      exact ⟨c, rfl⟩
    have hj : j < 50 := by have := lt_of_get hv; simp at this; omega
    refine oks_sub (L := [("cell", .int c), ("script", .lst (ns.map V.int)), ("waiting", .ref H.length)]) (sub_cons (by rw [upd_lookup, if_pos rfl]) (sub_cons (by rw [upd_lookup, if_neg (by decide)]; exact hsub _ _ rfl) (sub_cons (by rw [upd_lookup, if_neg (by decide)]; exact hsub _ _ rfl) sub_nil))) ?_
    have key : ∀ r0 : Int, ExecsOk W (n - 1) env ((fB (((bS (tS 29))[1]?).getD default)).drop 1) [("cell", .int c), ("script", .lst (ns.map V.int)), ("waiting", .ref H.length), ("rest", .int r0)] (H ++ [.list (ws.map V.int)]) fun fl ρ'' H'' => match fl with
        | .next | .cont => Sub ρ'' [("script", .lst (ns.map V.int)), ("waiting", .ref H.length)] ∧ ∃ ws : List Int, H'' = H ++ [.list (ws.map V.int)] ∧ (∀ y ∈ ws, 0 ≤ y ∧ y < 1000) ∧ ws.length ≤ 300 + (j + 1)
        | .brk => False | .ret v => False := by
      intro r0
      refine oks_seq ?_
      walk_at "g1"
      refine ⟨_, rfl, ⟨_, get_at⟩, ?_⟩
      walk_at "g1"
      refine op_mod_int (by decide) ?_
      refine ⟨_, get_at, by rw [sizeLine_eq]; simp; omega, ?_⟩
      rw [set_at]
      refine seq_next (oks_seq ?_)
      walk_at "g1"
      refine op_div_int (by decide) (by decide) ?_
      refine seq_next (oks_seq ?_)
      obtain ⟨m1, m2⟩ := fmod_lt (a := r0) (b := 1000) (by decide)
      refine ok_while (fun k ρ1 H1 => ∃ (r : Int) (us : List Int), ρ1 = [("cell", .int c), ("script", .lst (ns.map V.int)), ("waiting", .ref H.length), ("rest", .int r)] ∧ H1 = H ++ [.list (us.map V.int)] ∧ (∀ y ∈ us, 0 ≤ y ∧ y < 1000) ∧ us.length ≤ 300 + (j + 1) ∧ k = 1000 - us.length) ?_ (1000 - (ws ++ [r0.fmod 1000]).length) ⟨_, ws ++ [r0.fmod 1000], rfl, by rw [List.map_append]; rfl, ?_, by simp; omega, rfl⟩
      · rintro k ρ1 H1 ⟨r, us, rfl, rfl, hu, hul, rfl⟩
        walk_at "g1"
        · refine call_len_ref get_at (by rw [sizeLine_eq]; simp; omega) ?_
          walk_at "g1"
          · have hc : decide ((((us.map V.int).length : Nat) : Int) < 300) = true := by assumption
            have hlt : us.length < 300 := by simp at hc; omega
            refine ⟨_, rfl, ⟨_, get_at⟩, ?_⟩
            walk_at "g1"
            refine op_mod_int (by decide) ?_
            refine ⟨_, get_at, by rw [sizeLine_eq]; simp; omega, ?_⟩
            rw [set_at]
            refine seq_next (oks_seq ?_)
            walk_at "g1"
            refine op_div_int (by decide) (by decide) ?_
            walk_at "ge"
            obtain ⟨m1, m2⟩ := fmod_lt (a := r) (b := 1000) (by decide)
            refine ⟨1000 - (us ++ [r.fmod 1000]).length, by simp; omega, _, us ++ [r.fmod 1000], rfl, by rw [List.map_append]; rfl, ?_, by simp; omega, rfl⟩
            intro y hy
            rcases List.mem_append.mp hy with hy | hy
            · exact hu y hy
            · simp at hy; subst hy; exact ⟨m1, m2⟩
          · walk_at "ge"
            exact ⟨sub_cons rfl (sub_cons rfl sub_nil), us, rfl, hu, hul⟩
        · walk_at "ge"
          exact ⟨sub_cons rfl (sub_cons rfl sub_nil), us, rfl, hu, hul⟩
      · intro y hy
        rcases List.mem_append.mp hy with hy | hy
        · exact hws y hy
        · simp at hy; subst hy; exact ⟨m1, m2⟩
    refine oks_seq ?_
    walk_at "g1"
    all_goals
      refine seq_next (oks_mono (key _) ?_)
      rintro fl ρ2 H2 hh
      cases fl with
      | next => exact hh
      | cont => exact hh
      | brk => exact hh.elim
      | ret v => exact hh.elim
  · rintro ρ' H' ⟨hsub, ws, rfl, hws, hwl⟩
    have hwl : ws.length ≤ 400 := by simp at hwl; omega
    refine seq_next (oks_sub (L := [("script", .lst (ns.map V.int)), ("waiting", .ref H.length)]) (sub_cons (hsub _ _ rfl) (sub_cons (hsub _ _ rfl) sub_nil)) ?_)
    have key : ∀ t : Int, ExecsOk W (n - 1) env ((bS (tS 29)).drop 4) [("script", .lst (ns.map V.int)), ("waiting", .ref H.length), ("turn", .int t)] (H ++ [.list (ws.map V.int)]) (fun fl _ H' => Q fl.val H') := by
      intro t
      refine oks_seq ?_
      walk_at "g1"
      refine ⟨_, _, rfl, get_at, by rw [sizeLine_eq]; simp; omega, ?_⟩
      rw [set_at, ← List.map_reverse]
      walk_at "go"
      have := h ws.reverse t (by simpa using hwl)
      simpa [Fl.val] using this
    refine oks_seq ?_
    walk_at "g1"
    refine seq_next (oks_seq ?_)
    walk_at "g1"
    refine call_len_lst (by simpa using hsl) ?_
    walk_at "g1"
    · refine call_sum get_at hws (by walk_at "om") ?_
      walk_at "g1"
      refine op_mod_int (by decide) ?_
      walk_at "g1"
      walk_at "ge"
      exact key _
    · walk_at "ge"
      exact key _
end
end
section
section
variable {W : W0} {n : Nat} {env : Env} {ρ : Rho} {H : List O} {Q : V → List O → Prop}
theorem ok_range {args : List Expr} {p pos : Pos} (h : EvalsOk W n env args ρ H fun vs H1 => OpsOk W n env (fun cs => PySem.call (.type "range") cs) vs ρ H1 Q) (hx : env.kindOf (Str.ofString "range") = some .globalImplicit) (ha : args.all (fun e => !isStarred e) = true := by rfl) :
    EvalOk W n env (.Call (.Name (Str.ofString "range") p) args [] pos) ρ H Q :=
  ok_tcall (fun P => by kernel_rfl) (by kernel_rfl) (by decide +kernel) ha hx (by kernel_rfl) h
set_option genSizeOf false in
inductive T where
  | plain (k : Nat)
  | ifs (bs : List (List T)) (e : Bool) (l : List T)
  | cas (bs : List (List T)) (e : Bool) (l : List T)
  | loop (k : Nat) (b : List T)
noncomputable def srcs : List (List Nat) := ["x := - 1", "P ( a , b . c ^ )", "a [ i ] := a * ( b + 2 )"].map cd
noncomputable def lays : List (List Nat) := ["x := -1", "P(a, b.c^)", "a[i] := a * (b + 2)"].map cd
noncomputable def lps : List (List Nat) := ["WHILE", "FOR", "REPEAT"].map cd
mutual
noncomputable def enc : T → V
  | .plain k => .tup [.str (cd "plain"), .tup [.str (srcs.getD k []), .str (lays.getD k [])]]
  | .ifs bs e l => .tup [.str (cd "IF"), .lst (encBs bs), .bool e, .lst (encB l)]
  | .cas bs e l => .tup [.str (cd "CASE"), .lst (encBs bs), .bool e, .lst (encB l)]
  | .loop k b => .tup [.str (lps.getD k []), .lst (encB b)]
noncomputable def encB : List T → List V
  | [] => []
  | t :: r => enc t :: encB r
noncomputable def encBs : List (List T) → List V
  | [] => []
  | b :: r => .lst (encB b) :: encBs r
end
theorem encB_map : ∀ l : List T, encB l = l.map enc
  | [] => rfl
  | t :: r => by rw [encB, encB_map r]; rfl
theorem encBs_map : ∀ l : List (List T), encBs l = l.map fun b => V.lst (encB b)
  | [] => rfl
  | t :: r => by rw [encBs, encBs_map r]; rfl
noncomputable def okT : Nat → T → Prop
  | _, .plain k => k < 3
  | 0, _ => False
  | d + 1, .ifs bs _ l => (1 ≤ bs.length ∧ bs.length ≤ 2) ∧ (∀ b ∈ bs, (1 ≤ b.length ∧ b.length ≤ 2) ∧ ∀ t ∈ b, okT d t) ∧ (1 ≤ l.length ∧ l.length ≤ 2) ∧ ∀ t ∈ l, okT d t
  | d + 1, .cas bs _ l => (1 ≤ bs.length ∧ bs.length ≤ 2) ∧ (∀ b ∈ bs, (1 ≤ b.length ∧ b.length ≤ 2) ∧ ∀ t ∈ b, okT d t) ∧ (1 ≤ l.length ∧ l.length ≤ 2) ∧ ∀ t ∈ l, okT d t
  | d + 1, .loop k b => k < 3 ∧ (1 ≤ b.length ∧ b.length ≤ 2) ∧ ∀ t ∈ b, okT d t
noncomputable def okB (d : Nat) (b : List T) : Prop := (1 ≤ b.length ∧ b.length ≤ 2) ∧ ∀ t ∈ b, okT d t

noncomputable def capS (g : String) : Scope := { kind := .function, names := [(Str.ofString ".0", .local), (Str.ofString "step", .local), (Str.ofString g, .globalImplicit), (Str.ofString "deep", .free), (Str.ofString "pool", .free), (Str.ofString "spare", .free)], isGenerator := false, isCoroutine := false, more := [] }
noncomputable def capR (g : String) : Scope := { kind := .function, names := [(Str.ofString ".0", .local), (Str.ofString "step", .local), (Str.ofString g, .globalImplicit), (Str.ofString "deep", .cell), (Str.ofString "pool", .cell), (Str.ofString "spare", .cell)], isGenerator := false, isCoroutine := false, more := [] }
theorem cap_relabel {g : String} (hk : env.scope.kind = .function) (h1 : env.kindOf (Str.ofString "deep") = some .cell) (h2 : env.kindOf (Str.ofString "pool") = some .cell) (h3 : env.kindOf (Str.ofString "spare") = some .cell) : relabel (capS g) env = capR g := by
  unfold relabel capS capR
  simp [h1, h2, h3, hk]
theorem cap_env {g : String} {v1 v2 v3 : V} (hk : env.scope.kind = .function) (h1 : env.kindOf (Str.ofString "deep") = some .cell) (h2 : env.kindOf (Str.ofString "pool") = some .cell) (h3 : env.kindOf (Str.ofString "spare") = some .cell)
    (c1 : (env.cells.lookup (Str.ofString "deep")).isSome = true) (c2 : (env.cells.lookup (Str.ofString "pool")).isSome = true) (c3 : (env.cells.lookup (Str.ofString "spare")).isSome = true)
    (e1 : ρ.lookup "deep" = some v1) (e2 : ρ.lookup "pool" = some v2) (e3 : ρ.lookup "spare" = some v3) (hg : g = "_law_block" ∨ g = "_law_tree") : ∃ cl, CompEnv (capS g) env ρ [("deep", v1), ("pool", v2), ("spare", v3)] cl "step" := by
  obtain ⟨a1, d1⟩ := Option.isSome_iff_exists.mp c1
  obtain ⟨a2, d2⟩ := Option.isSome_iff_exists.mp c2
  obtain ⟨a3, d3⟩ := Option.isSome_iff_exists.mp c3
  refine ⟨[(Str.ofString "spare", a3), (Str.ofString "pool", a2), (Str.ofString "deep", a1)], ?_⟩
  have hr := cap_relabel (g := g) hk h1 h2 h3
  refine ⟨?_, rfl, ?_, ?_, ?_, ?_⟩
  · unfold closureFor capS cellOf
    simp [d1, d2, d3]
  · rcases hg with rfl | rfl <;> decide +kernel
  · rcases hg with rfl | rfl <;> decide +kernel
  · rcases hg with rfl | rfl <;> decide +kernel
  · intro y v e
    rw [hr]
    simp only [List.lookup_cons, List.lookup_nil] at e
    by_cases q1 : y = "deep"
    · subst q1; simp only [beq_self_eq_true] at e; cases e
      exact ⟨e1, h1, by rcases hg with rfl | rfl <;> decide +kernel, d1.symm ▸ (by rfl)⟩
    · rw [beq_eq_false_iff_ne.mpr q1] at e; dsimp only at e
      by_cases q2 : y = "pool"
      · subst q2; simp only [beq_self_eq_true] at e; cases e
        exact ⟨e2, h2, by rcases hg with rfl | rfl <;> decide +kernel, d2.symm ▸ (by rfl)⟩
      · rw [beq_eq_false_iff_ne.mpr q2] at e; dsimp only at e
        by_cases q3 : y = "spare"
        · subst q3; simp only [beq_self_eq_true] at e; cases e
          exact ⟨e3, h3, by rcases hg with rfl | rfl <;> decide +kernel, d3.symm ▸ (by rfl)⟩
        · rw [beq_eq_false_iff_ne.mpr q3] at e; cases e
end
end
section
section
variable {W : W0} {n : Nat} {H : List O} {Q : V → List O → Prop} {B : Nat → Option O} {q s : Nat}
noncomputable def TreeOk (W : W0) (B : Nat → Option O) (q s d m deep : Nat) : Prop := ∀ (n : Nat) (H : List O) (Q : V → List O → Prop), m ≤ n → PoolAt B q s H → (∀ H' t, PoolAt B q s H' → okT d t → Q (enc t) H') → CallOk W n (.ref 385) [.ref q, .ref s, .int deep] H Q
noncomputable def BlockOk (W : W0) (B : Nat → Option O) (q s d m deep : Nat) : Prop := ∀ (n : Nat) (H : List O) (Q : V → List O → Prop), m ≤ n → PoolAt B q s H → (∀ H' b, PoolAt B q s H' → okB d b → Q (.lst (encB b)) H') → CallOk W n (.ref 390) [.ref q, .ref s, .int deep] H Q
theorem encB_snoc (b : List T) (t : T) : encB (b ++ [t]) = encB b ++ [enc t] := by rw [encB_map, encB_map]; simp
theorem rng_src {v : Int} (h0 : 0 ≤ v) (h1 : v < 2) {H : List O} : ∃ xs, Src (.rng 0 (1 + v)) xs H ∧ 1 ≤ xs.length ∧ xs.length ≤ 2 ∧ ∀ H' : List O, Src (.rng 0 (1 + v)) xs H' := by
  refine ⟨(List.range (1 + v - 0).toNat).map fun (k : Nat) => V.int (0 + k), .inr (.inr ⟨0, 1 + v, rfl, by decide, by walk_at "om", by walk_at "om", rfl⟩), ?_, ?_, fun H' => .inr (.inr ⟨0, 1 + v, rfl, by decide, by walk_at "om", by walk_at "om", rfl⟩)⟩
  · simp; omega
  · simp; omega
theorem c_block_of {d m deep : Nat} (ht : TreeOk W B q s d m (deep + 1)) : BlockOk W B q s d (m + 2) deep := by
  intro n H Q hn hp h
  obtain ⟨n, rfl⟩ : ∃ k, n = k + 1 := ⟨n - 1, by walk_at "om"⟩
  refine call_defC D_law_block rfl ?_ (by decide +kernel) (fun env ge hsc hcells => ?_)
  · intro x hx
    simp only [List.mem_cons, List.not_mem_nil, or_false] at hx
    rcases hx with rfl | rfl | rfl <;> exact .inr ⟨by kernel_rfl, fun L => by rfl⟩
  have h1 : env.kindOf (Str.ofString "deep") = some .cell := kind_of hsc (by kernel_rfl)
  have h2 : env.kindOf (Str.ofString "pool") = some .cell := kind_of hsc (by kernel_rfl)
  have h3 : env.kindOf (Str.ofString "spare") = some .cell := kind_of hsc (by kernel_rfl)
  have hk : env.scope.kind = .function := ge.kind
  have hr := cap_relabel (g := "_law_tree") hk h1 h2 h3
  obtain ⟨cl, hC⟩ := cap_env (ρ := ["pool", "spare", "deep"].zip [.ref q, .ref s, .int deep]) (g := "_law_tree") hk h1 h2 h3 (hcells "deep" (by decide) (by kernel_rfl)) (hcells "pool" (by decide) (by kernel_rfl)) (hcells "spare" (by decide) (by kernel_rfl)) rfl rfl rfl (.inr rfl)
  refine oks_seq ?_
  walk_at "g1"
  refine ok_comp hC ?_
  walk_at "g1"
  refine c_pick (by walk_at "om") hp (by decide) fun H1 v hp1 v0 v1 => ?_
  walk_at "g1"
  obtain ⟨xs, _, x1, x2, hsrc⟩ := rng_src v0 v1 (H := H1)
  refine ⟨xs, fun j vs H' => PoolAt B q s H' ∧ ∃ b : List T, b.length = j ∧ vs = encB b ∧ ∀ t ∈ b, okT d t, ⟨hp1, [], rfl, rfl, by simp⟩, fun j vs H' _ _ => hsrc H', by rw [sizeLine_eq]; omega, ?_, ?_⟩
  · rintro cenv hge hcs j v vs ρ' H' hv hvl ⟨hp2, b, hb, rfl, hbt⟩ hρ hxx
    have l1 : ρ'.lookup "pool" = some (.ref q) := (hρ _ _ (by decide)).mpr rfl
    have l2 : ρ'.lookup "spare" = some (.ref s) := (hρ _ _ (by decide)).mpr rfl
    have l3 : ρ'.lookup "deep" = some (.int deep) := (hρ _ _ (by decide)).mpr rfl
    have hcs2 := hcs.trans hr
    clear hcs
    walk_at "g1"
    refine ht n H' _ (by walk_at "om") hp2 fun H3 t hp3 ht3 => ?_
    refine ⟨hp3, b ++ [t], by simp [hb], (encB_snoc b t).symm, ?_⟩
    intro u hu
    rcases List.mem_append.mp hu with hu | hu
    · exact hbt u hu
    · simp at hu; subst hu; exact ht3
  · rintro vs H' hl ⟨hp2, b, hb, rfl, hbt⟩
    walk_at "go"
    exact h _ b hp2 ⟨⟨by walk_at "om", by walk_at "om"⟩, hbt⟩
end
end
section
section
variable {W : W0} {n : Nat} {H : List O} {Q : V → List O → Prop} {B : Nat → Option O} {q s : Nat}
noncomputable def moreB (B : Nat → Option O) (k : Nat) (o : O) : Nat → Option O := fun i => if i = k then some o else B i
theorem Own.more {l : List (Nat × O)} {o : O} (h : Own B H l) : Own (moreB B H.length o) (H ++ [o]) l := by
  have hlt : ∀ c ∈ l, c.1 < H.length := fun c hc => lt_of_get (h.at_ c hc)
  refine ⟨fun c hc => ?_, h.nd, fun i x e => ?_, fun i x e => ?_⟩
  · rw [List.getElem?_append_left (hlt c hc)]; exact h.at_ c hc
  · unfold moreB at e
    split at e
    · rename_i hi; subst hi; cases e; simp
    · have := h.base i x e
      rw [List.getElem?_append_left (lt_of_get this)]; exact this
  · unfold moreB at e
    split at e
    · rename_i hi; subst hi
      intro hm
      obtain ⟨c, hc, e'⟩ := List.mem_map.mp hm
      have := hlt c hc
      omega
    · exact h.out i x e
theorem Own.less {B' : Nat → Option O} {l : List (Nat × O)} (h : Own B' H l) (hb : ∀ i o, B i = some o → B' i = some o) : Own B H l := ⟨h.at_, h.nd, fun i o e => h.base i o (hb i o e), fun i o e => h.out i o (hb i o e)⟩
theorem more_le {o : O} {l : List (Nat × O)} (h : Own B H l) : ∀ i x, B i = some x → moreB B H.length o i = some x := by
  intro i x e
  have := lt_of_get (h.base i x e)
  unfold moreB
  rw [if_neg (by walk_at "om")]; exact e
theorem encBs_snoc (b : List (List T)) (t : List T) : encBs (b ++ [t]) = encBs b ++ [V.lst (encB t)] := by rw [encBs_map, encBs_map]; simp
theorem ok_plain {k d : Nat} (h : k < 3) : okT d (.plain k) := by cases d <;> exact h
theorem comp_blk {n : Nat} {env : Env} {ρ : Rho} {cl : List (Str × Addr)} {d' m deep : Nat} {H' : List O} {Q : V → List O → Prop} {p1 p2 p3 p4 p5 p6 p7 p8 p9 p10 p11 p12 p13 p14 p15 : Pos} (hsc : env.scope = sS (tS 31)) (hC : CompEnv (capS "_law_block") env ρ [("deep", .int deep), ("pool", .ref q), ("spare", .ref s)] cl "step") (hr : relabel (capS "_law_block") env = capR "_law_block") (hblk : BlockOk W B q s d' m deep) (hn : m ≤ n) (hm : 1 ≤ m) (hpool : ρ.lookup "pool" = some (.ref q)) (hp : PoolAt B q s H')
    (h : ∀ H2 bs, PoolAt B q s H2 → 1 ≤ bs.length → bs.length ≤ 2 → (∀ b ∈ bs, okB d' b) → Q (.lst (encBs bs)) H2) :
    EvalOk W n env (.ListComp (.Call (.Name (Str.ofString "_law_block") p1) [.Name (Str.ofString "pool") p2, .Name (Str.ofString "spare") p3, .Name (Str.ofString "deep") p4] [] p5) [⟨.Name (Str.ofString "step") p6, .Call (.Name (Str.ofString "range") p7) [.BinOp (.Constant (.int 1) 0 p8) .Add (.Call (.Name (Str.ofString "_law_pick") p9) [.Name (Str.ofString "pool") p10, .Constant (.int 2) 0 p11] [] p12) p13] [] p14, [], 0⟩] (capS "_law_block") p15) ρ H' Q := by
  refine ok_comp hC ?_
  walk_at "g1"
  refine c_pick (by walk_at "om") hp (by decide) fun H1 v hp1 v0 v1 => ?_
  walk_at "g1"
  obtain ⟨xs, _, x1, x2, hsrc⟩ := rng_src v0 v1 (H := H1)
  refine ⟨xs, fun j vs H' => PoolAt B q s H' ∧ ∃ bs : List (List T), bs.length = j ∧ vs = encBs bs ∧ ∀ b ∈ bs, okB d' b, ⟨hp1, [], rfl, rfl, by simp⟩, fun j vs H' _ _ => hsrc H', by rw [sizeLine_eq]; omega, ?_, ?_⟩
  · rintro cenv hge hcs j v vs ρ' H' hv hvl ⟨hp2, bs, hbs, rfl, hbt⟩ hρ hxx
    have l1 : ρ'.lookup "pool" = some (.ref q) := (hρ _ _ (by decide)).mpr rfl
    have l2 : ρ'.lookup "spare" = some (.ref s) := (hρ _ _ (by decide)).mpr rfl
    have l3 : ρ'.lookup "deep" = some (.int deep) := (hρ _ _ (by decide)).mpr rfl
    have hcs2 := hcs.trans hr
    clear hcs
    walk_at "g1"
    refine hblk n H' _ (by walk_at "om") hp2 fun H3 t hp3 ht3 => ?_
    refine ⟨hp3, bs ++ [t], by simp [hbs], (encBs_snoc bs t).symm, ?_⟩
    intro u hu
    rcases List.mem_append.mp hu with hu | hu
    · exact hbt u hu
    · simp at hu; subst hu; exact ht3
  · rintro vs H' hl ⟨hp2, bs, hbs, rfl, hbb⟩
    exact h _ bs hp2 (by walk_at "om") (by walk_at "om") hbb
theorem c_tree_of {d m deep : Nat} (hd : deep + d = 4) (hm : 1 ≤ m) (hb : d = 0 ∨ ∃ d', d = d' + 1 ∧ BlockOk W B q s d' m deep) : TreeOk W B q s d (m + 2) deep := by
  intro n H Q hn hp h
  obtain ⟨n, rfl⟩ : ∃ k, n = k + 1 := ⟨n - 1, by walk_at "om"⟩
  refine call_defC D_law_tree rfl ?_ (by decide +kernel) (fun env ge hsc hcells => ?_)
  · intro x hx
    simp only [List.mem_cons, List.not_mem_nil, or_false] at hx
    rcases hx with rfl | rfl | rfl <;> exact .inr ⟨by kernel_rfl, fun L => by rfl⟩
  have h1 : env.kindOf (Str.ofString "deep") = some .cell := kind_of hsc (by kernel_rfl)
  have h2 : env.kindOf (Str.ofString "pool") = some .cell := kind_of hsc (by kernel_rfl)
  have h3 : env.kindOf (Str.ofString "spare") = some .cell := kind_of hsc (by kernel_rfl)
  have hk : env.scope.kind = .function := ge.kind
  have hr := cap_relabel (g := "_law_block") hk h1 h2 h3
  obtain ⟨w, ws, turn, sp, hl, ho⟩ := hp
  refine oks_seq (ok_aug_sub ?_)
  walk_at "g1"
  refine ⟨s, 0, rfl, rfl, sub_ref (ho.tail.tail.at0) (by decide) rfl ?_⟩
  walk_at "g1"
  refine op_isub_int ?_
  refine ⟨_, ho.tail.tail.at0, by decide, by rfl, ?_⟩
  have ho2 := Own.upd (l₁ := [(q, _), (w, _)]) (o' := .list [.int (sp - 1)]) ho
  refine seq_next (oks_seq ?_)
  have pick : ∀ {ways : Int} (Q : V → List O → Prop), (ways = 2 ∨ (ways = 7 ∧ deep < 4)) → (∀ H' v, PoolAt B q s H' → 0 ≤ v → v < 7 → (deep < 4 ∨ v < 2) → Q (.int v) H') → CallOk W n (.ref 380) [.ref q, .int ways] (H.set s (.list [.int (sp - 1)])) Q := by
    intro ways Q hw h
    refine c_pick (by walk_at "om") ⟨w, ws, turn, _, hl, ho2⟩ (by walk_at "om") fun H' v h1 h2 h3 => h H' v h1 h2 (by walk_at "om") (by walk_at "om")
  have cont : ∀ (H' : List O) (v : Int), PoolAt B q s H' → 0 ≤ v → v < 7 → (deep < 4 ∨ v < 2) →
      ExecsOk W n env ((bS (tS 31)).drop 2) [("pool", .ref q), ("spare", .ref s), ("deep", .int deep), ("kind", .int v)] H' (fun fl _ H' => Q fl.val H') := by
    intro H' v hp v0 v7 vd
    obtain ⟨cl, hC⟩ := cap_env (ρ := [("pool", .ref q), ("spare", .ref s), ("deep", .int deep), ("kind", .int v)]) (g := "_law_block") hk h1 h2 h3 (hcells "deep" (by decide) (by kernel_rfl)) (hcells "pool" (by decide) (by kernel_rfl)) (hcells "spare" (by decide) (by kernel_rfl)) rfl rfl rfl (.inl rfl)
    refine oks_seq ?_
    walk_at "g1"
    · obtain ⟨w, ws, turn, sp, hl, ho⟩ := hp
      have ho3 := ho.more (o := .list [.tup [.str (cd "x := - 1"), .str (cd "x := -1")], .tup [.str (cd "P ( a , b . c ^ )"), .str (cd "P(a, b.c^)")], .tup [.str (cd "a [ i ] := a * ( b + 2 )"), .str (cd "a[i] := a * (b + 2)")]])
      refine c_pick (by walk_at "om") ⟨w, ws, turn, sp, hl, ho3⟩ (by decide) fun H2 u hp2 u0 u1 => ?_
      obtain ⟨w, ws, turn, sp, hl, ho4⟩ := hp2
      have hat := ho4.base H'.length _ (by unfold moreB; rw [if_pos rfl])
      have hp3 : PoolAt B q s H2 := ⟨w, ws, turn, sp, hl, ho4.less (more_le ho)⟩
      obtain ⟨k, hk3, rfl⟩ : ∃ k : Nat, k < 3 ∧ u = k := ⟨u.toNat, by walk_at "om", by walk_at "om"⟩
      refine sub_ref (v := .tup [.str (srcs.getD k []), .str (lays.getD k [])]) hat ⟨by walk_at "om", by walk_at "om"⟩ ?_ ?_
      · obtain rfl | rfl | rfl : k = 0 ∨ k = 1 ∨ k = 2 := by walk_at "om"
        all_goals rfl
      walk_at "go"
      exact h _ (.plain k) hp3 (ok_plain hk3)
    · have hc : decide (v < 2) = false := by assumption
      have hv2 : ¬ v < 2 := by simpa using hc
      obtain ⟨d', rfl, hblk⟩ : ∃ d', d = d' + 1 ∧ BlockOk W B q s d' m deep := by
        rcases hb with rfl | hb
        · omega
        · exact hb
      walk_at "ge"
      refine oks_seq ?_
      walk_at "g1"
      · refine comp_blk hsc hC hr hblk (by walk_at "om") hm rfl hp fun H' bs hp2 hb1 hb2 hbb => ?_
        walk_at "g1"
        refine c_pick (by walk_at "om") hp2 (by decide) fun H2 v2 hp3 _ _ => ?_
        walk_at "g1"
        refine hblk n H2 _ (by walk_at "om") hp3 fun H3 b hp4 hb4 => ?_
        walk_at "go"
        exact h _ (.ifs bs _ b) hp4 ⟨⟨by walk_at "om", by walk_at "om"⟩, hbb, hb4.1, hb4.2⟩
      · have hc2 : (v == 2) = false := by assumption
        have hv3 : v ≠ 2 := by simpa using hc2
        walk_at "ge"
        refine oks_seq ?_
        walk_at "g1"
        · refine comp_blk hsc hC hr hblk (by walk_at "om") hm rfl hp fun H' bs hp2 hb1 hb2 hbb => ?_
          walk_at "g1"
          refine c_pick (by walk_at "om") hp2 (by decide) fun H2 v2 hp3 _ _ => ?_
          walk_at "g1"
          refine hblk n H2 _ (by walk_at "om") hp3 fun H3 b hp4 hb4 => ?_
          walk_at "go"
          exact h _ (.cas bs _ b) hp4 ⟨⟨by walk_at "om", by walk_at "om"⟩, hbb, hb4.1, hb4.2⟩
        · have hc3 : (v == 6) = false := by assumption
          have hv6 : v ≠ 6 := by simpa using hc3
          walk_at "ge"
          refine oks_seq ?_
          walk_at "g1"
          obtain ⟨w, ws, turn, sp, hl, ho⟩ := hp
          have hp3 : PoolAt B q s (H' ++ [.list [.str (cd "WHILE"), .str (cd "FOR"), .str (cd "REPEAT")]]) := ⟨w, ws, turn, sp, hl, ho.grow⟩
          obtain ⟨k, hk3, rfl⟩ : ∃ k : Nat, k < 3 ∧ v = 3 + k := ⟨(v - 3).toNat, by walk_at "om", by walk_at "om"⟩
          refine sub_ref (v := .str (lps.getD k [])) get_at ⟨by walk_at "om", by walk_at "om"⟩ ?_ ?_
          · obtain rfl | rfl | rfl : k = 0 ∨ k = 1 ∨ k = 2 := by walk_at "om"
            all_goals rfl
          walk_at "g1"
          refine hblk n _ _ (by walk_at "om") hp3 fun H3 b hp4 hb4 => ?_
          walk_at "go"
          exact h _ (.loop k b) hp4 ⟨hk3, hb4.1, hb4.2⟩
  walk_at "g1"
  · have hc : decide ((deep : Int) < 4) = true := by assumption
    have hd4 : deep < 4 := by simp at hc; omega
    refine sub_ref (ho2.tail.tail.at0) (by decide) rfl ?_
    walk_at "g1"
    · refine pick _ (.inr ⟨rfl, hd4⟩) fun H' v hp v0 v7 vd => ?_
      walk_at "g1"
      refine seq_next ?_
      exact cont H' v hp v0 v7 vd
    · refine pick _ (.inl rfl) fun H' v hp v0 v7 vd => ?_
      walk_at "g1"
      refine seq_next ?_
      exact cont H' v hp v0 v7 vd
  · refine pick _ (.inl rfl) fun H' v hp v0 v7 vd => ?_
    walk_at "g1"
    refine seq_next ?_
    exact cont H' v hp v0 v7 vd
end
end
section
section
variable {env : Env} {ρ : Rho}
theorem comp_free1 {x g : String} {ge c : Bool} (hx : Str.ofString x ≠ Str.ofString ".0") : CompEnv { kind := .function, names := [(Str.ofString ".0", .local), (Str.ofString x, .local), (Str.ofString g, .globalImplicit)], isGenerator := ge, isCoroutine := c } env ρ [] [] x where
  clos := by rfl
  kind := rfl
  names := by
    intro y hy hl
    simp only [List.mem_cons, List.not_mem_nil, or_false] at hy
    rcases hy with rfl | rfl | rfl
    · rfl
    · simp only [List.lookup_cons]
      rw [beq_eq_false_iff_ne.mpr hx, beq_self_eq_true]
    · cases hl
  cell := by
    intro y hy
    simp only [List.mem_cons, List.not_mem_nil, or_false] at hy
    rcases hy with rfl | rfl | rfl <;> simp
  var := by
    simp only [List.lookup_cons]
    rw [beq_eq_false_iff_ne.mpr hx, beq_self_eq_true]
  cap := fun y v e => by cases e
theorem relabel_free1 {x g : String} {ge c : Bool} : relabel { kind := .function, names := [(Str.ofString ".0", .local), (Str.ofString x, .local), (Str.ofString g, .globalImplicit)], isGenerator := ge, isCoroutine := c } env = { kind := .function, names := [(Str.ofString ".0", .local), (Str.ofString x, .local), (Str.ofString g, .globalImplicit)], isGenerator := ge, isCoroutine := c } := by
  unfold relabel; simp
theorem c_block0 {W : W0} {B : Nat → Option O} {q s : Nat} : BlockOk W B q s 3 17 0 := by
  have t0 : TreeOk W B q s 0 3 4 := c_tree_of (m := 1) rfl (by decide) (.inl rfl)
  have b3 : BlockOk W B q s 0 5 3 := c_block_of t0
  have t1 : TreeOk W B q s 1 7 3 := c_tree_of rfl (by decide) (.inr ⟨0, rfl, b3⟩)
  have b2 : BlockOk W B q s 1 9 2 := c_block_of t1
  have t2 : TreeOk W B q s 2 11 2 := c_tree_of rfl (by decide) (.inr ⟨1, rfl, b2⟩)
  have b1 : BlockOk W B q s 2 13 1 := c_block_of t2
  have t3 : TreeOk W B q s 3 15 1 := c_tree_of rfl (by decide) (.inr ⟨2, rfl, b1⟩)
  exact c_block_of t3
/- the text of a tree -/
noncomputable def lpH : List (List Nat) := ["WHILE a & b DO ", "FOR i := 0 TO n - 1 DO ", "REPEAT "].map cd
mutual
noncomputable def flatT : T → List Nat
  | .plain k => srcs.getD k []
  | .ifs bs e l => cd "IF ~ c THEN " ++ joinL (cd " ELSIF d < 3 THEN ") (flatBs bs) ++ (if e then cd " ELSE " ++ joinL (cd " ; ") (flatB l) else cd "") ++ cd " END"
  | .cas bs e l => cd "CASE x OF " ++ joinL (cd " | ") ((flatBs bs).map fun p => cd "1 .. 2 , 7 : " ++ p) ++ (if e then cd " ELSE " ++ joinL (cd " ; ") (flatB l) else cd "") ++ cd " END"
  | .loop k b => lpH.getD k [] ++ joinL (cd " ; ") (flatB b) ++ (if k = 2 then cd " UNTIL x = 0" else cd " END")
noncomputable def flatB : List T → List (List Nat)
  | [] => []
  | t :: r => flatT t :: flatB r
noncomputable def flatBs : List (List T) → List (List Nat)
  | [] => []
  | b :: r => joinL (cd " ; ") (flatB b) :: flatBs r
end
noncomputable def joinedB (b : List T) : List Nat := joinL (cd " ; ") (flatB b)
theorem flatB_map : ∀ l : List T, flatB l = l.map flatT
  | [] => rfl
  | t :: r => by rw [flatB, flatB_map r]; rfl
theorem flatBs_map : ∀ l : List (List T), flatBs l = l.map joinedB
  | [] => rfl
  | t :: r => by rw [flatBs, flatBs_map r]; rfl
noncomputable def fb : Nat → Nat
  | 0 => 30
  | d + 1 => 6 * fb d + 100
theorem join_len (sep : List Nat) (ls : List (List Nat)) (M : Nat) (hl : ls.length ≤ 2) (h : ∀ x ∈ ls, x.length ≤ M) : (joinL sep ls).length ≤ 2 * M + sep.length := by
  match ls, hl with
  | [], _ => simp [joinL]
  | [x], _ => have := h x (by simp); simp [joinL]; omega
  | [x, y], _ => have h1 := h x (by simp); have h2 := h y (by simp); simp [joinL]; omega
theorem joined_len {d : Nat} {b : List T} (hb : b.length ≤ 2) (h : ∀ t ∈ b, (flatT t).length ≤ fb d) : (joinedB b).length ≤ 2 * fb d + 3 := by
  unfold joinedB
  refine join_len _ _ (fb d) (by rw [flatB_map]; simpa using hb) ?_
  intro x hx
  rw [flatB_map] at hx
  obtain ⟨t, ht, rfl⟩ := List.mem_map.mp hx
  exact h t ht
theorem flat_len_le : ∀ (d : Nat) (t : T), okT d t → (flatT t).length ≤ fb d
  | d, .plain k, h => by
    have hk : k < 3 := by cases d <;> exact h
    have : (flatT (.plain k)).length ≤ 30 := by
      obtain rfl | rfl | rfl : k = 0 ∨ k = 1 ∨ k = 2 := by walk_at "om"
      all_goals (rw [flatT]; decide)
    have : 30 ≤ fb d := by
      cases d with
      | zero => decide
      | succ d => show 30 ≤ 6 * fb d + 100; omega
    omega
  | 0, .ifs _ _ _, h => h.elim
  | 0, .cas _ _ _, h => h.elim
  | 0, .loop _ _, h => h.elim
  | d + 1, .ifs bs e l, h => by
    obtain ⟨h1, h2, h3, h4⟩ := h
    have hl := joined_len (d := d) h3.2 fun t ht => flat_len_le d t (h4 t ht)
    have hbs := join_len (cd " ELSIF d < 3 THEN ") (flatBs bs) (2 * fb d + 3) (by rw [flatBs_map]; simpa using h1.2) (by
      intro x hx
      rw [flatBs_map] at hx
      obtain ⟨b, hb, rfl⟩ := List.mem_map.mp hx
      exact joined_len (h2 b hb).1.2 fun t ht => flat_len_le d t ((h2 b hb).2 t ht))
    rw [flatT]
    unfold joinedB at hl
    have e1 : (cd " ELSIF d < 3 THEN ").length = 18 := by decide
    have e2 : (cd "IF ~ c THEN ").length = 12 := by decide
    have e3 : (cd " ELSE ").length = 6 := by decide
    have e4 : (cd " END").length = 4 := by decide
    have e5 : (cd "").length = 0 := by decide
    simp only [List.length_append, fb]
    cases e <;> simp <;> omega
  | d + 1, .cas bs e l, h => by
    obtain ⟨h1, h2, h3, h4⟩ := h
    have hl := joined_len (d := d) h3.2 fun t ht => flat_len_le d t (h4 t ht)
    have e6 : (cd "1 .. 2 , 7 : ").length = 13 := by decide
    have hbs := join_len (cd " | ") ((flatBs bs).map fun p => cd "1 .. 2 , 7 : " ++ p) (2 * fb d + 16) (by rw [flatBs_map]; simpa using h1.2) (by
      intro x hx
      rw [flatBs_map, List.map_map] at hx
      obtain ⟨b, hb, rfl⟩ := List.mem_map.mp hx
      have := joined_len (h2 b hb).1.2 fun t ht => flat_len_le d t ((h2 b hb).2 t ht)
      show (cd "1 .. 2 , 7 : " ++ joinedB b).length ≤ _
      rw [List.length_append]; omega)
    rw [flatT]
    unfold joinedB at hl
    have e1 : (cd " | ").length = 3 := by decide
    have e2 : (cd "CASE x OF ").length = 10 := by decide
    have e3 : (cd " ELSE ").length = 6 := by decide
    have e4 : (cd " END").length = 4 := by decide
    have e5 : (cd "").length = 0 := by decide
    simp only [List.length_append, fb]
    cases e <;> simp <;> omega
  | d + 1, .loop k b, h => by
    obtain ⟨h1, h3, h4⟩ := h
    have hl := joined_len (d := d) h3.2 fun t ht => flat_len_le d t (h4 t ht)
    rw [flatT]
    unfold joinedB at hl
    have e4 : (cd " END").length = 4 := by decide
    have e5 : (cd " UNTIL x = 0").length = 12 := by decide
    have e6 : (lpH.getD k []).length ≤ 30 := by
      obtain rfl | rfl | rfl : k = 0 ∨ k = 1 ∨ k = 2 := by walk_at "om"
      all_goals decide
    simp only [List.length_append, fb]
    split <;> omega
end
section
variable {W : W0} {n : Nat} {H : List O} {Q : V → List O → Prop}
noncomputable def FlatOk (W : W0) (d m : Nat) : Prop := ∀ (n : Nat) (H : List O) (Q : V → List O → Prop) (t : T), m ≤ n → okT d t → Q (.str (flatT t)) H → CallOk W n (.ref 400) [enc t] H Q
noncomputable def JoinOk (W : W0) (d m : Nat) : Prop := ∀ (n : Nat) (H : List O) (Q : V → List O → Prop) (b : List T), m ≤ n → okB d b → Q (.str (joinedB b)) H → CallOk W n (.ref 395) [.lst (encB b)] H Q
theorem fb_le {d : Nat} (h : d ≤ 3) : fb d ≤ 11000 := by
  obtain rfl | rfl | rfl | rfl : d = 0 ∨ d = 1 ∨ d = 2 ∨ d = 3 := by walk_at "om"
  all_goals decide
theorem sum2 {ls : List (List Nat)} {M : Nat} (hl : ls.length ≤ 2) (h : ∀ x ∈ ls, x.length ≤ M) : (ls.map List.length).sum ≤ 2 * M := by
  match ls, hl with
  | [], _ => simp
  | [x], _ => have := h x (by simp); simp; omega
  | [x, y], _ => have h1 := h x (by simp); have h2 := h y (by simp); simp; omega
theorem c_joined_of {d m : Nat} (hd : d ≤ 3) (hf : FlatOk W d m) : JoinOk W d (m + 2) := by
  intro n H Q b hn hb h
  obtain ⟨hb1, hb2⟩ := hb
  have hfb := fb_le hd
  refine call_def' D_law_joined (by walk_at "om") rfl (fun env ge hsc => ?_)
  refine oks_seq ?_
  walk_at "g1"
  refine ⟨_, rfl, ?_⟩
  refine ok_comp (comp_free1 (by decide +kernel)) ?_
  walk_at "g1"
  refine ⟨encB b, fun j vs H' => H' = H ∧ vs = (b.take j).map fun t => V.str (flatT t), ⟨rfl, rfl⟩, fun j vs H' _ _ => .inl rfl, by rw [encB_map, sizeLine_eq]; simp; omega, ?_, ?_⟩
  · rintro cenv hge hcs j v vs ρ' H' hv hvl ⟨rfl, rfl⟩ hρ hxx
    have hcs2 := hcs.trans relabel_free1
    clear hcs
    rw [encB_map] at hv
    obtain ⟨t, ht, rfl⟩ : ∃ t, b[j]? = some t ∧ v = enc t := by
      rw [List.getElem?_map] at hv
      cases e : b[j]? with
      | none => rw [e] at hv; cases hv
      | some x => rw [e] at hv; cases hv; exact ⟨x, rfl, rfl⟩
    walk_at "g1"
    refine hf _ _ _ t (by walk_at "om") (hb2 t (List.mem_of_getElem? ht)) ⟨rfl, ?_⟩
    rw [List.take_add_one, ht, List.map_append]; rfl
  · rintro vs H' hl ⟨rfl, rfl⟩
    have hall : b.take (encB b).length = b := by rw [encB_map]; simp
    rw [hall]
    have hs := sum2 (ls := flatB b) (M := fb d) (by rw [flatB_map]; simpa using hb1.2) (by
      intro x hx
      rw [flatB_map] at hx
      obtain ⟨t, ht, rfl⟩ := List.mem_map.mp hx
      exact flat_len_le d t (hb2 t ht))
    refine ⟨flatB b, .inl (by rw [flatB_map, List.map_map]; rfl), by decide, by rw [flatB_map] at hs ⊢; simp at hs ⊢; omega, ?_⟩
    walk_at "go"
    exact h
end
end
section
section
variable {W : W0} {n : Nat} {H : List O} {Q : V → List O → Prop}
theorem swaps_true {env : Env} {x : Str} {elt : Expr} {gens : List Comprehension} {sc : Scope} {sp pp : Pos} {line : Nat} (ge : GoodEnv env) (hk : env.kindOf x = some .local) (h1 : (pp.line == sp.line) = true) (h2 : (sc.names.any fun (n, k) => n == x && (k == .local || k == .cell)) = false) :
    swapsWith (.ListComp elt gens sc sp) (some (.Name x pp)) line env = pure true := by
  have hb : env.blockKind = .function := by unfold Env.blockKind; rw [ge.kind]; rfl
  show (pure (env.blockKind == .function && env.kindOf x == some .local && pp.line == sp.line && !(sc.names.any fun (n, k) => n == x && (k == .local || k == .cell))) : Sem Bool) = _
  rw [hb, hk, h1, h2]
  rfl
theorem c_flat_plain {k : Nat} (hn : 1 ≤ n) (hk : k < 3) (h : Q (.str (flatT (.plain k))) H) : CallOk W n (.ref 400) [enc (.plain k)] H Q := by
  rw [flatT] at h
  rw [enc]
  refine call_def' D_law_flat (by walk_at "om") rfl (fun env ge hsc => ?_)
  refine oks_seq ?_
  walk_at "g1"
  refine seq_next (oks_seq (ok_if (test_as true ?_ ⟨fun _ => oks_seq ?_, fun e => (by cases e)⟩)))
  · walk_at "tt"
    exact ⟨by decide, rfl⟩
  walk_at "go"
  exact h
theorem flat_start {kd : List Nat} {vs : List V} (hn : 1 ≤ n) (hk : (kd == cd "plain") = false) (h : ∀ env, GoodEnv env → env.scope = sS (tS 34) → ExecsOk W (n - 1) env ((bS (tS 34)).drop 2) [("tree", .tup (.str kd :: vs)), ("kind", .str kd)] H (fun fl _ H' => Q fl.val H')) : CallOk W n (.ref 400) [.tup (.str kd :: vs)] H Q := by
  refine call_def' D_law_flat hn rfl (fun env ge hsc => ?_)
  refine oks_seq ?_
  walk_at "g1"
  refine seq_next (oks_seq (ok_if (test_as false ?_ ⟨fun e => (by cases e), fun _ => ?_⟩)))
  · walk_at "tt"
    exact ⟨hk, rfl⟩
  walk_at "ge"
  exact h env ge hsc
theorem c_flat_if {d m : Nat} {bs : List (List T)} {e : Bool} {l : List T} (hd : d ≤ 2) (hj : JoinOk W d m) (hn : m + 2 ≤ n) (ht : okT (d + 1) (.ifs bs e l)) (h : Q (.str (flatT (.ifs bs e l))) H) : CallOk W n (.ref 400) [enc (.ifs bs e l)] H Q := by
  obtain ⟨h1, h2, h3, h4⟩ := ht
  have hfb := fb_le (d := d) (by walk_at "om")
  have hl := joined_len (d := d) h3.2 fun t ht => flat_len_le d t (h4 t ht)
  have hbl : ∀ x ∈ flatBs bs, x.length ≤ 2 * fb d + 3 := by
    intro x hx
    rw [flatBs_map] at hx
    obtain ⟨b, hb, rfl⟩ := List.mem_map.mp hx
    exact joined_len (h2 b hb).1.2 fun t ht => flat_len_le d t ((h2 b hb).2 t ht)
  have hbs := join_len (cd " ELSIF d < 3 THEN ") (flatBs bs) (2 * fb d + 3) (by rw [flatBs_map]; simpa using h1.2) hbl
  have hsum := sum2 (ls := flatBs bs) (M := 2 * fb d + 3) (by rw [flatBs_map]; simpa using h1.2) hbl
  have hlen : (flatBs bs).length ≤ 2 := by rw [flatBs_map]; simpa using h1.2
  have e1 : (cd " ELSIF d < 3 THEN ").length = 18 := by decide
  have e2 : (cd "IF ~ c THEN ").length = 12 := by decide
  have e3 : (cd " ELSE ").length = 6 := by decide
  have e4 : (cd " END").length = 4 := by decide
  have e5 : (cd "").length = 0 := by decide
  rw [flatT] at h
  rw [enc]
  refine flat_start (by walk_at "om") (by decide) fun env ge hsc => ?_
  refine oks_seq (ok_if (test_as true ?_ ⟨fun _ => oks_seq ?_, fun e => (by cases e)⟩))
  · walk_at "tt"
    exact ⟨by decide, rfl⟩
  walk_at "g1"
  · refine ok_assign_comp (comp_free1 (by decide +kernel)) (swaps_true ge (kind_of (by assumption) (by kernel_rfl)) (by rfl) (by kernel_rfl)) (kind_of (by assumption) (by kernel_rfl)) ?_
    walk_at "g1"
    refine ⟨encBs bs, fun j vs H' => H' = H ∧ vs = (bs.take j).map fun b => V.str (joinedB b), ⟨rfl, rfl⟩, fun j vs H' _ _ => .inl rfl, by rw [encBs_map, sizeLine_eq]; simp; omega, ?_, ?_⟩
    · rintro cenv hge hcs j v vs ρ' H' hv hvl ⟨rfl, rfl⟩ hρ hxx
      have hcs2 := hcs.trans relabel_free1
      clear hcs
      rw [encBs_map] at hv
      obtain ⟨b, hb, rfl⟩ : ∃ b, bs[j]? = some b ∧ v = .lst (encB b) := by
        rw [List.getElem?_map] at hv
        cases e : bs[j]? with
        | none => rw [e] at hv; cases hv
        | some x => rw [e] at hv; cases hv; exact ⟨x, rfl, rfl⟩
      walk_at "g1"
      refine hj _ _ _ b (by walk_at "om") (h2 b (List.mem_of_getElem? hb)) ⟨rfl, ?_⟩
      rw [List.take_add_one, hb, List.map_append]; rfl
    · rintro vs H' hvl ⟨rfl, rfl⟩
      have hall : bs.take (encBs bs).length = bs := by rw [encBs_map]; simp
      rw [hall]
      have hpc : (bs.map fun b => V.str (joinedB b)) = (flatBs bs).map V.str := by rw [flatBs_map, List.map_map]; rfl
      rw [hpc]
      refine seq_next (oks_seq ?_)
      walk_at "g1"
      · refine ⟨_, rfl, ?_⟩
        walk_at "g1"
        refine ⟨flatBs bs, .inl rfl, by decide, by walk_at "om", ?_⟩
        refine op_add_str (by rw [sizeLine_eq]; omega) ?_
        walk_at "ge"
        refine oks_seq ?_
        walk_at "g1"
        · refine hj _ _ _ l (by walk_at "om") ⟨h3, h4⟩ ?_
          refine op_add_str (by rw [sizeLine_eq]; omega) ?_
          refine op_add_str (by rw [sizeLine_eq]; simp only [List.length_append]; omega) ?_
          walk_at "g1"
          refine op_add_str (by rw [sizeLine_eq]; simp only [List.length_append]; omega) ?_
          walk_at "go"
          have he : e = true := by assumption
          rw [if_pos he] at h
          exact h
        · refine op_add_str (by rw [sizeLine_eq]; simp only [List.length_append]; omega) ?_
          walk_at "g1"
          refine op_add_str (by rw [sizeLine_eq]; simp only [List.length_append]; omega) ?_
          walk_at "go"
          have he : e = false := by assumption
          rw [if_neg (bf he)] at h
          exact h
      · have hc : (cd "IF" == cd "IF") = false := by assumption
        exact absurd hc (by decide)
end
end
section
section
variable {W : W0} {n : Nat} {H : List O} {Q : V → List O → Prop}
theorem c_flat_case {d m : Nat} {bs : List (List T)} {e : Bool} {l : List T} (hd : d ≤ 2) (hj : JoinOk W d m) (hn : m + 2 ≤ n) (ht : okT (d + 1) (.cas bs e l)) (h : Q (.str (flatT (.cas bs e l))) H) : CallOk W n (.ref 400) [enc (.cas bs e l)] H Q := by
  obtain ⟨h1, h2, h3, h4⟩ := ht
  have hfb := fb_le (d := d) (by walk_at "om")
  have hl := joined_len (d := d) h3.2 fun t ht => flat_len_le d t (h4 t ht)
  have hbl : ∀ x ∈ flatBs bs, x.length ≤ 2 * fb d + 3 := by
    intro x hx
    rw [flatBs_map] at hx
    obtain ⟨b, hb, rfl⟩ := List.mem_map.mp hx
    exact joined_len (h2 b hb).1.2 fun t ht => flat_len_le d t ((h2 b hb).2 t ht)
  have e6 : (cd "1 .. 2 , 7 : ").length = 13 := by decide
  have hbl2 : ∀ x ∈ (flatBs bs).map (fun p => cd "1 .. 2 , 7 : " ++ p), x.length ≤ 2 * fb d + 16 := by
    intro x hx
    obtain ⟨y, hy, rfl⟩ := List.mem_map.mp hx
    have := hbl y hy
    rw [List.length_append]; omega
  have hbs := join_len (cd " | ") ((flatBs bs).map fun p => cd "1 .. 2 , 7 : " ++ p) (2 * fb d + 16) (by rw [flatBs_map]; simpa using h1.2) hbl2
  have hsum := sum2 (ls := (flatBs bs).map fun p => cd "1 .. 2 , 7 : " ++ p) (M := 2 * fb d + 16) (by rw [flatBs_map]; simpa using h1.2) hbl2
  have hlen : (flatBs bs).length ≤ 2 := by rw [flatBs_map]; simpa using h1.2
  have e1 : (cd " | ").length = 3 := by decide
  have e2 : (cd "CASE x OF ").length = 10 := by decide
  have e3 : (cd " ELSE ").length = 6 := by decide
  have e4 : (cd " END").length = 4 := by decide
  have e5 : (cd "").length = 0 := by decide
  rw [flatT] at h
  rw [enc]
  refine flat_start (by walk_at "om") (by decide) fun env ge hsc => ?_
  refine oks_seq (ok_if (test_as true ?_ ⟨fun _ => oks_seq ?_, fun e => (by cases e)⟩))
  · walk_at "tt"
    exact ⟨by decide, rfl⟩
  walk_at "g1"
  · refine ok_assign_comp (comp_free1 (by decide +kernel)) (swaps_true ge (kind_of (by assumption) (by kernel_rfl)) (by rfl) (by kernel_rfl)) (kind_of (by assumption) (by kernel_rfl)) ?_
    walk_at "g1"
    refine ⟨encBs bs, fun j vs H' => H' = H ∧ vs = (bs.take j).map fun b => V.str (joinedB b), ⟨rfl, rfl⟩, fun j vs H' _ _ => .inl rfl, by rw [encBs_map, sizeLine_eq]; simp; omega, ?_, ?_⟩
    · rintro cenv hge hcs j v vs ρ' H' hv hvl ⟨rfl, rfl⟩ hρ hxx
      have hcs2 := hcs.trans relabel_free1
      clear hcs
      rw [encBs_map] at hv
      obtain ⟨b, hb, rfl⟩ : ∃ b, bs[j]? = some b ∧ v = .lst (encB b) := by
        rw [List.getElem?_map] at hv
        cases e : bs[j]? with
        | none => rw [e] at hv; cases hv
        | some x => rw [e] at hv; cases hv; exact ⟨x, rfl, rfl⟩
      walk_at "g1"
      refine hj _ _ _ b (by walk_at "om") (h2 b (List.mem_of_getElem? hb)) ⟨rfl, ?_⟩
      rw [List.take_add_one, hb, List.map_append]; rfl
    · rintro vs H1 hvl ⟨rfl, rfl⟩
      have hall : bs.take (encBs bs).length = bs := by rw [encBs_map]; simp
      rw [hall]
      have hpc : (bs.map fun b => V.str (joinedB b)) = (flatBs bs).map V.str := by rw [flatBs_map, List.map_map]; rfl
      rw [hpc]
      refine seq_next (oks_seq ?_)
      walk_at "g1"
      · have hc : (cd "CASE" == cd "IF") = true := by assumption
        exact absurd hc (by decide)
      · refine ⟨_, rfl, ?_⟩
        refine ok_comp (comp_free (by decide +kernel)) ?_
        walk_at "g1"
        refine ⟨(flatBs bs).map V.str, fun j vs H' => H' = H1 ∧ vs = ((flatBs bs).take j).map fun p => V.str (cd "1 .. 2 , 7 : " ++ p), ⟨rfl, rfl⟩, fun j vs H' _ _ => .inl rfl, by rw [sizeLine_eq]; simp; omega, ?_, ?_⟩
        · rintro cenv hge hcs j v vs ρ' H' hv hvl ⟨rfl, rfl⟩ hρ hxx
          obtain ⟨p, hp, rfl⟩ : ∃ p, (flatBs bs)[j]? = some p ∧ v = .str p := by
            rw [List.getElem?_map] at hv
            cases e : (flatBs bs)[j]? with
            | none => rw [e] at hv; cases hv
            | some x => rw [e] at hv; cases hv; exact ⟨x, rfl, rfl⟩
          have hpl := hbl p (List.mem_of_getElem? hp)
          walk_at "g1"
          refine op_add_str (by rw [sizeLine_eq]; omega) ⟨rfl, ?_⟩
          rw [List.take_add_one, hp, List.map_append]; rfl
        rintro vs H' hvl ⟨rfl, rfl⟩
        have hall2 : (flatBs bs).take ((flatBs bs).map V.str).length = flatBs bs := by simp
        rw [hall2]
        refine ⟨(flatBs bs).map fun p => cd "1 .. 2 , 7 : " ++ p, .inl (by rw [List.map_map]; rfl), by decide, by simp at hsum ⊢; omega, ?_⟩
        refine op_add_str (by rw [sizeLine_eq]; omega) ?_
        walk_at "ge"
        refine oks_seq ?_
        walk_at "g1"
        · refine hj _ _ _ l (by walk_at "om") ⟨h3, h4⟩ ?_
          refine op_add_str (by rw [sizeLine_eq]; omega) ?_
          refine op_add_str (by rw [sizeLine_eq]; simp only [List.length_append]; omega) ?_
          walk_at "g1"
          refine op_add_str (by rw [sizeLine_eq]; simp only [List.length_append]; omega) ?_
          walk_at "go"
          have he : e = true := by assumption
          rw [if_pos he] at h
          exact h
        · refine op_add_str (by rw [sizeLine_eq]; simp only [List.length_append]; omega) ?_
          walk_at "g1"
          refine op_add_str (by rw [sizeLine_eq]; simp only [List.length_append]; omega) ?_
          walk_at "go"
          have he : e = false := by assumption
          rw [if_neg (bf he)] at h
          exact h

theorem c_flat_loop {d m k : Nat} {b : List T} (hd : d ≤ 2) (hj : JoinOk W d m) (hn : m + 2 ≤ n) (ht : okT (d + 1) (.loop k b)) (h : Q (.str (flatT (.loop k b))) H) : CallOk W n (.ref 400) [enc (.loop k b)] H Q := by
  obtain ⟨h1, h3⟩ := ht
  have hfb := fb_le (d := d) (by walk_at "om")
  have hl := joined_len (d := d) h3.1.2 fun t ht => flat_len_le d t (h3.2 t ht)
  have e4 : (cd " END").length = 4 := by decide
  have e5 : (cd " UNTIL x = 0").length = 12 := by decide
  rw [flatT] at h
  rw [enc]
  obtain ⟨x, y, hx, hy, hlk, n1, n2, n4, e6⟩ : ∃ x y : String, lps.getD k [] = cd x ∧ lpH.getD k [] = cd y ∧ List.lookup x [("WHILE", cd "WHILE a & b DO "), ("FOR", cd "FOR i := 0 TO n - 1 DO "), ("REPEAT", cd "REPEAT ")] = some (cd y) ∧ (cd x == cd "plain") = false ∧ (unS [V.str (cd "IF"), V.str (cd "CASE")]).contains (cd x) = false ∧ (cd x == cd "REPEAT") = decide (k = 2) ∧ (cd y).length ≤ 30 := by
    obtain rfl | rfl | rfl : k = 0 ∨ k = 1 ∨ k = 2 := by walk_at "om"
    · exact ⟨"WHILE", "WHILE a & b DO ", rfl, rfl, rfl, by decide, by decide, by decide, by decide⟩
    · exact ⟨"FOR", "FOR i := 0 TO n - 1 DO ", rfl, rfl, rfl, by decide, by decide, by decide, by decide⟩
    · exact ⟨"REPEAT", "REPEAT ", rfl, rfl, rfl, by decide, by decide, by decide, by decide⟩
  rw [hx]
  rw [hy] at h
  refine flat_start (by walk_at "om") n1 fun env ge hsc => ?_
  refine oks_seq (ok_if (test_as false ?_ ⟨fun e => (by cases e), fun _ => ?_⟩))
  · walk_at "tt"
    exact ⟨n2, rfl⟩
  walk_at "ge"
  refine oks_seq ?_
  walk_at "g1"
  refine seq_next (oks_seq ?_)
  walk_at "g1"
  refine sub_dic hlk ?_
  walk_at "g1"
  refine hj _ _ _ b (by walk_at "om") h3 ?_
  refine op_add_str (by rw [sizeLine_eq]; omega) ?_
  walk_at "g1"
  all_goals
    first
      | (have hc : (cd x == cd "REPEAT") = true := by assumption
         rw [n4] at hc
         have hk : k = 2 := of_decide_eq_true hc
         rw [if_pos hk] at h)
      | (have hc : (cd x == cd "REPEAT") = false := by assumption
         rw [n4] at hc
         have hk : ¬ k = 2 := of_decide_eq_false hc
         rw [if_neg hk] at h)
    refine op_add_str (by rw [sizeLine_eq]; simp only [List.length_append]; omega) ?_
    walk_at "go"
    exact h
theorem c_flat_of {d m : Nat} (hd : d ≤ 2) (hj : JoinOk W d m) : FlatOk W (d + 1) (m + 2) := by
  intro n H Q t hn ht h
  match t, ht, h with
  | .plain k, ht, h => exact c_flat_plain (by walk_at "om") ht h
  | .ifs bs e l, ht, h => exact c_flat_if hd hj hn ht h
  | .cas bs e l, ht, h => exact c_flat_case hd hj hn ht h
  | .loop k b, ht, h => exact c_flat_loop hd hj hn ht h
theorem c_flat0 : FlatOk W 0 1 := by
  intro n H Q t hn ht h
  match t, ht, h with
  | .plain k, ht, h => exact c_flat_plain (by walk_at "om") ht h
theorem c_joined3 : JoinOk W 3 15 :=
  c_joined_of (by decide) (c_flat_of (by decide) (c_joined_of (by decide) (c_flat_of (by decide) (c_joined_of (by decide) (c_flat_of (by decide) (c_joined_of (by decide) c_flat0))))))
end
end
section
section
/- the rows of a tree -/
noncomputable def lpL : List (List Nat) := ["WHILE a & b DO", "FOR i := 0 TO n - 1 DO", "REPEAT"].map cd
noncomputable def sp (d : Nat) : List Nat := (List.replicate d (cd "  ")).flatten
noncomputable def semi (rows : List (List Nat)) : List (List Nat) := rows.dropLast ++ [rows.getLastD [] ++ cd ";"]
noncomputable def shiftR (inner : List (List Nat)) (span deep base : Nat) : List (List Nat) := ((List.range (inner.length - 1)).map fun i => if i + 1 < span then (inner.getD (i + 1) []).drop (2 * (deep + 2 - base)) else inner.getD (i + 1) [])
mutual
noncomputable def laidT : T → Nat → List (List Nat)
  | .plain k, d => [sp d ++ lays.getD k []]
  | .ifs bs e l, d => ifRows bs d (cd "IF ~c THEN") ++ (if e then [sp d ++ cd "ELSE"] ++ rowsT l (d + 1) else []) ++ [sp d ++ cd "END"]
  | .cas bs e l, d => [sp d ++ cd "CASE x OF"] ++ casRows bs d true ++ (if e then [sp d ++ cd "ELSE"] ++ rowsT l (d + 2) else []) ++ [sp d ++ cd "END"]
  | .loop k b, d => [sp d ++ lpL.getD k []] ++ rowsT b (d + 1) ++ [sp d ++ (if k = 2 then cd "UNTIL x = 0" else cd "END")]
noncomputable def rowsT : List T → Nat → List (List Nat)
  | [], _ => []
  | t :: r, d => (if r.isEmpty then laidT t d else semi (laidT t d)) ++ rowsT r d
noncomputable def ifRows : List (List T) → Nat → List Nat → List (List Nat)
  | [], _, _ => []
  | b :: r, d, head => [sp d ++ head] ++ rowsT b (d + 1) ++ ifRows r d (cd "ELSIF d < 3 THEN")
noncomputable def casRows : List (List T) → Nat → Bool → List (List Nat)
  | [], _, _ => []
  | b :: r, d, first =>
    [sp d ++ (if first then cd "  " else cd "| ") ++ cd "1..2, 7: " ++ ((rowsT b (d + 2)).headD []).dropWhile (· == 32)] ++
      shiftR (rowsT b (d + 2)) (headLen b) d (d + (if first then 1 else 0)) ++ casRows r d false
noncomputable def headLen : List T → Nat
  | [] => 0
  | t :: _ => (laidT t 0).length
end
end
end
section
section
variable {W : W0} {n : Nat} {H : List O} {Q : V → List O → Prop}
theorem c_shift {inner : List (List Nat)} {ii : Nat} {span deep : Nat} {first : Bool} (hn : 1 ≤ n) (hi : H[ii]? = some (.list (inner.map V.str))) (h1 : 1 ≤ inner.length) (hlen : inner.length ≤ 100000) (hrow : ∀ x ∈ inner, x.length ≤ 100000) (hd : deep ≤ 1000)
    (h : Q (.ref H.length) (H ++ [.list ((shiftR inner span deep (deep + (if first then 1 else 0))).map V.str)])) :
    CallOk W n (.ref 421) [.ref ii, .int span, .int deep, .str (if first then cd "  " else cd "| ")] H Q := by
  refine call_def' D_law_shift (by walk_at "om") rfl (fun env ge hsc => ?_)
  have key : ∀ (base : Nat) (bi : Int), bi = base → base ≤ deep + 1 → Q (.ref H.length) (H ++ [.list ((shiftR inner span deep base).map V.str)]) →
      ExecsOk W (n - 1) env ((bS (tS 37)).drop 1) [("inner", .ref ii), ("span", .int span), ("deep", .int deep), ("base", .int bi)] H (fun fl _ H' => Q fl.val H') := by
    rintro base bi rfl hb h
    refine oks_seq ?_
    walk_at "g1"
    refine seq_next (oks_seq (ok_for (kind_of (by assumption) (by kernel_rfl)) ?_))
    walk_at "g1"
    have hi2 : ∀ l, (H ++ [O.list l])[ii]? = some (.list (inner.map V.str)) := fun l => by rw [List.getElem?_append_left (lt_of_get hi)]; exact hi
    refine call_len_ref (hi2 _) (by rw [sizeLine_eq]; simp; omega) ?_
    walk_at "g1"
    rw [List.length_map]
    refine ⟨(List.range ((inner.length : Int) - 1).toNat).map fun (k : Nat) => V.int (1 + k), fun j ρ' H' => Sub ρ' [("inner", .ref ii), ("span", .int span), ("deep", .int deep), ("base", .int base), ("set_back", .ref H.length)] ∧
      H' = H ++ [.list (((List.range j).map fun i => if i + 1 < span then (inner.getD (i + 1) []).drop (2 * (deep + 2 - base)) else inner.getD (i + 1) []).map V.str)], ?_, ?_, ?_, ?_⟩
    · exact ⟨sub_cons rfl (sub_cons rfl (sub_cons rfl (sub_cons rfl (sub_cons rfl sub_nil)))), rfl⟩
    · intro j ρ' H' _ _
      exact .inr (.inr ⟨1, inner.length, rfl, by decide, by walk_at "om", by walk_at "om", rfl⟩)
    · rintro j v ρ' H' hv ⟨hsub, rfl⟩
      have hj : j < inner.length - 1 := by have := lt_of_get hv; simp at this; omega
      have hv' : v = .int ((j + 1 : Nat) : Int) := by
        rw [List.getElem?_map, List.getElem?_range (show j < ((inner.length : Int) - 1).toNat by walk_at "om")] at hv
        injection hv with hv
        exact hv.symm.trans (congrArg V.int (by walk_at "om"))
      subst hv'
      refine oks_sub (L := [("step", .int ((j + 1 : Nat) : Int)), ("inner", .ref ii), ("span", .int span), ("deep", .int deep), ("base", .int base), ("set_back", .ref H.length)]) (sub_cons (by rw [upd_lookup, if_pos rfl]) (sub_cons (by rw [upd_lookup, if_neg (by decide)]; exact hsub _ _ rfl) (sub_cons (by rw [upd_lookup, if_neg (by decide)]; exact hsub _ _ rfl) (sub_cons (by rw [upd_lookup, if_neg (by decide)]; exact hsub _ _ rfl) (sub_cons (by rw [upd_lookup, if_neg (by decide)]; exact hsub _ _ rfl) (sub_cons (by rw [upd_lookup, if_neg (by decide)]; exact hsub _ _ rfl) sub_nil)))))) ?_
      obtain ⟨x, hx⟩ : ∃ x, inner[j + 1]? = some x := ⟨inner[j + 1]'(by walk_at "om"), by simp⟩
      have hgd : inner.getD (j + 1) [] = x := by rw [List.getD_eq_getElem?_getD, hx]; rfl
      have hxl := hrow x (List.mem_of_getElem? hx)
      refine oks_seq ?_
      walk_at "g1"
      refine sub_ref (v := .str x) (hi2 _) ⟨by walk_at "om", by walk_at "om"⟩ (by unfold pyGet; rw [if_pos (by walk_at "om"), Int.toNat_natCast, List.getElem?_map, hx, Option.map_some]) ?_
      refine seq_next (oks_seq ?_)
      walk_at "g1"
      refine ⟨_, rfl, ⟨_, get_at⟩, ?_⟩
      walk_at "g1"
      · have hc : decide (((j + 1 : Nat) : Int) < (span : Int)) = true := by assumption
        have hlt : j + 1 < span := by simp at hc; omega
        refine op_mul_int (by decide) ?_
        refine ⟨x, 2 * (deep + 2 - base), rfl, congrArg V.int (by walk_at "om"), by rw [sizeLine_eq]; omega, ?_⟩
        refine ⟨_, get_at, by rw [sizeLine_eq]; simp; omega, ?_⟩
        rw [set_at]
        walk_at "go"
        refine ⟨sub_cons rfl (sub_cons rfl (sub_cons rfl (sub_cons rfl (sub_cons rfl sub_nil)))), ?_⟩
        rw [List.range_succ, List.map_append, List.map_append]
        simp only [List.map_cons, List.map_nil, if_pos hlt, hgd]
      · have hc : decide (((j + 1 : Nat) : Int) < (span : Int)) = false := by assumption
        have hlt : ¬ j + 1 < span := by simp at hc; omega
        refine ⟨_, get_at, by rw [sizeLine_eq]; simp; omega, ?_⟩
        rw [set_at]
        walk_at "go"
        refine ⟨sub_cons rfl (sub_cons rfl (sub_cons rfl (sub_cons rfl (sub_cons rfl sub_nil)))), ?_⟩
        rw [List.range_succ, List.map_append, List.map_append]
        simp only [List.map_cons, List.map_nil, if_neg hlt, hgd]
    · rintro ρ' H' ⟨hsub, rfl⟩
      refine seq_next (oks_sub (L := [("set_back", .ref H.length)]) (sub_cons (hsub _ _ rfl) sub_nil) ?_)
      refine oks_seq ?_
      walk_at "go"
      have e : ((List.range ((inner.length : Int) - 1).toNat).map fun (k : Nat) => V.int (1 + k)).length = inner.length - 1 := by simp
      rw [e]
      exact h
  refine oks_seq ?_
  walk_at "g1"
  · have hc : ((if first = true then cd "  " else cd "| ") == cd "  ") = true := by assumption
    cases first with
    | false => exact absurd hc (by decide)
    | true => exact seq_next (oks_sub (sub_cons rfl (sub_cons rfl (sub_cons rfl (sub_cons rfl sub_nil)))) (key (deep + 1) (deep + 1) (by walk_at "om") (by walk_at "om") h))
  · have hc : ((if first = true then cd "  " else cd "| ") == cd "  ") = false := by assumption
    cases first with
    | true => exact absurd hc (by decide)
    | false => exact seq_next (oks_sub (sub_cons rfl (sub_cons rfl (sub_cons rfl (sub_cons rfl sub_nil)))) (key deep (deep + 0) (by walk_at "om") (by walk_at "om") h))
end
end
section
section
variable {W : W0} {n : Nat} {H : List O} {Q : V → List O → Prop}
/-- what stood stands -/
noncomputable def Ext (H H' : List O) : Prop := ∀ (j : Nat) (o : O), H[j]? = some o → H'[j]? = some o
theorem Ext.trans {a b c : List O} (x : Ext a b) (y : Ext b c) : Ext a c := fun _ _ e => y _ _ (x _ _ e)
theorem Ext.app (H X : List O) : Ext H (H ++ X) := fun _ _ e => by rw [List.getElem?_append_left (lt_of_get e)]; exact e
theorem Ext.set {H H' : List O} (x : Ext H H') {i : Nat} (o : O) (hi : H.length ≤ i) : Ext H (H'.set i o) := fun j q e => by
  have := lt_of_get e
  rw [List.getElem?_set_ne (by walk_at "om")]; exact x _ _ e
theorem Ext.len {H H' : List O} (x : Ext H H') : H.length ≤ H'.length := by
  cases e : H.length with
  | zero => omega
  | succ k =>
    have : H[k]? = some (H[k]'(by walk_at "om")) := by simp
    have := lt_of_get (x _ _ this)
    omega
noncomputable def LaidOk (W : W0) (d m : Nat) : Prop := ∀ (n : Nat) (H : List O) (Q : V → List O → Prop) (t : T) (deep : Nat), m ≤ n → okT d t → deep + 2 * d ≤ 20 → (∀ H' i, Ext H H' → H.length ≤ i → H'[i]? = some (.list ((laidT t deep).map V.str)) → Q (.ref i) H') → CallOk W n (.ref 414) [enc t, .int deep] H Q
noncomputable def RowsOk (W : W0) (d m : Nat) : Prop := ∀ (n : Nat) (H : List O) (Q : V → List O → Prop) (b : List T) (deep : Nat), m ≤ n → okB d b → deep + 2 * d ≤ 20 → (∀ H' i, Ext H H' → H.length ≤ i → H'[i]? = some (.list ((rowsT b deep).map V.str)) → Q (.ref i) H') → CallOk W n (.ref 407) [.lst (encB b), .int deep] H Q

noncomputable def rb : Nat → Nat
  | 0 => 1
  | d + 1 => 6 * rb d + 6
noncomputable def rl (d : Nat) : Nat := 100 + 60 * d
noncomputable def RowsB (rows : List (List Nat)) (k m : Nat) : Prop := (1 ≤ rows.length ∧ rows.length ≤ k) ∧ ∀ x ∈ rows, x.length ≤ m
theorem sp_len (d : Nat) : (sp d).length = 2 * d := by
  unfold sp
  induction d with
  | zero => rfl
  | succ d ih => rw [List.replicate_succ, List.flatten_cons, List.length_append, ih]; have : (cd "  ").length = 2 := by decide
                 omega
theorem semi_b {rows : List (List Nat)} {k m : Nat} (h : RowsB rows k m) : RowsB (semi rows) k (m + 1) := by
  obtain ⟨⟨h1, h2⟩, h3⟩ := h
  have hne : rows ≠ [] := by rintro rfl; simp at h1
  have e : rows.getLastD [] = rows.getLast hne := by cases rows with
    | nil => exact absurd rfl hne
    | cons a r => simp [List.getLastD]
  unfold semi
  refine ⟨⟨by simp, by simp; omega⟩, ?_⟩
  intro x hx
  rcases List.mem_append.mp hx with hx | hx
  · have := h3 x (List.dropLast_subset _ hx); omega
  · simp only [List.mem_cons, List.not_mem_nil, or_false] at hx
    subst hx
    rw [e, List.length_append]
    have := h3 _ (List.getLast_mem hne)
    have e2 : (cd ";").length = 1 := by decide
    omega
theorem rowsT_b {d deep k m : Nat} {b : List T} (hb : 1 ≤ b.length ∧ b.length ≤ 2) (h : ∀ t ∈ b, RowsB (laidT t deep) k m) : RowsB (rowsT b deep) (2 * k) (m + 1) := by
  match b, hb with
  | [t], _ =>
    obtain ⟨⟨h1, h2⟩, h3⟩ := h t (by simp)
    simp only [rowsT, List.isEmpty_nil, if_true, List.append_nil]
    exact ⟨⟨h1, by walk_at "om"⟩, fun x hx => by have := h3 x hx; omega⟩
  | [t, u], _ =>
    obtain ⟨⟨h1, h2⟩, h3⟩ := semi_b (h t (by simp))
    obtain ⟨⟨k1, k2⟩, k3⟩ := h u (by simp)
    simp only [rowsT, List.isEmpty_nil, List.isEmpty_cons, if_true, List.append_nil, Bool.false_eq_true, if_false]
    refine ⟨⟨by rw [List.length_append]; omega, by rw [List.length_append]; omega⟩, fun x hx => ?_⟩
    rcases List.mem_append.mp hx with hx | hx
    · exact h3 x hx
    · have := k3 x hx; omega

theorem RowsB.app {a b : List (List Nat)} {k l m : Nat} (h : RowsB a k m) (h2 : b.length ≤ l ∧ ∀ x ∈ b, x.length ≤ m) : RowsB (a ++ b) (k + l) m := by
  obtain ⟨⟨h1, h3⟩, h4⟩ := h
  refine ⟨⟨by rw [List.length_append]; omega, by rw [List.length_append]; omega⟩, fun x hx => ?_⟩
  rcases List.mem_append.mp hx with hx | hx
  · exact h4 x hx
  · exact h2.2 x hx
theorem one_b {x : List Nat} {m : Nat} (h : x.length ≤ m) : RowsB [x] 1 m := ⟨⟨by simp, by simp⟩, by simpa using h⟩
theorem RowsB.ge {a : List (List Nat)} {k l m m' : Nat} (h : RowsB a k m) (hk : k ≤ l) (hm : m ≤ m') : RowsB a l m' := ⟨⟨h.1.1, by have := h.1.2; omega⟩, fun x hx => by have := h.2 x hx; omega⟩
theorem RowsB.half {a : List (List Nat)} {k m : Nat} (h : RowsB a k m) : a.length ≤ k ∧ ∀ x ∈ a, x.length ≤ m := ⟨h.1.2, h.2⟩
theorem shift_b {inner : List (List Nat)} {k m span deep base : Nat} (h : RowsB inner k m) : (shiftR inner span deep base).length ≤ k ∧ ∀ x ∈ shiftR inner span deep base, x.length ≤ m := by
  have hg : ∀ i, (inner.getD i []).length ≤ m := fun i => by
    rw [List.getD_eq_getElem?_getD]
    cases e : inner[i]? with
    | none => simp
    | some x => exact h.2 x (List.mem_of_getElem? e)
  unfold shiftR
  refine ⟨by have := h.1.2; simp; omega, fun x hx => ?_⟩
  obtain ⟨i, _, rfl⟩ := List.mem_map.mp hx
  split
  · rw [List.length_drop]; have := hg (i + 1); omega
  · exact hg (i + 1)
end
end
section
section
theorem els_b {c k m N : Nat} {heads l : List (List Nat)} {e : Bool} {x y : List Nat} (hc : c ≤ 2) (a1 : heads.length ≤ c * (1 + 2 * k)) (a2 : ∀ z ∈ heads, z.length ≤ m) (hl : RowsB l (2 * k) m) (hx : x.length ≤ m) (hy : y.length ≤ m) (hN : N = 6 * k + 4) {m' : Nat} (hm : m ≤ m') :
    RowsB (heads ++ (if e then [x] ++ l else []) ++ [y]) N m' := by
  have hE : (if e = true then [x] ++ l else []).length ≤ 1 + 2 * k ∧ ∀ z ∈ (if e = true then [x] ++ l else []), z.length ≤ m := by
    split
    · exact ((one_b hx).app hl.half).half
    · exact ⟨by simp, by simp⟩
  have hc2 : c * (1 + 2 * k) ≤ 2 * (1 + 2 * k) := Nat.mul_le_mul_right _ hc
  refine ⟨⟨by rw [List.length_append]; simp, ?_⟩, fun z hz => ?_⟩
  · simp only [List.length_append, List.length_cons, List.length_nil] at hE ⊢
    have := hE.1
    omega
  · rcases List.mem_append.mp hz with hz | hz
    · rcases List.mem_append.mp hz with hz | hz
      · have := a2 z hz; omega
      · have := hE.2 z hz; omega
    · simp only [List.mem_cons, List.not_mem_nil, or_false] at hz
      subst hz; omega
theorem laid_b : ∀ (d : Nat) (t : T) (deep : Nat), okT d t → deep + 2 * d ≤ 20 → RowsB (laidT t deep) (rb d) (rl d)
  | d, .plain k, deep, h, hd => by
    have hk : k < 3 := by cases d <;> exact h
    rw [laidT]
    refine (one_b (m := 100) ?_).ge ?_ (by unfold rl; omega)
    · rw [List.length_append, sp_len]
      have : (lays.getD k []).length ≤ 30 := by
        obtain rfl | rfl | rfl : k = 0 ∨ k = 1 ∨ k = 2 := by walk_at "om"
        all_goals decide
      omega
    · cases d with
      | zero => exact Nat.le_refl _
      | succ d => unfold rb; omega
  | 0, .ifs _ _ _, _, h, _ => h.elim
  | 0, .cas _ _ _, _, h, _ => h.elim
  | 0, .loop _ _, _, h, _ => h.elim
  | d + 1, .ifs bs e l, deep, ⟨h1, h2, h3, h4⟩, hd => by
    have hrl : rl (d + 1) = rl d + 60 := by unfold rl; omega
    have hrl0 : 100 ≤ rl d := by unfold rl; omega
    have blk : ∀ b, okB d b → RowsB (rowsT b (deep + 1)) (2 * rb d) (rl (d + 1)) := fun b hb => (rowsT_b (d := d) hb.1 fun t ht => laid_b d t (deep + 1) (hb.2 t ht) (by walk_at "om")).ge (Nat.le_refl _) (by walk_at "om")
    have heads : ∀ (bs : List (List T)) (hd' : List Nat), hd'.length ≤ 20 → (∀ b ∈ bs, okB d b) → (ifRows bs deep hd').length ≤ bs.length * (1 + 2 * rb d) ∧ ∀ x ∈ ifRows bs deep hd', x.length ≤ rl (d + 1) := by
      intro bs
      induction bs with
      | nil => intro hd' _ _; rw [ifRows]; simp
      | cons b r ih =>
        intro hd' hh hb
        rw [ifRows]
        obtain ⟨i1, i2⟩ := ih (cd "ELSIF d < 3 THEN") (by decide) fun b hb' => hb b (List.mem_cons_of_mem _ hb')
        have hb1 := blk b (hb b List.mem_cons_self)
        constructor
        · simp only [List.length_append, List.length_cons, List.length_nil]
          have := hb1.1.2
          rw [Nat.add_mul]; omega
        · intro x hx
          rcases List.mem_append.mp hx with hx | hx
          · rcases List.mem_append.mp hx with hx | hx
            · simp only [List.mem_cons, List.not_mem_nil, or_false] at hx
              subst hx
              rw [List.length_append, sp_len]; omega
            · exact hb1.2 x hx
          · exact i2 x hx
    obtain ⟨a1, a2⟩ := heads bs (cd "IF ~c THEN") (by decide) h2
    have hl := blk l ⟨h3, h4⟩
    rw [laidT]
    refine (els_b (m' := rl (d + 1)) h1.2 a1 a2 hl ?_ ?_ rfl (Nat.le_refl _)).ge (by show _ ≤ 6 * rb d + 6; omega) (Nat.le_refl _)
    · rw [List.length_append, sp_len]; have : (cd "ELSE").length = 4 := by decide
      omega
    · rw [List.length_append, sp_len]; have : (cd "END").length = 3 := by decide
      omega
  | d + 1, .cas bs e l, deep, ⟨h1, h2, h3, h4⟩, hd => by
    have hrl : rl (d + 1) = rl d + 60 := by unfold rl; omega
    have hrl0 : 100 ≤ rl d := by unfold rl; omega
    have blk : ∀ b, okB d b → RowsB (rowsT b (deep + 2)) (2 * rb d) (rl d + 1) := fun b hb => rowsT_b (d := d) hb.1 fun t ht => laid_b d t (deep + 2) (hb.2 t ht) (by walk_at "om")
    have heads : ∀ (bs : List (List T)) (fi : Bool), (∀ b ∈ bs, okB d b) → (casRows bs deep fi).length ≤ bs.length * (1 + 2 * rb d) ∧ ∀ x ∈ casRows bs deep fi, x.length ≤ rl (d + 1) := by
      intro bs
      induction bs with
      | nil => intro fi _; rw [casRows]; simp
      | cons b r ih =>
        intro fi hb
        rw [casRows]
        obtain ⟨i1, i2⟩ := ih false fun b hb' => hb b (List.mem_cons_of_mem _ hb')
        have hb1 := blk b (hb b List.mem_cons_self)
        have hs := shift_b (span := headLen b) (deep := deep) (base := deep + if fi = true then 1 else 0) hb1
        constructor
        · simp only [List.length_append, List.length_cons, List.length_nil]
          have := hs.1
          rw [Nat.add_mul]; omega
        · intro x hx
          rcases List.mem_append.mp hx with hx | hx
          · rcases List.mem_append.mp hx with hx | hx
            · simp only [List.mem_cons, List.not_mem_nil, or_false] at hx
              subst hx
              have e1 : (if fi = true then cd "  " else cd "| ").length = 2 := by cases fi <;> decide
              have e2 : (cd "1..2, 7: ").length = 9 := by decide
              have e3 : ∀ y : List Nat, (y.dropWhile (· == 32)).length ≤ y.length := fun y => (List.dropWhile_sublist _).length_le
              have e4 := e3 ((rowsT b (deep + 2)).headD [])
              have e5 : ((rowsT b (deep + 2)).headD []).length ≤ rl d + 1 := by
                cases e : rowsT b (deep + 2) with
                | nil => simp
                | cons y r => rw [e] at hb1; exact hb1.2 y List.mem_cons_self
              simp only [List.length_append, sp_len, e1, e2]; omega
            · have := hs.2 x hx; omega
          · exact i2 x hx
    obtain ⟨a1, a2⟩ := heads bs true h2
    have hl := (blk l ⟨h3, h4⟩).ge (m' := rl (d + 1)) (Nat.le_refl _) (by walk_at "om")
    rw [laidT, List.append_assoc, List.append_assoc]
    have hE := els_b (c := bs.length) (e := e) (x := sp deep ++ cd "ELSE") (y := sp deep ++ cd "END") h1.2 a1 a2 hl (by
        rw [List.length_append, sp_len]; have : (cd "ELSE").length = 4 := by decide
        omega) (by
        rw [List.length_append, sp_len]; have : (cd "END").length = 3 := by decide
        omega) rfl (Nat.le_refl (rl (d + 1)))
    rw [List.append_assoc] at hE
    refine ((one_b ?_).app (l := 6 * rb d + 5) ⟨?_, hE.2⟩).ge (by show _ ≤ 6 * rb d + 6; omega) (Nat.le_refl _)
    · rw [List.length_append, sp_len]; have : (cd "CASE x OF").length = 9 := by decide
      omega
    · have := hE.1.2; omega
  | d + 1, .loop k b, deep, ⟨h1, h3⟩, hd => by
    have hrl : rl (d + 1) = rl d + 60 := by unfold rl; omega
    have hrl0 : 100 ≤ rl d := by unfold rl; omega
    have hb : RowsB (rowsT b (deep + 1)) (2 * rb d) (rl (d + 1)) := (rowsT_b (d := d) h3.1 fun t ht => laid_b d t (deep + 1) (h3.2 t ht) (by walk_at "om")).ge (Nat.le_refl _) (by walk_at "om")
    rw [laidT, List.append_assoc]
    have e1 : (lpL.getD k []).length ≤ 30 := by
      obtain rfl | rfl | rfl : k = 0 ∨ k = 1 ∨ k = 2 := by walk_at "om"
      all_goals decide
    have e2 : (if k = 2 then cd "UNTIL x = 0" else cd "END").length ≤ 30 := by split <;> decide
    refine ((one_b ?_).app (l := 2 * rb d + 1) (hb.app (one_b ?_).half).half).ge (by show _ ≤ 6 * rb d + 6; omega) (Nat.le_refl _)
    · rw [List.length_append, sp_len]; omega
    · rw [List.length_append, sp_len]; omega
end
end
section
section
variable {W : W0} {n : Nat} {H : List O} {Q : V → List O → Prop}
noncomputable def rowsP : List T → Nat → Nat → List (List Nat)
  | [], _, _ => []
  | _ :: _, _, 0 => []
  | t :: r, d, j + 1 => (if r.isEmpty then laidT t d else semi (laidT t d)) ++ rowsP r d j
theorem rowsP_all (d : Nat) : ∀ b : List T, rowsP b d b.length = rowsT b d
  | [] => rfl
  | t :: r => by rw [List.length_cons, rowsP, rowsT, rowsP_all d r]
theorem rowsP_zero (d : Nat) (b : List T) : rowsP b d 0 = [] := by cases b <;> rfl
theorem rowsP_succ (d : Nat) : ∀ (b : List T) (j : Nat) (t : T), b[j]? = some t → rowsP b d (j + 1) = rowsP b d j ++ (if j + 1 < b.length then semi (laidT t d) else laidT t d)
  | [], j, t, h => by cases h
  | x :: r, 0, t, h => by
    cases h
    rw [rowsP, rowsP, rowsP_zero]
    cases r <;> simp
  | x :: r, j + 1, t, h => by
    have := rowsP_succ d r j t (by simpa using h)
    rw [rowsP, rowsP, this]
    simp
theorem rb_le {d : Nat} (h : d ≤ 3) : rb d ≤ 474 := by
  obtain rfl | rfl | rfl | rfl : d = 0 ∨ d = 1 ∨ d = 2 ∨ d = 3 := by walk_at "om"
  all_goals decide
theorem semi_len {x : List (List Nat)} (h : x ≠ []) : (semi x).length = x.length := by
  unfold semi; have := List.length_pos_iff.mpr h; simp; omega
theorem semi_snoc' (R : List (List Nat)) (x : List Nat) : semi (R ++ [x]) = R ++ [x ++ cd ";"] := by
  unfold semi; rw [List.dropLast_concat]; simp [List.getLastD_eq_getLast?]
theorem pySet_last (l : List V) (v w : V) : pySet (l ++ [v]) (-1) w = l ++ [w] := by
  have : seqIndex? (-1) (l ++ [v]).length = some l.length := by unfold seqIndex?; simp; omega
  unfold pySet; rw [this]; simp
theorem c_rows_of {d m : Nat} (hd : d ≤ 3) (hl : LaidOk W d m) : RowsOk W d (m + 1) := by
  intro n H Q b deep hn hb hdeep h
  obtain ⟨hb1, hb2⟩ := hb
  have hrb := rb_le hd
  have hlb : ∀ t ∈ b, RowsB (laidT t deep) (rb d) (rl d) := fun t ht => laid_b d t deep (hb2 t ht) hdeep
  have hrl : rl d ≤ 280 := by unfold rl; omega
  refine call_def' D_law_rows (by walk_at "om") rfl (fun env ge hsc => ?_)
  refine oks_seq ?_
  walk_at "g1"
  refine seq_next (oks_seq (ok_for (kind_of (by assumption) (by kernel_rfl)) ?_))
  walk_at "g1"
  refine call_len_lst (by rw [encB_map, sizeLine_eq]; simp; omega) ?_
  walk_at "g1"
  have he : (encB b).length = b.length := by rw [encB_map, List.length_map]
  rw [he]
  refine ⟨(List.range ((b.length : Int) - 0).toNat).map fun (k : Nat) => V.int (0 + k), fun j ρ' H' => Sub ρ' [("block", .lst (encB b)), ("deep", .int deep), ("rows", .ref H.length)] ∧ Ext H H' ∧ H'[H.length]? = some (.list ((rowsP b deep j).map V.str)) ∧ (rowsP b deep j).length ≤ j * 474, ?_, ?_, ?_, ?_⟩
  · exact ⟨sub_refl, Ext.app _ _, by rw [rowsP_zero]; simp, by rw [rowsP_zero]; simp⟩
  · intro j ρ' H' _ _
    exact .inr (.inr ⟨0, b.length, rfl, by decide, by walk_at "om", by walk_at "om", rfl⟩)
  · rintro j v ρ' H' hv ⟨hsub, hx, hr, hlen⟩
    have hj : j < b.length := by have := lt_of_get hv; simp at this; omega
    have hv' : v = .int (j : Int) := by
      rw [List.getElem?_map, List.getElem?_range (show j < ((b.length : Int) - 0).toNat by walk_at "om")] at hv
      injection hv with hv
      exact hv.symm.trans (congrArg V.int (by walk_at "om"))
    subst hv'
    obtain ⟨t, ht⟩ : ∃ t, b[j]? = some t := ⟨b[j]'hj, by simp⟩
    have htb := hlb t (List.mem_of_getElem? ht)
    have hne : laidT t deep ≠ [] := by intro e; have := htb.1.1; rw [e] at this; simp at this
    have hsucc := rowsP_succ deep b j t ht
    refine oks_sub (L := [("step", .int (j : Int)), ("block", .lst (encB b)), ("deep", .int deep), ("rows", .ref H.length)]) (sub_cons (by rw [upd_lookup, if_pos rfl]) (sub_cons (by rw [upd_lookup, if_neg (by decide)]; exact hsub _ _ rfl) (sub_cons (by rw [upd_lookup, if_neg (by decide)]; exact hsub _ _ rfl) (sub_cons (by rw [upd_lookup, if_neg (by decide)]; exact hsub _ _ rfl) sub_nil)))) ?_
    refine oks_seq (ok_aug rfl ?_ (kind_of (by assumption) (by kernel_rfl)))
    walk_at "g1"
    refine sub_lst (v := enc t) ⟨by walk_at "om", by walk_at "om"⟩ (by unfold pyGet; rw [if_pos (by walk_at "om"), Int.toNat_natCast, encB_map, List.getElem?_map, ht, Option.map_some]) ?_
    walk_at "g1"
    refine hl _ _ _ t deep (by walk_at "om") (hb2 t (List.mem_of_getElem? ht)) hdeep fun H2 i hx2 hi hi2 => ?_
    have hp : H.length < H'.length := lt_of_get hr
    refine op_iadd_list (hx2 _ _ hr) hi2 (by have := htb.1.2; have : j * 474 ≤ 2 * 474 := Nat.mul_le_mul_right _ (by walk_at "om"); simp; omega) ?_
    have hx3 : Ext H (H2.set H.length (.list ((rowsP b deep j).map V.str ++ (laidT t deep).map V.str))) := (hx.trans hx2).set _ (Nat.le_refl _)
    have hg3 : (H2.set H.length (.list ((rowsP b deep j).map V.str ++ (laidT t deep).map V.str)))[H.length]? = some (.list ((rowsP b deep j ++ laidT t deep).map V.str)) := by
      rw [List.getElem?_set_self (lt_of_get (hx2 _ _ hr)), List.map_append]
    generalize H2.set H.length (.list ((rowsP b deep j).map V.str ++ (laidT t deep).map V.str)) = H3 at hx3 hg3 ⊢
    refine seq_next (oks_seq ?_)
    walk_at "g1"
    refine call_len_lst (by rw [encB_map, sizeLine_eq]; simp; omega) ?_
    rw [he]
    walk_at "g1"
    · have hc : decide ((j : Int) + 1 < (b.length : Int)) = true := by assumption
      have hlt : j + 1 < b.length := by simp at hc; omega
      rw [if_pos hlt] at hsucc
      refine ok_aug_sub ?_
      walk_at "g1"
      obtain ⟨a, x, hax⟩ : ∃ a x, laidT t deep = a ++ [x] := ⟨(laidT t deep).dropLast, (laidT t deep).getLast hne, (List.dropLast_concat_getLast hne).symm⟩
      have hxl : x.length ≤ 280 := by have := htb.2 x (by rw [hax]; simp); omega
      refine ⟨H.length, -1, rfl, rfl, ?_⟩
      rw [hax, ← List.append_assoc, List.map_append] at hg3
      refine sub_ref hg3 (by decide) (pyGet_last _ _) ?_
      walk_at "g1"
      refine op_iadd_str (by rw [sizeLine_eq]; have : (cd ";").length = 1 := by decide
                             omega) ?_
      refine ⟨_, hg3, by decide, by unfold seqIndex?; simp; omega, ?_⟩
      walk_at "go"
      refine ⟨sub_cons rfl (sub_cons rfl (sub_cons rfl sub_nil)), hx3.set _ (Nat.le_refl _), ?_, ?_⟩
      · rw [List.getElem?_set_self (lt_of_get hg3), hsucc, hax, semi_snoc', ← List.append_assoc, List.map_append (l₂ := [x ++ cd ";"])]
        rw [show List.map V.str [x] = [V.str x] from rfl, pySet_last]
        rfl
      · rw [hsucc, List.length_append, semi_len hne, Nat.add_mul]
        have := htb.1.2; omega
    · have hc : decide ((j : Int) + 1 < (b.length : Int)) = false := by assumption
      have hlt : ¬ j + 1 < b.length := by simp at hc; omega
      rw [if_neg hlt] at hsucc
      walk_at "go"
      refine ⟨sub_cons rfl (sub_cons rfl (sub_cons rfl sub_nil)), hx3, by rw [hsucc]; exact hg3, ?_⟩
      rw [hsucc, List.length_append, Nat.add_mul]
      have := htb.1.2; omega
  · rintro ρ' H' ⟨hsub, hx, hr, hlen⟩
    rw [List.length_map, List.length_range, show ((b.length : Int) - 0).toNat = b.length by walk_at "om", rowsP_all] at hr
    refine seq_next (oks_sub hsub (oks_seq ?_))
    walk_at "go"
    exact h _ _ hx (Nat.le_refl _) hr
end
end
section
section
variable {W : W0} {n : Nat} {H : List O} {Q : V → List O → Prop}
theorem op_mul_sp {env : Env} {ρ : Rho} {deep : Nat} (hd : deep ≤ 100) (h : Q (.str (sp deep)) H) : Op2Ok W n env (binaryOp .Mult) (.str (cd "  ")) (.int (deep : Nat)) ρ H Q := by
  have e : (cd "  ").length = 2 := by decide
  refine op_mul_str (by rw [e, Int.toNat_natCast]; omega) (by walk_at "om") (by walk_at "om") ?_
  rw [Int.toNat_natCast]; exact h
theorem laid_start {kd : List Nat} {vs : List V} {deep : Nat} (hn : 1 ≤ n) (hd : deep ≤ 100) (h : ∀ env, GoodEnv env → env.scope = sS (tS 36) → ExecsOk W (n - 1) env ((bS (tS 36)).drop 2) [("tree", .tup (.str kd :: vs)), ("deep", .int deep), ("kind", .str kd), ("space", .str (sp deep))] H (fun fl _ H' => Q fl.val H')) :
    CallOk W n (.ref 414) [.tup (.str kd :: vs), .int deep] H Q := by
  refine call_def' D_law_laid hn rfl (fun env ge hsc => ?_)
  refine oks_seq ?_
  walk_at "g1"
  refine seq_next (oks_seq ?_)
  walk_at "g1"
  refine op_mul_sp hd ?_
  exact seq_next (h env ge hsc)
theorem laid_mid {kd : List Nat} {vs : List V} {deep : Nat} (hn : 1 ≤ n) (hd : deep ≤ 100) (hk : (kd == cd "plain") = false) (h : ∀ env, GoodEnv env → env.scope = sS (tS 36) → ExecsOk W (n - 1) env ((bS (tS 36)).drop 4) [("tree", .tup (.str kd :: vs)), ("deep", .int deep), ("kind", .str kd), ("space", .str (sp deep)), ("rows", .ref H.length)] (H ++ [.list []]) (fun fl _ H' => Q fl.val H')) :
    CallOk W n (.ref 414) [.tup (.str kd :: vs), .int deep] H Q := by
  refine laid_start hn hd fun env ge hsc => ?_
  refine oks_seq (ok_if (test_as false ?_ ⟨fun e => (by cases e), fun _ => ?_⟩))
  · walk_at "tt"
    exact ⟨hk, rfl⟩
  walk_at "ge"
  refine oks_seq ?_
  walk_at "g1"
  exact seq_next (h env ge hsc)
theorem c_laid_plain {k deep : Nat} (hk : k < 3) (hn : 2 ≤ n) (hd : deep ≤ 20) (h : ∀ H' i, Ext H H' → H.length ≤ i → H'[i]? = some (.list ((laidT (.plain k) deep).map V.str)) → Q (.ref i) H') : CallOk W n (.ref 414) [enc (.plain k), .int deep] H Q := by
  rw [laidT] at h
  rw [enc]
  refine laid_start (by walk_at "om") (by walk_at "om") fun env ge hsc => ?_
  refine oks_seq (ok_if (test_as true ?_ ⟨fun _ => oks_seq ?_, fun e => (by cases e)⟩))
  · walk_at "tt"
    exact ⟨by decide, rfl⟩
  walk_at "g1"
  · have : (lays.getD k []).length ≤ 30 := by
      obtain rfl | rfl | rfl : k = 0 ∨ k = 1 ∨ k = 2 := by walk_at "om"
      all_goals decide
    refine op_add_str (by rw [sp_len, sizeLine_eq]; omega) ?_
    walk_at "go"
    exact h _ _ (Ext.app _ _) (Nat.le_refl _) get_at
theorem ifRows_snoc {b : List T} {deep : Nat} : ∀ (bs : List (List T)) (hd : List Nat), ifRows (bs ++ [b]) deep hd = ifRows bs deep hd ++ ([sp deep ++ (if bs.isEmpty then hd else cd "ELSIF d < 3 THEN")] ++ rowsT b (deep + 1))
  | [], hd => by simp [ifRows]
  | c :: r, hd => by
    rw [List.cons_append, ifRows, ifRows_snoc r, ifRows]
    cases r <;> simp
theorem laid_tail {env : Env} {ρ' : Rho} {H' : List O} {X : List (List Nat)} {kd : List Nat} {bsE : List V} {l : List T} {e : Bool} {r d m deep off : Nat} (ge : GoodEnv env) (hsc : env.scope = sS (tS 36)) (hj : RowsOk W d m) (hn : m ≤ n) (hl : okB d l) (hdeep : deep + off + 2 * d ≤ 20) (hd3 : d ≤ 3) (hX : X.length ≤ 5000)
    (hsub : Sub ρ' [("tree", .tup [.str kd, .lst bsE, .bool e, .lst (encB l)]), ("deep", .int deep), ("kind", .str kd), ("space", .str (sp deep)), ("rows", .ref r)]) (hx : Ext H H') (hr0 : H.length ≤ r) (hr : H'[r]? = some (.list (X.map V.str)))
    (hoff : ((kd == cd "CASE") = true → off = 2) ∧ ((kd == cd "CASE") = false → off = 1))
    (h : ∀ H' i, Ext H H' → H.length ≤ i → H'[i]? = some (.list ((X ++ (if e then [sp deep ++ cd "ELSE"] ++ rowsT l (deep + off) else []) ++ [sp deep ++ cd "END"]).map V.str)) → Q (.ref i) H') :
    ExecsOk W n env ((bS (tS 36)).drop 5) ρ' H' (fun fl _ H' => Q fl.val H') := by
  have hlb := rowsT_b (d := d) (deep := deep + off) hl.1 fun t ht => laid_b d t (deep + off) (hl.2 t ht) (by walk_at "om")
  have hrb := rb_le hd3
  have e1 : (cd "ELSE").length = 4 := by decide
  have e2 : (cd "END").length = 3 := by decide
  refine oks_sub hsub (oks_seq ?_)
  have fin : ∀ (H1 : List O) (Y : List (List Nat)), Ext H H1 → H1[r]? = some (.list (Y.map V.str)) → Y.length ≤ 10000 → (∀ H' i, Ext H H' → H.length ≤ i → H'[i]? = some (.list ((Y ++ [sp deep ++ cd "END"]).map V.str)) → Q (.ref i) H') →
      ExecsOk W n env ((bS (tS 36)).drop 6) [("tree", .tup [.str kd, .lst bsE, .bool e, .lst (encB l)]), ("deep", .int deep), ("kind", .str kd), ("space", .str (sp deep)), ("rows", .ref r)] H1 (fun fl _ H' => Q fl.val H') := by
    intro H1 Y hx1 hr1 hY h
    refine oks_seq ?_
    walk_at "g1"
    refine op_add_str (by rw [sp_len, sizeLine_eq]; omega) ?_
    walk_at "g1"
    refine op_add_list (i := r) (j := H1.length) (xs := Y.map V.str) (ys := [.str (sp deep ++ cd "END")]) (by rw [List.getElem?_append_left (lt_of_get hr1)]; exact hr1) get_at (by rw [sizeLine_eq]; simp; omega) ?_
    walk_at "go"
    refine h _ _ ((hx1.trans (Ext.app _ _)).trans (Ext.app _ _)) ?_ (by rw [get_at, List.map_append]; rfl)
    have := hx1.len
    rw [List.length_append]; omega
  walk_at "g1"
  · refine ok_aug rfl ?_ (kind_of (by assumption) (by kernel_rfl))
    walk_at "g1"
    refine op_add_str (by rw [sp_len, sizeLine_eq]; omega) ?_
    walk_at "g1"
    all_goals
      first
        | (have hc : (kd == cd "CASE") = true := by assumption
           obtain rfl : off = 2 := hoff.1 hc)
        | (have hc : (kd == cd "CASE") = false := by assumption
           obtain rfl : off = 1 := hoff.2 hc)
      refine hj _ _ _ l _ hn hl (by walk_at "om") fun H2 i hx2 hi hi2 => ?_
      have hlt := lt_of_get hr
      refine op_add_list (i := H'.length) (j := i) (xs := [.str (sp deep ++ cd "ELSE")]) (hx2 _ _ get_at) hi2 (by have := hlb.1.2; rw [sizeLine_eq]; simp; omega) ?_
      have hx3 := (Ext.app H' _).trans hx2
      refine op_iadd_list (i := r) (j := H2.length) (xs := X.map V.str) (Ext.app _ _ _ _ (hx3 _ _ hr)) get_at (by have := hlb.1.2; simp; omega) ?_
      have he : e = true := by assumption
      subst he
      simp only [if_true] at h
      refine seq_next (oks_end (seq_next (fin _ _ ?_ ?_ ?_ h)))
      · exact ((hx.trans hx3).trans (Ext.app _ _)).set _ hr0
      · rw [List.getElem?_set_self (by rw [List.length_append]; have := hx3.len; omega), List.map_append, List.map_append]; rfl
      · have := hlb.1.2; simp; omega
  · have he : e = false := by assumption
    subst he
    simp only [Bool.false_eq_true, if_false, List.append_nil] at h
    exact seq_next (fin _ X hx hr (by walk_at "om") h)
theorem c_laid_if {d m deep : Nat} {bs : List (List T)} {e : Bool} {l : List T} (hd : d ≤ 2) (hj : RowsOk W d m) (hn : m + 2 ≤ n) (ht : okT (d + 1) (.ifs bs e l)) (hdeep : deep + 2 * (d + 1) ≤ 20) (h : ∀ H' i, Ext H H' → H.length ≤ i → H'[i]? = some (.list ((laidT (.ifs bs e l) deep).map V.str)) → Q (.ref i) H') : CallOk W n (.ref 414) [enc (.ifs bs e l), .int deep] H Q := by
  obtain ⟨h1, h2, h3, h4⟩ := ht
  have hrb := rb_le (d := d) (by walk_at "om")
  have hrl : rl d ≤ 280 := by unfold rl; omega
  have hbb : ∀ b ∈ bs, RowsB (rowsT b (deep + 1)) (2 * rb d) (rl d + 1) := fun b hb => rowsT_b (d := d) (deep := deep + 1) (h2 b hb).1 fun t ht => laid_b d t (deep + 1) ((h2 b hb).2 t ht) (by walk_at "om")
  rw [laidT] at h
  rw [enc]
  refine laid_mid (by walk_at "om") (by walk_at "om") (by decide) fun env ge hsc => ?_
  refine oks_seq (ok_if (test_as true ?_ ⟨fun _ => oks_seq ?_, fun e => (by cases e)⟩))
  · walk_at "tt"
    exact ⟨by decide, rfl⟩
  walk_at "g1"
  · refine seq_next (oks_seq (ok_for (kind_of (by assumption) (by kernel_rfl)) ?_))
    walk_at "g1"
    refine ⟨encBs bs, fun j ρ' H' => Sub ρ' [("tree", .tup [.str (cd "IF"), .lst (encBs bs), .bool e, .lst (encB l)]), ("deep", .int deep), ("kind", .str (cd "IF")), ("space", .str (sp deep)), ("rows", .ref H.length), ("head", .str (if j = 0 then cd "IF ~c THEN" else cd "ELSIF d < 3 THEN"))] ∧
      Ext H H' ∧ H'[H.length]? = some (.list ((ifRows (bs.take j) deep (cd "IF ~c THEN")).map V.str)) ∧ (ifRows (bs.take j) deep (cd "IF ~c THEN")).length ≤ j * 1000, ?_, fun j ρ' H' _ _ => .inl rfl, ?_, ?_⟩
    · exact ⟨sub_refl, Ext.app _ _, by simp [ifRows], by simp [ifRows]⟩
    · rintro j v ρ' H' hv ⟨hsub, hx, hr, hlen⟩
      rw [encBs_map] at hv
      obtain ⟨b, hb, rfl⟩ : ∃ b, bs[j]? = some b ∧ v = .lst (encB b) := by
        rw [List.getElem?_map] at hv
        cases e : bs[j]? with
        | none => rw [e] at hv; cases hv
        | some x => rw [e] at hv; cases hv; exact ⟨x, rfl, rfl⟩
      have hj2 : j < bs.length := lt_of_get hb
      have hB := hbb b (List.mem_of_getElem? hb)
      have hhd : (if j = 0 then cd "IF ~c THEN" else cd "ELSIF d < 3 THEN").length ≤ 20 := by split <;> decide
      refine oks_sub (sub_upd hsub) (oks_seq (ok_aug rfl ?_ (kind_of (by assumption) (by kernel_rfl))))
      walk_at "g1"
      refine op_add_str (by rw [sp_len, sizeLine_eq]; omega) ?_
      walk_at "g1"
      refine hj _ _ _ b (deep + 1) (by walk_at "om") (h2 b (List.mem_of_getElem? hb)) (by walk_at "om") fun H2 i hx2 hi hi2 => ?_
      have hlt := lt_of_get hr
      refine op_add_list (i := H'.length) (j := i) (hx2 _ _ get_at) hi2 (by have := hB.1.2; rw [sizeLine_eq]; simp; omega) ?_
      have hx3 := (Ext.app H' _).trans hx2
      refine op_iadd_list (i := H.length) (j := H2.length) (Ext.app _ _ _ _ (hx3 _ _ hr)) get_at (by have := hB.1.2; have : j * 1000 ≤ 2 * 1000 := Nat.mul_le_mul_right _ (by walk_at "om"); simp; omega) ?_
      refine seq_next (oks_seq ?_)
      walk_at "go"
      have e1 : ifRows (bs.take (j + 1)) deep (cd "IF ~c THEN") = ifRows (bs.take j) deep (cd "IF ~c THEN") ++ ([sp deep ++ (if j = 0 then cd "IF ~c THEN" else cd "ELSIF d < 3 THEN")] ++ rowsT b (deep + 1)) := by
        rw [List.take_add_one, hb]
        show ifRows (bs.take j ++ [b]) deep _ = _
        rw [ifRows_snoc]
        have : (bs.take j).isEmpty = decide (j = 0) := by
          cases j with
          | zero => rfl
          | succ j => cases bs with
            | nil => simp at hj2
            | cons x r => rfl
        rw [this]; simp
      refine ⟨?_, ((hx.trans hx3).trans (Ext.app _ _)).set _ (Nat.le_refl _), ?_, ?_⟩
      · exact sub_cons rfl (sub_cons rfl (sub_cons rfl (sub_cons rfl (sub_cons rfl (sub_cons rfl sub_nil)))))
      · rw [List.getElem?_set_self (by rw [List.length_append]; have := hx3.len; omega), e1, List.map_append, List.map_append]; rfl
      · rw [e1, List.length_append, List.length_append, Nat.add_mul]
        have := hB.1.2
        simp; omega
    · rintro ρ' H' ⟨hsub, hx, hr, hlen⟩
      rw [show (encBs bs).length = bs.length by rw [encBs_map, List.length_map], List.take_length] at hr hlen
      have : bs.length * 1000 ≤ 2 * 1000 := Nat.mul_le_mul_right _ (by walk_at "om")
      refine seq_next (oks_end (seq_next (laid_tail (n := n - 1) (kd := cd "IF") (bsE := encBs bs) (m := m) (d := d) (off := 1) ge hsc hj (by walk_at "om") ⟨h3, h4⟩ (by walk_at "om") (by walk_at "om") (by walk_at "om") ?_ hx (Nat.le_refl _) hr ⟨fun hc => absurd hc (by decide), fun _ => rfl⟩ h)))
      exact sub_cons (hsub _ _ rfl) (sub_cons (hsub _ _ rfl) (sub_cons (hsub _ _ rfl) (sub_cons (hsub _ _ rfl) (sub_cons (hsub _ _ rfl) sub_nil))))
end
end
section
section
variable {W : W0} {n : Nat} {H : List O} {Q : V → List O → Prop}
noncomputable def casOne (b : List T) (d : Nat) (fi : Bool) : List (List Nat) := [sp d ++ (if fi then cd "  " else cd "| ") ++ cd "1..2, 7: " ++ ((rowsT b (d + 2)).headD []).dropWhile (· == 32)] ++ shiftR (rowsT b (d + 2)) (headLen b) d (d + (if fi then 1 else 0))
theorem casRows_snoc {b : List T} {deep : Nat} : ∀ (bs : List (List T)) (fi : Bool), casRows (bs ++ [b]) deep fi = casRows bs deep fi ++ casOne b deep (bs.isEmpty && fi)
  | [], fi => by simp [casRows, casOne]
  | c :: r, fi => by
    rw [List.cons_append, casRows, casRows_snoc r, casRows]
    simp
theorem c_laid_case {d m m0 deep : Nat} {bs : List (List T)} {e : Bool} {l : List T} (hd : d ≤ 2) (hj : RowsOk W d m) (hl0 : LaidOk W d m0) (hm0 : m0 ≤ m) (hn : m + 2 ≤ n) (ht : okT (d + 1) (.cas bs e l)) (hdeep : deep + 2 * (d + 1) ≤ 20) (h : ∀ H' i, Ext H H' → H.length ≤ i → H'[i]? = some (.list ((laidT (.cas bs e l) deep).map V.str)) → Q (.ref i) H') : CallOk W n (.ref 414) [enc (.cas bs e l), .int deep] H Q := by
  obtain ⟨h1, h2, h3, h4⟩ := ht
  have hrb := rb_le (d := d) (by walk_at "om")
  have hrl : rl d ≤ 280 := by unfold rl; omega
  have hbb : ∀ b ∈ bs, RowsB (rowsT b (deep + 2)) (2 * rb d) (rl d + 1) := fun b hb => rowsT_b (d := d) (deep := deep + 2) (h2 b hb).1 fun t ht => laid_b d t (deep + 2) ((h2 b hb).2 t ht) (by walk_at "om")
  rw [laidT] at h
  rw [enc]
  refine laid_mid (by walk_at "om") (by walk_at "om") (by decide) fun env ge hsc => ?_
  refine oks_seq (ok_if (test_as false ?_ ⟨fun e => (by cases e), fun _ => ?_⟩))
  · walk_at "tt"
    exact ⟨by decide, rfl⟩
  refine oks_seq (ok_if (test_as true ?_ ⟨fun _ => oks_seq ?_, fun e => (by cases e)⟩))
  · walk_at "tt"
    exact ⟨by decide, rfl⟩
  walk_at "g1"
  · have e9 : (cd "CASE x OF").length = 9 := by decide
    refine ⟨_, rfl, ⟨_, get_at⟩, ?_⟩
    walk_at "g1"
    refine op_add_str (by rw [sp_len, sizeLine_eq]; omega) ?_
    refine ⟨_, get_at, by decide, ?_⟩
    rw [set_at]
    refine seq_next (oks_seq ?_)
    walk_at "g1"
    refine seq_next (oks_seq (ok_for (kind_of (by assumption) (by kernel_rfl)) ?_))
    walk_at "g1"
    refine ⟨encBs bs, fun j ρ' H' => Sub ρ' [("tree", .tup [.str (cd "CASE"), .lst (encBs bs), .bool e, .lst (encB l)]), ("deep", .int deep), ("kind", .str (cd "CASE")), ("space", .str (sp deep)), ("rows", .ref H.length), ("front", .str (if decide (j = 0) = true then cd "  " else cd "| "))] ∧
      Ext H H' ∧ H'[H.length]? = some (.list (([sp deep ++ cd "CASE x OF"] ++ casRows (bs.take j) deep true).map V.str)) ∧ (casRows (bs.take j) deep true).length ≤ j * 1000, ?_, fun j ρ' H' _ _ => .inl rfl, ?_, ?_⟩
    · exact ⟨sub_refl, Ext.app _ _, by simp [casRows], by simp [casRows]⟩
    · rintro j v ρ' H' hv ⟨hsub, hx, hr, hlen⟩
      rw [encBs_map] at hv
      obtain ⟨b, hb, rfl⟩ : ∃ b, bs[j]? = some b ∧ v = .lst (encB b) := by
        rw [List.getElem?_map] at hv
        cases e : bs[j]? with
        | none => rw [e] at hv; cases hv
        | some x => rw [e] at hv; cases hv; exact ⟨x, rfl, rfl⟩
      have hj2 : j < bs.length := lt_of_get hb
      have hB := hbb b (List.mem_of_getElem? hb)
      have hob := h2 b (List.mem_of_getElem? hb)
      have hfr : (if decide (j = 0) = true then cd "  " else cd "| ").length = 2 := by split <;> decide
      have hlt := lt_of_get hr
      refine oks_sub (sub_upd hsub) (oks_seq ?_)
      walk_at "g1"
      refine hj _ _ _ b (deep + 2) (by walk_at "om") hob (by walk_at "om") fun H2 i hx2 hi hi2 => ?_
      refine seq_next (oks_seq ?_)
      walk_at "g1"
      refine ⟨_, rfl, ⟨_, hx2 _ _ hr⟩, ?_⟩
      walk_at "g1"
      refine op_add_str (by rw [sp_len, hfr, sizeLine_eq]; omega) ?_
      walk_at "g1"
      have e10 : (cd "1..2, 7: ").length = 9 := by decide
      obtain ⟨x, xs, hxs⟩ : ∃ x xs, rowsT b (deep + 2) = x :: xs := List.exists_cons_of_ne_nil (by intro e; have := hB.1.1; rw [e] at this; simp at this)
      have hxl : x.length ≤ 281 := by have := hB.2 x (by rw [hxs]; simp); omega
      have hdw : (x.dropWhile (· == 32)).length ≤ 281 := Nat.le_trans (List.dropWhile_sublist _).length_le hxl
      refine op_add_str (by rw [List.length_append, sp_len, hfr, sizeLine_eq]; omega) ?_
      walk_at "g1"
      refine sub_ref (v := .str x) hi2 (by decide) (by rw [hxs]; rfl) ?_
      refine ⟨x, rfl, ?_⟩
      walk_at "g1"
      refine ⟨32, rfl, by rw [sizeLine_eq]; omega, ?_⟩
      refine op_add_str (by rw [List.length_append, List.length_append, sp_len, hfr, sizeLine_eq]; omega) ?_
      refine ⟨_, hx2 _ _ hr, by have : j * 1000 ≤ 2 * 1000 := Nat.mul_le_mul_right _ (by walk_at "om")
                                rw [sizeLine_eq]; simp; omega, ?_⟩
      have hx3 : Ext H (H2.set H.length (.list (([sp deep ++ cd "CASE x OF"] ++ casRows (bs.take j) deep true).map V.str ++ [.str (sp deep ++ (if decide (j = 0) = true then cd "  " else cd "| ") ++ cd "1..2, 7: " ++ x.dropWhile (· == 32))]))) := (hx.trans hx2).set _ (Nat.le_refl _)
      have hi3 : (H2.set H.length (.list (([sp deep ++ cd "CASE x OF"] ++ casRows (bs.take j) deep true).map V.str ++ [.str (sp deep ++ (if decide (j = 0) = true then cd "  " else cd "| ") ++ cd "1..2, 7: " ++ x.dropWhile (· == 32))])))[i]? = some (.list ((rowsT b (deep + 2)).map V.str)) := by
        rw [List.getElem?_set_ne (by walk_at "om")]; exact hi2
      have hr3 : (H2.set H.length (.list (([sp deep ++ cd "CASE x OF"] ++ casRows (bs.take j) deep true).map V.str ++ [.str (sp deep ++ (if decide (j = 0) = true then cd "  " else cd "| ") ++ cd "1..2, 7: " ++ x.dropWhile (· == 32))])))[H.length]? = some (.list (([sp deep ++ cd "CASE x OF"] ++ casRows (bs.take j) deep true ++ [sp deep ++ (if decide (j = 0) = true then cd "  " else cd "| ") ++ cd "1..2, 7: " ++ x.dropWhile (· == 32)]).map V.str)) := by
        rw [List.getElem?_set_self (by have := hx2.len; omega), List.map_append (l₁ := _ ++ _)]; rfl
      generalize H2.set H.length _ = H3 at hx3 hi3 hr3 ⊢
      refine seq_next (oks_seq (ok_aug rfl ?_ (kind_of (by assumption) (by kernel_rfl))))
      walk_at "g1"
      obtain ⟨t, r, rfl⟩ : ∃ t r, b = t :: r := List.exists_cons_of_ne_nil (by rintro rfl; simp at hob)
      refine sub_lst (v := enc t) (by decide) (by rw [encB_map]; rfl) ?_
      walk_at "g1"
      refine hl0 _ _ _ t 0 (by walk_at "om") (hob.2 t (by simp)) (by walk_at "om") fun H4 i4 hx4 hi4 hg4 => ?_
      have hlb := laid_b d t 0 (hob.2 t (by simp)) (by walk_at "om")
      walk_at "g1"
      refine call_len_ref hg4 (by rw [sizeLine_eq]; have := hlb.1.2; simp; omega) ?_
      rw [List.length_map]
      walk_at "g1"
      have hSh := shift_b (span := (laidT t 0).length) (deep := deep) (base := deep + if decide (j = 0) = true then 1 else 0) hB
      refine c_shift (first := decide (j = 0)) (by walk_at "om") (hx4 _ _ hi3) hB.1.1 (by have := hB.1.2; omega) (fun x hx => by have := hB.2 x hx; omega) (by walk_at "om") ?_
      have hlt3 := lt_of_get hr3
      have hl4 := hx4.len
      have hb1 := hSh.1
      have hb2 : (([sp deep ++ cd "CASE x OF"] ++ casRows (bs.take j) deep true ++ [sp deep ++ (if decide (j = 0) = true then cd "  " else cd "| ") ++ cd "1..2, 7: " ++ x.dropWhile (· == 32)]).map V.str).length + ((shiftR (rowsT (t :: r) (deep + 2)) (laidT t 0).length deep (deep + if decide (j = 0) = true then 1 else 0)).map V.str).length ≤ 2 ^ 20 := by
        have : j * 1000 ≤ 2 * 1000 := Nat.mul_le_mul_right _ (by walk_at "om")
        simp only [List.length_map, List.length_append, List.length_cons, List.length_nil]; omega
      refine op_iadd_list (i := H.length) (j := H4.length) (Ext.app _ _ _ _ (hx4 _ _ hr3)) get_at hb2 ?_
      refine seq_next (oks_seq ?_)
      walk_at "go"
      have e1 : casRows (bs.take (j + 1)) deep true = casRows (bs.take j) deep true ++ ([sp deep ++ (if decide (j = 0) = true then cd "  " else cd "| ") ++ cd "1..2, 7: " ++ x.dropWhile (· == 32)] ++ shiftR (rowsT (t :: r) (deep + 2)) (laidT t 0).length deep (deep + if decide (j = 0) = true then 1 else 0)) := by
        rw [List.take_add_one, hb]
        show casRows (bs.take j ++ [t :: r]) deep _ = _
        rw [casRows_snoc]
        have : ((bs.take j).isEmpty && true) = decide (j = 0) := by
          rw [Bool.and_true]
          cases j with
          | zero => rfl
          | succ j => cases bs with
            | nil => simp at hj2
            | cons x r => rfl
        rw [this]
        unfold casOne
        rw [hxs]; rfl
      refine ⟨?_, (hx3.trans (hx4.trans (Ext.app _ _))).set _ (Nat.le_refl _), ?_, ?_⟩
      · exact sub_cons rfl (sub_cons rfl (sub_cons rfl (sub_cons rfl (sub_cons rfl (sub_cons (by rfl) sub_nil)))))
      · rw [List.getElem?_set_self (by rw [List.length_append]; omega), e1]
        simp only [List.map_append, List.append_assoc]
      · rw [e1, List.length_append, List.length_append, Nat.add_mul]
        have := hSh.1
        have := hB.1.2
        simp only [List.length_cons, List.length_nil]; omega
    · rintro ρ' H' ⟨hsub, hx, hr, hlen⟩
      rw [show (encBs bs).length = bs.length by rw [encBs_map, List.length_map], List.take_length] at hr hlen
      have : bs.length * 1000 ≤ 2 * 1000 := Nat.mul_le_mul_right _ (by walk_at "om")
      refine seq_next (oks_end (seq_next (oks_end (seq_next (laid_tail (n := n - 1) (kd := cd "CASE") (bsE := encBs bs) (m := m) (d := d) (off := 2) ge hsc hj (by walk_at "om") ⟨h3, h4⟩ (by walk_at "om") (by walk_at "om") (by simp; omega) ?_ hx (Nat.le_refl _) hr ⟨fun _ => rfl, fun hc => absurd hc (by decide)⟩ h)))))
      exact sub_cons (hsub _ _ rfl) (sub_cons (hsub _ _ rfl) (sub_cons (hsub _ _ rfl) (sub_cons (hsub _ _ rfl) (sub_cons (hsub _ _ rfl) sub_nil))))
end
end
section
section
variable {W : W0} {n : Nat} {H : List O} {Q : V → List O → Prop}
theorem c_laid_loop {d m k deep : Nat} {b : List T} (hd : d ≤ 2) (hj : RowsOk W d m) (hn : m + 2 ≤ n) (ht : okT (d + 1) (.loop k b)) (hdeep : deep + 2 * (d + 1) ≤ 20) (h : ∀ H' i, Ext H H' → H.length ≤ i → H'[i]? = some (.list ((laidT (.loop k b) deep).map V.str)) → Q (.ref i) H') : CallOk W n (.ref 414) [enc (.loop k b), .int deep] H Q := by
  obtain ⟨h1, h3⟩ := ht
  have hrb := rb_le (d := d) (by walk_at "om")
  have hB : RowsB (rowsT b (deep + 1)) (2 * rb d) (rl d + 1) := rowsT_b (d := d) (deep := deep + 1) h3.1 fun t ht => laid_b d t (deep + 1) (h3.2 t ht) (by walk_at "om")
  rw [laidT] at h
  rw [enc]
  obtain ⟨x, y, hx, hy, hlk, n1, n2, n3, n4, hyl⟩ : ∃ x y : String, lps.getD k [] = cd x ∧ lpL.getD k [] = cd y ∧ List.lookup x [("WHILE", cd "WHILE a & b DO"), ("FOR", cd "FOR i := 0 TO n - 1 DO"), ("REPEAT", cd "REPEAT")] = some (cd y) ∧ (cd x == cd "plain") = false ∧ (cd x == cd "IF") = false ∧ (cd x == cd "CASE") = false ∧ (cd x == cd "REPEAT") = decide (k = 2) ∧ (cd y).length ≤ 30 := by
    obtain rfl | rfl | rfl : k = 0 ∨ k = 1 ∨ k = 2 := by walk_at "om"
    · exact ⟨"WHILE", "WHILE a & b DO", rfl, rfl, rfl, by decide, by decide, by decide, by decide, by decide⟩
    · exact ⟨"FOR", "FOR i := 0 TO n - 1 DO", rfl, rfl, rfl, by decide, by decide, by decide, by decide, by decide⟩
    · exact ⟨"REPEAT", "REPEAT", rfl, rfl, rfl, by decide, by decide, by decide, by decide, by decide⟩
  rw [hx]
  rw [hy] at h
  refine laid_mid (by walk_at "om") (by walk_at "om") n1 fun env ge hsc => ?_
  refine oks_seq (ok_if (test_as false ?_ ⟨fun e => (by cases e), fun _ => ?_⟩))
  · walk_at "tt"
    exact ⟨n2, rfl⟩
  refine oks_seq (ok_if (test_as false ?_ ⟨fun e => (by cases e), fun _ => ?_⟩))
  · walk_at "tt"
    exact ⟨n3, rfl⟩
  refine oks_seq ?_
  walk_at "g1"
  refine seq_next (oks_seq ?_)
  walk_at "g1"
  refine sub_dic hlk ?_
  refine op_add_str (by rw [sp_len, sizeLine_eq]; omega) ?_
  walk_at "g1"
  refine hj _ _ _ b (deep + 1) (by walk_at "om") h3 (by walk_at "om") fun H2 i hx2 hi hi2 => ?_
  refine op_add_list (i := (H ++ [O.list []]).length) (j := i) (hx2 _ _ get_at) hi2 (by have := hB.1.2; rw [sizeLine_eq]; simp; omega) ?_
  refine seq_next (oks_seq ?_)
  have hl2 := hx2.len
  walk_at "g1"
  all_goals
    first
      | (have hc : (cd x == cd "REPEAT") = true := by assumption
         rw [n4] at hc
         have hk : k = 2 := of_decide_eq_true hc
         rw [if_pos hk] at h)
      | (have hc : (cd x == cd "REPEAT") = false := by assumption
         rw [n4] at hc
         have hk : ¬ k = 2 := of_decide_eq_false hc
         rw [if_neg hk] at h)
    refine op_add_str (by rw [sp_len, sizeLine_eq]; first | (have : (cd "UNTIL x = 0").length = 11 := by decide
                                                             omega) | (have : (cd "END").length = 3 := by decide
                                                                       omega)) ?_
    walk_at "g1"
    refine op_add_list (Ext.app _ _ _ _ get_at) get_at (by have := hB.1.2; rw [sizeLine_eq]; simp; omega) ?_
    walk_at "go"
    refine h _ _ (((((Ext.app H _).trans (Ext.app _ _)).trans hx2).trans (Ext.app _ _)).trans ((Ext.app _ _).trans (Ext.app _ _))) ?_ ?_
    · simp at hl2 ⊢; omega
    · rw [get_at, List.map_append, List.map_append]; rfl
theorem c_laid_0 : LaidOk W 0 2 := by
  intro n H Q t deep hn ht hdeep h
  cases t with
  | plain k => exact c_laid_plain ht (by walk_at "om") (by walk_at "om") h
  | ifs bs e l => exact ht.elim
  | cas bs e l => exact ht.elim
  | loop k b => exact ht.elim
theorem c_laid_of {d m m0 : Nat} (hd : d ≤ 2) (hj : RowsOk W d m) (hl : LaidOk W d m0) (hm : m0 ≤ m) : LaidOk W (d + 1) (m + 2) := by
  intro n H Q t deep hn ht hdeep h
  cases t with
  | plain k => exact c_laid_plain ht (by walk_at "om") (by walk_at "om") h
  | ifs bs e l => exact c_laid_if hd hj hn ht (by walk_at "om") h
  | cas bs e l => exact c_laid_case hd hj hl hm hn ht (by walk_at "om") h
  | loop k b => exact c_laid_loop hd hj hn ht (by walk_at "om") h
theorem c_rows3 : RowsOk W 3 12 := by
  have r0 : RowsOk W 0 3 := c_rows_of (by decide) c_laid_0
  have l1 : LaidOk W 1 5 := c_laid_of (by decide) r0 c_laid_0 (by decide)
  have r1 : RowsOk W 1 6 := c_rows_of (by decide) l1
  have l2 : LaidOk W 2 8 := c_laid_of (by decide) r1 l1 (by decide)
  have r2 : RowsOk W 2 9 := c_rows_of (by decide) l2
  have l3 : LaidOk W 3 11 := c_laid_of (by decide) r2 l2 (by decide)
  exact c_rows_of (by decide) l3
end
end
section
section
/- tokens of a tree -/
noncomputable def tk (s : List String) : List (List Nat) := s.map cd
noncomputable def srcK : List (List (List Nat)) := [tk ["x", ":=", "-", "1"], tk ["P", "(", "a", ",", "b", ".", "c", "^", ")"], tk ["a", "[", "i", "]", ":=", "a", "*", "(", "b", "+", "2", ")"]]
noncomputable def lpK : List (List (List Nat)) := [tk ["WHILE", "a", "&", "b", "DO"], tk ["FOR", "i", ":=", "0", "TO", "n", "-", "1", "DO"], tk ["REPEAT"]]
noncomputable def labK : List (List Nat) := tk ["1", "..", "2", ",", "7", ":"]
mutual
noncomputable def tokT : T → List (List Nat)
  | .plain k => srcK.getD k []
  | .ifs bs e l => tk ["IF", "~", "c", "THEN"] ++ (tokBs (tk ["ELSIF", "d", "<", "3", "THEN"]) [] bs ++ ((if e then tk ["ELSE"] ++ tokB l else []) ++ tk ["END"]))
  | .cas bs e l => tk ["CASE", "x", "OF"] ++ (tokBs (tk ["|"]) labK bs ++ ((if e then tk ["ELSE"] ++ tokB l else []) ++ tk ["END"]))
  | .loop k b => lpK.getD k [] ++ (tokB b ++ (if k = 2 then tk ["UNTIL", "x", "=", "0"] else tk ["END"]))
noncomputable def tokB : List T → List (List Nat)
  | [] => []
  | t :: r => tokT t ++ ((if r.isEmpty then [] else tk [";"]) ++ tokB r)
noncomputable def tokBs (sep lab : List (List Nat)) : List (List T) → List (List Nat)
  | [] => []
  | b :: r => lab ++ (tokB b ++ ((if r.isEmpty then [] else sep) ++ tokBs sep lab r))
end
/- joined by single blanks -/
noncomputable def txt (ts : List (List Nat)) : List Nat := joinL [32] ts
theorem joinL_cons2 (sep x y : List Nat) (r : List (List Nat)) : joinL sep (x :: y :: r) = x ++ (sep ++ joinL sep (y :: r)) := by simp [joinL]
theorem txt_app : ∀ (a b : List (List Nat)), a ≠ [] → b ≠ [] → txt (a ++ b) = txt a ++ ([32] ++ txt b)
  | [x], y :: r, _, _ => by show joinL [32] (x :: y :: r) = _; rw [joinL_cons2]; simp [txt, joinL]
  | x :: y :: r, b, _, hb => by
    show txt (x :: y :: (r ++ b)) = _
    unfold txt
    rw [joinL_cons2, joinL_cons2]
    have := txt_app (y :: r) b (by simp) hb
    unfold txt at this
    rw [show y :: (r ++ b) = y :: r ++ b from rfl, this]
    simp
theorem flatBs_c (b : List T) (r : List (List T)) : flatBs (b :: r) = joinedB b :: flatBs r := by rw [flatBs]; rfl
theorem tokT_ne : ∀ (d : Nat) (t : T), okT d t → tokT t ≠ []
  | d, .plain k, h => by
    have hk : k < 3 := by cases d <;> exact h
    rw [tokT]
    obtain rfl | rfl | rfl : k = 0 ∨ k = 1 ∨ k = 2 := by walk_at "om"
    all_goals decide
  | 0, .ifs _ _ _, h => h.elim
  | 0, .cas _ _ _, h => h.elim
  | 0, .loop _ _, h => h.elim
  | d + 1, .ifs bs e l, h => by rw [tokT]; simp [tk]
  | d + 1, .cas bs e l, h => by rw [tokT]; simp [tk]
  | d + 1, .loop k b, h => by
    rw [tokT]; split <;> simp [tk]
theorem tokB_ne {d : Nat} {b : List T} (h : okB d b) : tokB b ≠ [] := by
  match b, h with
  | t :: r, h => rw [tokB]; have := tokT_ne d t (h.2 t (by simp)); simp [this]
theorem txt_tokB {d : Nat} {b : List T} (h : okB d b) (hf : ∀ t ∈ b, txt (tokT t) = flatT t) : txt (tokB b) = joinedB b := by
  obtain ⟨h1, h2⟩ := h
  match b, h1 with
  | [t], _ =>
    simp only [tokB, joinedB, flatB, List.isEmpty_nil, if_true, List.nil_append, List.append_nil]
    rw [hf t (by simp)]; simp [joinL]
  | [t, u], _ =>
    have ht := tokT_ne d t (h2 t (by simp))
    have hu := tokT_ne d u (h2 u (by simp))
    simp only [tokB, joinedB, flatB, List.isEmpty_nil, List.isEmpty_cons, if_true, List.nil_append, List.append_nil, Bool.false_eq_true, if_false]
    rw [txt_app _ _ ht (by simp [tk]), txt_app _ _ (by simp [tk]) hu, hf t (by simp), hf u (by simp)]
    have e1 : txt (tk [";"]) = [59] := by decide
    have e2 : cd " ; " = [32, 59, 32] := by decide
    rw [e1]; simp [joinL, e2]
theorem txt_els {d : Nat} {l : List T} {e : Bool} (hl : okB d l) (hb : txt (tokB l) = joinedB l) : ∀ x : List (List Nat), x ≠ [] → txt (x ++ ((if e = true then tk ["ELSE"] ++ tokB l else []) ++ tk ["END"])) = txt x ++ ((if e = true then cd " ELSE " ++ joinedB l else cd "") ++ cd " END") := by
  intro x hx
  have e4 : cd " END" = [32] ++ txt (tk ["END"]) := by decide
  have e5 : cd " ELSE " = [32] ++ (txt (tk ["ELSE"]) ++ [32]) := by decide
  cases e with
  | false => simp only [Bool.false_eq_true, if_false, List.nil_append]; rw [txt_app _ _ hx (by simp [tk]), e4]; rfl
  | true =>
    simp only [if_true]
    rw [txt_app _ _ hx (by simp [tk]), txt_app _ _ (by simp [tk]) (by simp [tk]), txt_app _ _ (by simp [tk]) (tokB_ne hl), hb, e4, e5]
    simp
theorem txt_flat : ∀ (d : Nat) (t : T), okT d t → txt (tokT t) = flatT t
  | d, .plain k, h => by
    have hk : k < 3 := by cases d <;> exact h
    rw [tokT, flatT]
    obtain rfl | rfl | rfl : k = 0 ∨ k = 1 ∨ k = 2 := by walk_at "om"
    all_goals decide
  | 0, .ifs _ _ _, h => h.elim
  | 0, .cas _ _ _, h => h.elim
  | 0, .loop _ _, h => h.elim
  | d + 1, .ifs bs e l, ⟨h1, h2, h3, h4⟩ => by
    have hb : ∀ b, okB d b → txt (tokB b) = joinedB b := fun b hb => txt_tokB hb fun t ht => txt_flat d t (hb.2 t ht)
    have hE := txt_els (e := e) (d := d) ⟨h3, h4⟩ (hb l ⟨h3, h4⟩)
    have hS : ∀ (c : List (List T)), 1 ≤ c.length → (∀ b ∈ c, okB d b) → tokBs (tk ["ELSIF", "d", "<", "3", "THEN"]) [] c ≠ [] ∧ txt (tokBs (tk ["ELSIF", "d", "<", "3", "THEN"]) [] c) = joinL (cd " ELSIF d < 3 THEN ") (flatBs c) := by
      intro c
      induction c with
      | nil => intro hc; simp at hc
      | cons b r ih =>
        intro _ hc
        have hbb := hc b List.mem_cons_self
        have hne := tokB_ne hbb
        rw [tokBs, List.nil_append]
        refine ⟨by simp [hne], ?_⟩
        match r, ih with
        | [], _ => simp only [tokBs, List.isEmpty_nil, if_true, List.append_nil, flatBs]; rw [hb b hbb]; simp [joinL, joinedB]
        | b2 :: r2, ih =>
          obtain ⟨i1, i2⟩ := ih (by simp) fun x hx => hc x (List.mem_cons_of_mem _ hx)
          have e6 : cd " ELSIF d < 3 THEN " = [32] ++ (txt (tk ["ELSIF", "d", "<", "3", "THEN"]) ++ [32]) := by decide
          simp only [List.isEmpty_cons, Bool.false_eq_true, if_false]
          rw [txt_app _ _ hne (by simp [tk]), txt_app _ _ (by simp [tk]) i1, i2, hb b hbb, flatBs_c b, flatBs_c b2, joinL_cons2]
          rw [e6]; simp
    obtain ⟨s1, s2⟩ := hS bs h1.1 h2
    have e3 : cd "IF ~ c THEN " = txt (tk ["IF", "~", "c", "THEN"]) ++ [32] := by decide
    rw [tokT, flatT, txt_app _ _ (by simp [tk]) (by simp [tk]), hE _ s1, s2, e3]
    simp [joinedB]
  | d + 1, .cas bs e l, ⟨h1, h2, h3, h4⟩ => by
    have hb : ∀ b, okB d b → txt (tokB b) = joinedB b := fun b hb => txt_tokB hb fun t ht => txt_flat d t (hb.2 t ht)
    have hE := txt_els (e := e) (d := d) ⟨h3, h4⟩ (hb l ⟨h3, h4⟩)
    have hS : ∀ (c : List (List T)), 1 ≤ c.length → (∀ b ∈ c, okB d b) → tokBs (tk ["|"]) labK c ≠ [] ∧ txt (tokBs (tk ["|"]) labK c) = joinL (cd " | ") ((flatBs c).map fun p => cd "1 .. 2 , 7 : " ++ p) := by
      intro c
      induction c with
      | nil => intro hc; simp at hc
      | cons b r ih =>
        intro _ hc
        have hbb := hc b List.mem_cons_self
        have hne := tokB_ne hbb
        rw [tokBs]
        have e7 : cd "1 .. 2 , 7 : " = txt labK ++ [32] := by decide
        refine ⟨by simp [hne], ?_⟩
        match r, ih with
        | [], _ =>
          simp only [tokBs, List.isEmpty_nil, if_true, List.append_nil, flatBs]
          rw [txt_app _ _ (by decide) hne, hb b hbb, e7]; simp [joinL, joinedB]
        | b2 :: r2, ih =>
          obtain ⟨i1, i2⟩ := ih (by simp) fun x hx => hc x (List.mem_cons_of_mem _ hx)
          have e6 : cd " | " = [32] ++ (txt (tk ["|"]) ++ [32]) := by decide
          simp only [List.isEmpty_cons, Bool.false_eq_true, if_false]
          rw [txt_app _ _ (by decide) (by simp [hne]), txt_app _ _ hne (by simp [tk]), txt_app _ _ (by simp [tk]) i1, i2, hb b hbb, flatBs_c b, flatBs_c b2]
          simp only [List.map_cons]
          rw [joinL_cons2]
          rw [e6, e7]; simp
    obtain ⟨s1, s2⟩ := hS bs h1.1 h2
    have e3 : cd "CASE x OF " = txt (tk ["CASE", "x", "OF"]) ++ [32] := by decide
    rw [tokT, flatT, txt_app _ _ (by simp [tk]) (by simp [tk]), hE _ s1, s2, e3]
    simp [joinedB]
  | d + 1, .loop k b, ⟨h1, h3⟩ => by
    have hb := txt_tokB h3 fun t ht => txt_flat d t (h3.2 t ht)
    have hk : lpK.getD k [] ≠ [] ∧ lpH.getD k [] = txt (lpK.getD k []) ++ [32] := by
      obtain rfl | rfl | rfl : k = 0 ∨ k = 1 ∨ k = 2 := by walk_at "om"
      all_goals decide
    rw [tokT, flatT, txt_app _ _ hk.1 (by simp [tokB_ne h3]), txt_app _ _ (tokB_ne h3) (by split <;> simp [tk]), hb, hk.2]
    have e5 : cd " UNTIL x = 0" = [32] ++ txt (tk ["UNTIL", "x", "=", "0"]) := by decide
    have e4 : cd " END" = [32] ++ txt (tk ["END"]) := by decide
    rw [e4, e5]
    unfold joinedB
    split <;> simp
end
end
section
section
noncomputable def feed (s : FS) (ts : List (List Nat)) : FS := ts.foldl (fun s t => tokS s (kindT t) t) s
theorem feed_app (s : FS) (a b : List (List Nat)) : feed s (a ++ b) = feed (feed s a) b := by unfold feed; rw [List.foldl_append]
theorem feed_cons (s : FS) (t : List Nat) (b : List (List Nat)) : feed s (t :: b) = feed (tokS s (kindT t) t) b := rfl
theorem feed_nil (s : FS) : feed s [] = s := rfl
/- a row under way; no row under way -/
noncomputable def stS (R : List (List Nat)) (P : List (List Nat)) (b : List Nat × List Nat) (D : Nat) (top : Blk) (u : List Blk) (ob : Nat) (un : Bool) : FS := ⟨R, P, some b, D, top, u, ob, 0, false, false, un, false⟩
noncomputable def stN (R : List (List Nat)) (D : Nat) (top : Blk) (u : List Blk) : FS := ⟨R, [], none, D, top, u, 0, 0, false, false, false, false⟩
theorem spaces_sp (D : Nat) : spaces (2 * D) = sp D := by
  unfold spaces sp
  induction D with
  | zero => rfl
  | succ D ih =>
    rw [show 2 * (D + 1) = 2 * D + 1 + 1 by walk_at "om", List.replicate_succ, List.replicate_succ, ih, List.replicate_succ, List.flatten_cons]
    rfl
noncomputable def tg (b : List Nat × List Nat) (un : Bool) (t : List Nat) : Bool := if b.1 == cd "remark" then false else if wJ b.1 b.2 t then false else if un then true else isCl b.1 b.2 (kindT t) t
noncomputable def gp (b : List Nat × List Nat) (un : Bool) (t : List Nat) : List Nat := (if tg b un t then [] else [32]) ++ t
variable {R P : List (List Nat)} {p : List Nat} {b : List Nat × List Nat} {D ob ob' : Nat} {top : Blk} {u : List Blk} {un : Bool} {t : List Nat}
theorem writeS_S : writeS (stS R (p :: P) b D top u ob un) (kindT t) t = stS R (p :: (P ++ [gp b un t])) (kindT t, t) D top u ob (isUn (some b) t) := by
  obtain ⟨bk, bt⟩ := b
  unfold writeS stS gp tg tight
  simp
noncomputable def spec : List (List Nat) := w1 ++ w2 ++ w3 ++ w4 ++ tk ["END", "UNTIL", "ARRAY"]
noncomputable def ok1 (t : List Nat) (ob : Nat) : Option Nat :=
  if kindT t == cd "word" then (if spec.contains t then none else some ob)
  else if kindT t == cd "sign" then
    (if (tk ["|", ";", ":", "="]).contains t then none else if (tk ["(", "[", "{"]).contains t then some (ob + 1) else if (tk [")", "]", "}"]).contains t then some (ob - 1) else some ob)
  else some ob
theorem not_in {x : List (List Nat)} (hs : ¬ spec.contains t = true) (hx : ∀ y ∈ x, y ∈ spec) : x.contains t = false := by
  cases e : x.contains t with
  | false => rfl
  | true => exact absurd (by simpa using hx t (by simpa using e)) hs
theorem tk3 {a b c : String} (h : ¬ (tk [a, b, c]).contains t = true) : (t == cd a) = false ∧ (t == cd b) = false ∧ (t == cd c) = false := by simpa [tk] using h
theorem sim1 (h : ok1 t ob = some ob') : tokS (stS R (p :: P) b D top u ob un) (kindT t) t = stS R (p :: (P ++ [gp b un t])) (kindT t, t) D top u ob' (isUn (some b) t) := by
  unfold ok1 at h
  unfold tokS
  by_cases hw : (kindT t == cd "word") = true
  · rw [if_pos hw] at h ⊢
    by_cases hs : spec.contains t = true
    · rw [if_pos hs] at h; cases h
    · rw [if_neg hs] at h
      cases h
      have m1 := not_in (x := w1) hs fun y hy => List.mem_append_left _ (List.mem_append_left _ (List.mem_append_left _ (List.mem_append_left _ hy)))
      have m2 := not_in (x := w2) hs fun y hy => List.mem_append_left _ (List.mem_append_left _ (List.mem_append_left _ (List.mem_append_right _ hy)))
      have m3 := not_in (x := w3) hs fun y hy => List.mem_append_left _ (List.mem_append_left _ (List.mem_append_right _ hy))
      have m4 := not_in (x := w4) hs fun y hy => List.mem_append_left _ (List.mem_append_right _ hy)
      have m5 := not_in (x := tk ["END", "UNTIL", "ARRAY"]) hs fun y hy => List.mem_append_right _ hy
      have m6 := tk3 (bf m5)
      rw [wS7 m1 m2 m6.1 m6.2.1 m3 (by rw [m4]; rfl) m6.2.2]
      exact writeS_S
  · rw [if_neg hw] at h ⊢
    by_cases hg : (kindT t == cd "sign") = true
    · rw [if_pos hg] at h ⊢
      by_cases h1 : (tk ["|", ";", ":", "="]).contains t = true
      · rw [if_pos h1] at h; cases h
      · rw [if_neg h1] at h
        have h1' : (t == cd "|") = false ∧ (t == cd ";") = false ∧ (t == cd ":") = false ∧ (t == cd "=") = false := by simpa [tk] using h1
        have hA : signA (stS R (p :: P) b D top u ob un) t = false := by unfold signA; rw [h1'.1]; rfl
        unfold signS signR
        rw [if_neg (bf hA)]
        by_cases h2 : (tk ["(", "[", "{"]).contains t = true
        · rw [if_pos h2] at h
          cases h
          rw [if_pos (show ([cd "(", cd "[", cd "{"]).contains t = true from h2)]
          unfold bracketS
          rw [writeS_S]; rfl
        · rw [if_neg h2] at h
          rw [if_neg (show ¬ ([cd "(", cd "[", cd "{"]).contains t = true from h2)]
          by_cases h3 : (tk [")", "]", "}"]).contains t = true
          · rw [if_pos h3] at h
            cases h
            rw [if_pos (show ([cd ")", cd "]", cd "}"]).contains t = true from h3), writeS_S]; rfl
          · rw [if_neg h3] at h
            cases h
            rw [if_neg (show ¬ ([cd ")", cd "]", cd "}"]).contains t = true from h3), h1'.2.1, h1'.2.2.1, h1'.2.2.2]
            exact writeS_S
    · rw [if_neg hg] at h ⊢
      cases h
      exact writeS_S
theorem signA_no {s : FS} (h : (t == cd "|") = false) : signA s t = false := by unfold signA; rw [h]; rfl
noncomputable def wr (b : List Nat × List Nat) (un : Bool) (ob : Nat) : List (List Nat) → Option (List (List Nat) × (List Nat × List Nat) × Bool × Nat)
  | [] => some ([], b, un, ob)
  | t :: r => match ok1 t ob with
    | none => none
    | some o => match wr (kindT t, t) (isUn (some b) t) o r with
      | none => none
      | some (ps, z) => some (gp b un t :: ps, z)
theorem sim : ∀ (ts : List (List Nat)) {P : List (List Nat)} {b : List Nat × List Nat} {un : Bool} {ob : Nat} {ps : List (List Nat)} {b' : List Nat × List Nat} {un' : Bool} {ob' : Nat}, wr b un ob ts = some (ps, b', un', ob') → feed (stS R (p :: P) b D top u ob un) ts = stS R (p :: (P ++ ps)) b' D top u ob' un'
  | [], P, b, un, ob, ps, b', un', ob', h => by
    unfold wr at h; cases h; rw [feed_nil, List.append_nil]
  | t :: r, P, b, un, ob, ps, b', un', ob', h => by
    unfold wr at h
    split at h
    · cases h
    · rename_i o ho
      split at h
      · cases h
      · rename_i ps0 z hz
        cases h
        rw [feed_cons, sim1 ho, sim r hz, List.append_assoc]; rfl
/- the ends of rows -/
theorem kw {t : List Nat} (h : kindT t = cd "word") (s : FS) : tokS s (kindT t) t = wordS s (cd "word") t := by rw [h]; rfl
theorem ks {t : List Nat} (h : kindT t = cd "sign") (s : FS) : tokS s (kindT t) t = signS s (cd "sign") t := by rw [h]; rfl
noncomputable def rowOf (D : Nat) (P : List (List Nat)) : List Nat := sp D ++ P.flatten
theorem endRow_S : endRow (stS R (p :: P) b D top u ob un) = ⟨R ++ [rowOf D (p :: P)], [], none, D, top, u, ob, 0, false, false, false, false⟩ := by
  unfold endRow stS rowOf
  rw [← spaces_sp]; rfl
theorem mid_row (h : t = cd "THEN" ∨ t = cd "DO" ∨ t = cd "OF") : tokS (stS R (p :: P) b D top u 0 un) (kindT t) t = stN (R ++ [rowOf D (p :: (P ++ [gp b un t]))]) D { top with label := t == cd "OF" } u := by
  have hk : kindT t = cd "word" := by rcases h with rfl | rfl | rfl <;> decide
  have e1 : w1.contains t = false := by rcases h with rfl | rfl | rfl <;> decide
  have e2 : w2.contains t = true := by rcases h with rfl | rfl | rfl <;> decide
  have e3 : ([cd "ELSE", cd "ELSIF"]).contains t = false := by rcases h with rfl | rfl | rfl <;> decide
  rw [kw hk, wS2 e1 e2]
  unfold midS
  rw [if_neg (by simp [stS]), if_neg (by rw [e3]; decide), ← hk, writeS_S, endRow_S]
  rfl
theorem elsif_row : tokS (stS R (p :: P) b D top u 0 un) (kindT (cd "ELSIF")) (cd "ELSIF") = stS (R ++ [rowOf D (p :: P)]) [cd "ELSIF"] (cd "word", cd "ELSIF") top.base { top with label := false } u 0 false := by
  rw [kw (by decide), wS2 (by decide) (by decide)]
  unfold midS writeAt
  rw [if_neg (by simp [stS]), if_pos (by decide), if_neg (by decide)]
  show ({ endRow (stS R (p :: P) b D { top with label := false } u 0 un) with pieces := [cd "ELSIF"], before := some (cd "word", cd "ELSIF"), depth := top.base } : FS) = _
  rw [endRow_S]; rfl
theorem else_row : tokS (stS R (p :: P) b D top u 0 un) (kindT (cd "ELSE")) (cd "ELSE") = stN (R ++ [rowOf D (p :: P)] ++ [rowOf top.base [cd "ELSE"]]) top.base { top with label := false } u := by
  rw [kw (by decide), wS2 (by decide) (by decide)]
  unfold midS writeAt
  rw [if_neg (by simp [stS]), if_pos (by decide), if_pos (by decide)]
  show endRow ({ endRow (stS R (p :: P) b D { top with label := false } u 0 un) with pieces := [cd "ELSE"], before := some (cd "word", cd "ELSE"), depth := top.base } : FS) = _
  rw [endRow_S]
  exact endRow_S (un := false) (ob := 0) (b := (cd "word", cd "ELSE"))
theorem end_row {t0 : Blk} {u0 : List Blk} (h : t = cd "END" ∨ t = cd "UNTIL") : tokS (stS R (p :: P) b D top (t0 :: u0) 0 un) (kindT t) t = stS (R ++ [rowOf D (p :: P)]) [t] (cd "word", t) top.base t0 u0 0 false := by
  have hk : kindT t = cd "word" := by rcases h with rfl | rfl <;> decide
  have e1 : w1.contains t = false := by rcases h with rfl | rfl <;> decide
  have e2 : w2.contains t = false := by rcases h with rfl | rfl <;> decide
  have e3 : (t == cd "END" || t == cd "UNTIL") = true := by rcases h with rfl | rfl <;> decide
  rw [kw hk, wS3 e1 e2 e3]
  unfold endS
  show writeAt (popS (endRow (stS R (p :: P) b D top (t0 :: u0) 0 un))) _ _ (popB (endRow (stS R (p :: P) b D top (t0 :: u0) 0 un))) = _
  rw [endRow_S]; rfl
theorem bar_row (hw : top.word = cd "CASE") : tokS (stS R (p :: P) b D top u 0 un) (kindT (cd "|")) (cd "|") = stS (R ++ [rowOf D (p :: P)]) [cd "|"] (cd "sign", cd "|") top.base { top with label := true } u 0 false := by
  rw [ks (by decide)]
  unfold signS
  rw [if_pos (by unfold signA; show (cd "|" == cd "|" && top.word == cd "CASE" && (((0 : Nat) : Int) == 0)) = true; rw [hw]; decide)]
  unfold writeAt
  rw [endRow_S]; rfl
theorem colon : tokS (stS R (p :: P) b D top u 0 un) (kindT (cd ":")) (cd ":") = stS R (p :: (P ++ [gp b un (cd ":")])) (cd "sign", cd ":") D { top with label := false } u 0 false := by
  rw [ks (by decide)]
  unfold signS signR
  rw [if_neg (bf (signA_no (by decide))), if_neg (by decide), if_neg (by decide), if_pos (by decide), if_pos (by show (cd ":" == cd ":" && ((0 : Nat) : Int) == 0) = true; decide)]
  have := writeS_S (R := R) (p := p) (P := P) (b := b) (D := D) (top := top) (u := u) (ob := 0) (un := un) (t := cd ":")
  rw [show kindT (cd ":") = cd "sign" by decide] at this
  rw [this]; rfl
theorem equal : tokS (stS R (p :: P) b D top u 0 un) (kindT (cd "=")) (cd "=") = stS R (p :: (P ++ [gp b un (cd "=")])) (cd "sign", cd "=") D top u 0 false := by
  rw [ks (by decide)]
  unfold signS signR
  rw [if_neg (bf (signA_no (by decide))), if_neg (by decide), if_neg (by decide), if_pos (by decide), if_neg (by rw [show (cd "=" == cd ":") = false by decide]; exact bf rfl)]
  have := writeS_S (R := R) (p := p) (P := P) (b := b) (D := D) (top := top) (u := u) (ob := 0) (un := un) (t := cd "=")
  rw [show kindT (cd "=") = cd "sign" by decide] at this
  rw [this]; rfl
noncomputable def GT (top : Blk) : Prop := ((([cd "MODULE", cd "PROCEDURE"]).contains top.word && !top.body && top.section_ != []) || top.word == cd "RECORD") = false
theorem gp_semi (hb : (b.1 == cd "remark") = false) : gp b un (cd ";") = cd ";" := by
  unfold gp tg
  rw [hb]
  have : wJ b.1 b.2 (cd ";") = false := by unfold wJ; rw [show ((cd ";").take 1 == cd "*") = false by decide, Bool.and_false]; rfl
  rw [this]
  have : isCl b.1 b.2 (kindT (cd ";")) (cd ";") = true := by
    unfold isCl; rw [if_pos (by decide)]
  rw [this]; cases un <;> rfl
theorem semi_row (hb : (b.1 == cd "remark") = false) (ht : GT top) : tokS (stS R (p :: P) b D top u 0 un) (kindT (cd ";")) (cd ";") = stN (R ++ [rowOf D (p :: P) ++ cd ";"]) D top u := by
  rw [ks (by decide)]
  unfold signS signR
  rw [if_neg (bf (signA_no (by decide))), if_neg (by decide), if_neg (by decide), if_neg (by decide), if_pos (by show (cd ";" == cd ";" && ((0 : Nat) : Int) == 0) = true; decide)]
  have := writeS_S (R := R) (p := p) (P := P) (b := b) (D := D) (top := top) (u := u) (ob := 0) (un := un) (t := cd ";")
  rw [show kindT (cd ";") = cd "sign" by decide, gp_semi hb] at this
  rw [this]
  unfold finS
  rw [endRow_S]
  unfold GT at ht
  show (⟨_, [], none, D, top, u, 0, 0, ((([cd "MODULE", cd "PROCEDURE"]).contains top.word && !top.body && top.section_ != []) || top.word == cd "RECORD"), false, false, false⟩ : FS) = _
  rw [ht]
  unfold stN rowOf
  simp
/- the first word of a statement -/
noncomputable def Beg (s : FS) (R : List (List Nat)) (pre : List Nat) (D : Nat) (top : Blk) (u : List Blk) : Prop :=
  (∃ d0, s = stN R d0 top u ∧ usual top = D ∧ pre = sp D) ∨ ∃ p P, s = stS R (p :: P) (cd "sign", cd ":") D top u 0 false ∧ pre = rowOf D (p :: P) ++ [32]
theorem beg_write {s : FS} {pre : List Nat} (h : Beg s R pre D top u) (h1 : ∀ b, isUn b t = false) (h2 : tg (cd "sign", cd ":") false t = false) : ∃ p P, writeS s (kindT t) t = stS R (p :: P) (kindT t, t) D top u 0 false ∧ rowOf D (p :: P) = pre ++ t := by
  rcases h with ⟨d0, rfl, rfl, rfl⟩ | ⟨p, P, rfl, rfl⟩
  · refine ⟨t, [], ?_, by simp [rowOf]⟩
    unfold writeS stN stS
    simp [h1]
  · refine ⟨p, P ++ [gp (cd "sign", cd ":") false t], ?_, ?_⟩
    · rw [writeS_S, h1]
    · unfold gp; rw [h2]; simp [rowOf]
noncomputable def Fin (s : FS) (L : List (List Nat)) (top : Blk) (u : List Blk) : Prop := ∃ R p P b D, s = stS R (p :: P) b D top u 0 false ∧ (b.1 == cd "remark") = false ∧ L = R ++ [rowOf D (p :: P)]
end
end
section
section
/- a tree laid deeper is the same tree with more blanks in front -/
theorem sp_add (a b : Nat) : sp (a + b) = sp b ++ sp a := by
  unfold sp
  rw [Nat.add_comm, ← List.replicate_append_replicate, List.flatten_append]
theorem dw_sp (k : Nat) (x : List Nat) : (sp k ++ x).dropWhile (· == 32) = x.dropWhile (· == 32) := by
  induction k with
  | zero => rfl
  | succ k ih =>
    rw [show k + 1 = 1 + k by walk_at "om", sp_add 1 k, List.append_assoc]
    have e : sp 1 ++ x = 32 :: 32 :: x := rfl
    have : ∀ y : List Nat, (sp k ++ y).dropWhile (· == 32) = y.dropWhile (· == 32) := by
      intro y
      rw [← spaces_sp]; unfold spaces
      generalize 2 * k = m
      induction m with
      | zero => rfl
      | succ m ih2 => rw [List.replicate_succ, List.cons_append, List.dropWhile_cons_of_pos (by decide), ih2]
    rw [this, e, List.dropWhile_cons_of_pos (by decide), List.dropWhile_cons_of_pos (by decide)]
theorem drop_sp (k : Nat) (x : List Nat) : (sp k ++ x).drop (2 * k) = x := by
  rw [← sp_len k]; exact List.drop_left
theorem semi_map (k : Nat) (rows : List (List Nat)) (h : rows ≠ []) : semi (rows.map (sp k ++ ·)) = (semi rows).map (sp k ++ ·) := by
  unfold semi
  rw [List.map_append, List.map_dropLast]
  congr 1
  obtain ⟨a, x, rfl⟩ : ∃ a x, rows = a ++ [x] := ⟨rows.dropLast, rows.getLast h, (List.dropLast_concat_getLast h).symm⟩
  simp [List.getLastD_eq_getLast?]
theorem semi_app (R X : List (List Nat)) (h : X ≠ []) : semi (R ++ X) = R ++ semi X := by
  obtain ⟨a, x, rfl⟩ : ∃ a x, X = a ++ [x] := ⟨X.dropLast, X.getLast h, (List.dropLast_concat_getLast h).symm⟩
  unfold semi
  rw [← List.append_assoc, List.dropLast_concat, List.dropLast_concat]
  simp [List.getLastD_eq_getLast?]
theorem semi_one (x : List Nat) : semi [x] = [x ++ cd ";"] := rfl
theorem semi_snoc (R : List (List Nat)) (x : List Nat) : semi (R ++ [x]) = R ++ [x ++ cd ";"] := semi_app R [x] (by simp)
theorem semi_cons (x : List Nat) {X : List (List Nat)} (h : X ≠ []) : semi (x :: X) = x :: semi X := semi_app [x] X h
noncomputable def headT : T → List Nat
  | .plain k => lays.getD k []
  | .ifs _ _ _ => cd "IF ~c THEN"
  | .cas _ _ _ => cd "CASE x OF"
  | .loop k _ => lpL.getD k []
theorem laid_head {d : Nat} {t : T} (D : Nat) (h : okT d t) : laidT t D = (sp D ++ headT t) :: (laidT t D).tail := by
  cases t with
  | plain k => rw [laidT]; rfl
  | ifs bs e l =>
    match d, h with
    | d + 1, ⟨h1, _⟩ =>
      match bs, h1 with
      | b :: r, _ => rw [laidT, ifRows]; rfl
  | cas bs e l => rw [laidT]; rfl
  | loop k b => rw [laidT]; rfl
theorem laid_ne {d : Nat} {t : T} (D : Nat) (h : okT d t) : laidT t D ≠ [] := by rw [laid_head D h]; simp
theorem head_nb {d : Nat} {t : T} (h : okT d t) (x : List Nat) : (headT t ++ x).dropWhile (· == 32) = headT t ++ x := by
  have key : ∀ y : List Nat, (y.headD 32 == 32) = false → (y ++ x).dropWhile (· == 32) = y ++ x := by
    intro y hy
    match y with
    | [] => simp at hy
    | c :: y => rw [List.cons_append, List.dropWhile_cons_of_neg (by simpa using hy)]
  cases t with
  | plain k =>
    have hk : k < 3 := by cases d <;> exact h
    refine key (lays.getD k []) ?_
    obtain rfl | rfl | rfl : k = 0 ∨ k = 1 ∨ k = 2 := by walk_at "om"
    all_goals decide
  | ifs bs e l => exact key (cd "IF ~c THEN") (by decide)
  | cas bs e l => exact key (cd "CASE x OF") (by decide)
  | loop k b =>
    match d, h with
    | d + 1, ⟨h1, _⟩ =>
      refine key (lpL.getD k []) ?_
      obtain rfl | rfl | rfl : k = 0 ∨ k = 1 ∨ k = 2 := by walk_at "om"
      all_goals decide
theorem rows_sp {d : Nat} {b : List T} {D k : Nat} (hb : ∀ t ∈ b, okT d t) (h : ∀ t ∈ b, laidT t (D + k) = (laidT t D).map (sp k ++ ·)) : rowsT b (D + k) = (rowsT b D).map (sp k ++ ·) := by
  induction b with
  | nil => simp [rowsT]
  | cons t r ih =>
    rw [rowsT, rowsT, List.map_append, ih (fun x hx => hb x (List.mem_cons_of_mem _ hx)) fun x hx => h x (List.mem_cons_of_mem _ hx)]
    congr 1
    rw [h t List.mem_cons_self]
    split
    · rfl
    · exact semi_map k _ (laid_ne D (hb t List.mem_cons_self))
theorem rows_ne {d : Nat} {b : List T} (D : Nat) (h : okB d b) : rowsT b D ≠ [] := by
  match b, h with
  | t :: r, h =>
    have := laid_ne D (h.2 t (by simp))
    rw [rowsT]
    split
    · simp [this]
    · unfold semi; simp
theorem shift_sp {inner : List (List Nat)} {span deep base k : Nat} (hb : deep ≤ base) (hb2 : base ≤ deep + 2) (h : ∀ x ∈ inner, ∃ y, x = sp (deep + 2) ++ y) : shiftR (inner.map (sp k ++ ·)) span (deep + k) (base + k) = (shiftR inner span deep base).map (sp k ++ ·) := by
  unfold shiftR
  rw [List.length_map, List.map_map]
  refine List.map_congr_left fun i hi => ?_
  have hi2 : i + 1 < inner.length := by have := List.mem_range.mp hi; omega
  obtain ⟨x, hx⟩ : ∃ x, inner[i + 1]? = some x := ⟨inner[i + 1]'hi2, by simp⟩
  have e1 : inner.getD (i + 1) [] = x := by rw [List.getD_eq_getElem?_getD, hx]; rfl
  have e2 : (inner.map (sp k ++ ·)).getD (i + 1) [] = sp k ++ x := by rw [List.getD_eq_getElem?_getD, List.getElem?_map, hx]; rfl
  simp only [Function.comp, e1, e2]
  split
  · obtain ⟨y, rfl⟩ := h x (List.mem_of_getElem? hx)
    obtain ⟨m, hm⟩ : ∃ m, deep + 2 = base + m := ⟨deep + 2 - base, by walk_at "om"⟩
    rw [show deep + k + 2 - (base + k) = m by walk_at "om", show deep + 2 - base = m by walk_at "om", hm, sp_add base m, List.append_assoc, drop_sp, ← List.append_assoc, ← sp_add m k, Nat.add_comm m k, sp_add k m, List.append_assoc, drop_sp]
  · rfl
theorem laid_sp : ∀ (d : Nat) (t : T) (D k : Nat), okT d t → laidT t (D + k) = (laidT t D).map (sp k ++ ·)
  | d, .plain i, D, k, h => by rw [laidT, laidT, sp_add D k]; simp
  | 0, .ifs _ _ _, _, _, h => h.elim
  | 0, .cas _ _ _, _, _, h => h.elim
  | 0, .loop _ _, _, _, h => h.elim
  | d + 1, .ifs bs e l, D, k, ⟨h1, h2, h3, h4⟩ => by
    have hr : ∀ b, okB d b → rowsT b (D + k + 1) = (rowsT b (D + 1)).map (sp k ++ ·) := by
      intro b hb
      rw [show D + k + 1 = D + 1 + k by walk_at "om"]
      exact rows_sp hb.2 fun t ht => laid_sp d t (D + 1) k (hb.2 t ht)
    have hbs : ∀ (c : List (List T)) (hd : List Nat), (∀ b ∈ c, okB d b) → ifRows c (D + k) hd = (ifRows c D hd).map (sp k ++ ·) := by
      intro c
      induction c with
      | nil => intro hd _; simp [ifRows]
      | cons b r ih =>
        intro hd hc
        rw [ifRows, ifRows, hr b (hc b List.mem_cons_self), ih _ fun x hx => hc x (List.mem_cons_of_mem _ hx), sp_add D k]
        simp
    rw [laidT, laidT, hbs bs _ h2, hr l ⟨h3, h4⟩, sp_add D k]
    cases e <;> simp
  | d + 1, .cas bs e l, D, k, ⟨h1, h2, h3, h4⟩ => by
    have hr : ∀ b, okB d b → rowsT b (D + k + 2) = (rowsT b (D + 2)).map (sp k ++ ·) := by
      intro b hb
      rw [show D + k + 2 = D + 2 + k by walk_at "om"]
      exact rows_sp hb.2 fun t ht => laid_sp d t (D + 2) k (hb.2 t ht)
    have h0 : ∀ b, okB d b → ∀ x ∈ rowsT b (D + 2), ∃ y, x = sp (D + 2) ++ y := by
      intro b hb x hx
      have := rows_sp (D := 0) (k := D + 2) hb.2 fun t ht => laid_sp d t 0 (D + 2) (hb.2 t ht)
      rw [Nat.zero_add] at this
      rw [this] at hx
      obtain ⟨y, _, rfl⟩ := List.mem_map.mp hx
      exact ⟨y, rfl⟩
    have hbs : ∀ (c : List (List T)) (fi : Bool), (∀ b ∈ c, okB d b) → casRows c (D + k) fi = (casRows c D fi).map (sp k ++ ·) := by
      intro c
      induction c with
      | nil => intro fi _; simp [casRows]
      | cons b r ih =>
        intro fi hc
        have hb := hc b List.mem_cons_self
        obtain ⟨x, xs, hx⟩ := List.exists_cons_of_ne_nil (rows_ne (D + 2) hb)
        rw [casRows, casRows, hr b hb, ih _ fun x hx => hc x (List.mem_cons_of_mem _ hx)]
        have hs := shift_sp (span := headLen b) (k := k) (base := D + if fi = true then 1 else 0) (deep := D) (inner := rowsT b (D + 2)) (by walk_at "om") (by split <;> omega) (h0 b hb)
        rw [show D + k + (if fi = true then 1 else 0) = D + (if fi = true then 1 else 0) + k by walk_at "om", hs, sp_add D k, hx]
        simp only [List.map_cons, List.headD_cons, dw_sp]
        simp
    rw [laidT, laidT, hbs bs _ h2, hr l ⟨h3, h4⟩, sp_add D k]
    cases e <;> simp
  | d + 1, .loop i b, D, k, ⟨h1, h3⟩ => by
    have hr : rowsT b (D + k + 1) = (rowsT b (D + 1)).map (sp k ++ ·) := by
      rw [show D + k + 1 = D + 1 + k by walk_at "om"]
      exact rows_sp h3.2 fun t ht => laid_sp d t (D + 1) k (h3.2 t ht)
    rw [laidT, laidT, hr, sp_add D k]
    split <;> simp
noncomputable def brows (pre : List Nat) (Df D : Nat) : List T → List (List Nat)
  | [] => []
  | t :: r => (if r.isEmpty then (pre ++ headT t) :: (laidT t Df).tail else semi ((pre ++ headT t) :: (laidT t Df).tail)) ++ rowsT r D
theorem brows_same {d : Nat} {b : List T} (D : Nat) (hb : okB d b) : brows (sp D) D D b = rowsT b D := by
  match b, hb with
  | t :: r, hb => rw [brows, rowsT, ← laid_head D (hb.2 t (by simp))]
theorem shiftR_app {X Z : List (List Nat)} (hX : X ≠ []) (deep base : Nat) : shiftR (X ++ Z) X.length deep base = X.tail.map (·.drop (2 * (deep + 2 - base))) ++ Z := by
  obtain ⟨x, X, rfl⟩ := List.exists_cons_of_ne_nil hX
  unfold shiftR
  refine List.ext_getElem? fun i => ?_
  simp only [List.cons_append, List.length_cons, List.length_append, Nat.add_sub_cancel, List.tail_cons, List.getD_cons_succ]
  rw [List.getElem?_map]
  rcases Nat.lt_or_ge i (X.length + Z.length) with h | h
  · rw [List.getElem?_range h, Option.map_some]
    rcases Nat.lt_or_ge i X.length with h2 | h2
    · rw [if_pos (by walk_at "om"), List.getElem?_append_left (by simpa using h2), List.getElem?_map, List.getD_eq_getElem?_getD, List.getElem?_append_left h2, List.getElem?_eq_getElem h2]; rfl
    · rw [if_neg (by walk_at "om"), List.getElem?_append_right (by simpa using h2), List.length_map, List.getD_eq_getElem?_getD, List.getElem?_append_right h2, List.getElem?_eq_getElem (show i - X.length < Z.length by walk_at "om")]; rfl
  · rw [List.getElem?_eq_none (by simpa using h), List.getElem?_eq_none (by simp; omega)]; rfl
theorem shift_eq {k d : Nat} {b : List T} (fi : Bool) (hb : okB k b) :
    [sp d ++ (if fi then cd "  " else cd "| ") ++ cd "1..2, 7: " ++ ((rowsT b (d + 2)).headD []).dropWhile (· == 32)] ++ shiftR (rowsT b (d + 2)) (headLen b) d (d + (if fi then 1 else 0)) =
      brows (sp d ++ (if fi then cd "  " else cd "| ") ++ cd "1..2, 7: ") (d + (if fi then 1 else 0)) (d + 2) b := by
  match b, hb with
  | t :: r, hb =>
    have ht := hb.2 t (by simp)
    generalize sp d ++ (if fi then cd "  " else cd "| ") ++ cd "1..2, 7: " = pre
    obtain ⟨Df, hDf⟩ : ∃ Df, Df = d + (if fi = true then 1 else 0) := ⟨_, rfl⟩
    obtain ⟨j, hj⟩ : ∃ j, d + 2 = Df + j := ⟨d + 2 - Df, by rw [hDf]; split <;> omega⟩
    rw [← hDf]
    have hm : 2 * (d + 2 - Df) = 2 * j := by walk_at "om"
    have hX : laidT t (d + 2) = (laidT t Df).map (sp j ++ ·) := by rw [hj]; exact laid_sp k t Df j ht
    have hlen : ∀ D, (laidT t D).length = headLen (t :: r) := by
      intro D
      have := laid_sp k t 0 D ht
      rw [Nat.zero_add] at this
      rw [this, List.length_map]; rfl
    obtain ⟨tl, htl⟩ : ∃ tl, tl = (laidT t Df).tail := ⟨_, rfl⟩
    have hA := laid_head Df ht
    rw [← htl] at hA
    have go : ∀ (A : List (List Nat)) (h : List Nat) (tl' : List (List Nat)), A = (sp Df ++ (headT t ++ h)) :: tl' → A.length = headLen (t :: r) → 
        [pre ++ (((A.map (sp j ++ ·)) ++ rowsT r (d + 2)).headD []).dropWhile (· == 32)] ++ shiftR (A.map (sp j ++ ·) ++ rowsT r (d + 2)) (headLen (t :: r)) d Df = ((pre ++ (headT t ++ h)) :: tl') ++ rowsT r (d + 2) := by
      intro A h tl' hA hl
      have := shiftR_app (X := A.map (sp j ++ ·)) (Z := rowsT r (d + 2)) (by rw [hA]; simp) d Df
      rw [List.length_map, hl] at this
      rw [this, hA, hm]
      simp only [List.map_cons, List.cons_append, List.headD_cons, List.tail_cons, List.map_map]
      rw [dw_sp, dw_sp, head_nb ht]
      have : ((fun x => List.drop (2 * j) x) ∘ fun x => sp j ++ x) = id := by funext x; simp only [Function.comp, drop_sp]; rfl
      rw [this, List.map_id]; rfl
    rw [brows, rowsT, hX, ← htl]
    cases hr : r.isEmpty with
    | true =>
      simp only [if_true]
      have := go (laidT t Df) [] tl (by rw [List.append_nil]; exact hA) (hlen Df)
      rw [List.append_nil] at this
      exact this
    | false =>
      simp only [Bool.false_eq_true, if_false]
      rw [semi_map j _ (laid_ne Df ht)]
      by_cases hn : tl = []
      · subst hn
        rw [hA, semi_one]
        have := go [sp Df ++ (headT t ++ cd ";")] (cd ";") [] rfl (by rw [← hlen Df, hA]; rfl)
        rw [List.append_assoc] 
        rw [this, semi_one, List.append_assoc]
      · rw [hA, semi_cons _ hn, semi_cons _ hn]
        have hl : ((sp Df ++ headT t) :: semi tl).length = headLen (t :: r) := by
          rw [← hlen Df, hA]
          unfold semi
          have := List.length_pos_iff.mpr hn
          simp; omega
        have := go ((sp Df ++ headT t) :: semi tl) [] (semi tl) (by rw [List.append_nil]) hl
        rw [List.append_nil] at this
        exact this
end
end
section
section
variable {R P : List (List Nat)} {p : List Nat} {b : List Nat × List Nat} {D ob ob' : Nat} {top : Blk} {u : List Blk} {un : Bool} {t : List Nat} {s : FS} {pre : List Nat}
theorem GT_of {k : List Nat} {D : Nat} {l : Bool} (h1 : ([cd "MODULE", cd "PROCEDURE"]).contains k = false) (h2 : (k == cd "RECORD") = false) : GT ⟨k, D, false, [], l⟩ := by unfold GT; rw [h1, h2]; rfl
theorem name_write (h : kindT t = cd "name" ∨ kindT t = cd "number") (s : FS) : tokS s (kindT t) t = writeS s (kindT t) t := by
  unfold tokS
  rcases h with h | h <;> rw [h, if_neg (by decide), if_neg (by decide)]
theorem isUn_no (h1 : (t == cd "+") = false) (h2 : (t == cd "-") = false) : ∀ b, isUn b t = false := by
  intro b; unfold isUn; rw [if_pos (by simp [bne, h1, h2])]
theorem row_app (D : Nat) (p : List Nat) (P ps : List (List Nat)) : rowOf D (p :: (P ++ ps)) = rowOf D (p :: P) ++ ps.flatten := by unfold rowOf; simp
/-- a line that opens with a name -/
theorem plain_line {ts ps : List (List Nat)} {b' : List Nat × List Nat} (hk : kindT t = cd "name") (h1 : ∀ b, isUn b t = false) (h2 : tg (cd "sign", cd ":") false t = false) (hw : wr (cd "name", t) false 0 ts = some (ps, b', false, 0)) (hb : (b'.1 == cd "remark") = false)
    (h : Beg s R pre D top u) : Fin (feed s (t :: ts)) (R ++ [pre ++ (t ++ ps.flatten)]) top u := by
  obtain ⟨p, P, e1, e2⟩ := beg_write h h1 h2
  rw [feed_cons, name_write (.inl hk), e1, hk, sim _ hw]
  exact ⟨R, p, P ++ ps, b', D, rfl, hb, by rw [row_app, e2, List.append_assoc]⟩
theorem open_word (hk : kindT t = cd "word") (hw1 : w1.contains t = true) (hr : (t == cd "REPEAT") = false) (h1 : ∀ b, isUn b t = false) (h2 : tg (cd "sign", cd ":") false t = false) (h : Beg s R pre D top u) :
    ∃ p P, tokS s (kindT t) t = stS R (p :: P) (cd "word", t) D ⟨t, D, false, [], false⟩ (top :: u) 0 false ∧ rowOf D (p :: P) = pre ++ t := by
  obtain ⟨p, P, e1, e2⟩ := beg_write h h1 h2
  refine ⟨p, P, ?_, e2⟩
  rw [hk] at e1
  rw [kw hk, wS1 hw1]
  unfold openS
  rw [hr, if_neg (by decide), e1]; rfl
theorem open_line {ts ps : List (List Nat)} {b' : List Nat × List Nat} {un' : Bool} {last : List Nat} (hk : kindT t = cd "word") (hw1 : w1.contains t = true) (hr : (t == cd "REPEAT") = false) (h1 : ∀ b, isUn b t = false) (h2 : tg (cd "sign", cd ":") false t = false)
    (hw : wr (cd "word", t) false 0 ts = some (ps, b', un', 0)) (hl : last = cd "THEN" ∨ last = cd "DO" ∨ last = cd "OF") (h : Beg s R pre D top u) :
    feed s (t :: (ts ++ [last])) = stN (R ++ [pre ++ (t ++ (ps ++ [gp b' un' last]).flatten)]) D ⟨t, D, false, [], last == cd "OF"⟩ (top :: u) := by
  obtain ⟨p, P, e1, e2⟩ := open_word hk hw1 hr h1 h2 h
  rw [feed_cons, e1, feed_app, sim _ hw, feed_cons, feed_nil, mid_row hl]
  rw [show p :: (P ++ ps ++ [gp b' un' last]) = p :: (P ++ (ps ++ [gp b' un' last])) by rw [List.append_assoc], row_app, e2, List.append_assoc]
theorem open_rep (h : Beg s R pre D top u) : feed s [cd "REPEAT"] = stN (R ++ [pre ++ cd "REPEAT"]) D ⟨cd "REPEAT", D, false, [], false⟩ (top :: u) := by
  obtain ⟨p, P, e1, e2⟩ := beg_write (t := cd "REPEAT") h (isUn_no (by decide) (by decide)) (by decide)
  rw [show kindT (cd "REPEAT") = cd "word" by decide] at e1
  rw [feed_cons, feed_nil, kw (by decide), wS1 (by decide)]
  unfold openS
  rw [if_pos (by decide), e1]
  show endRow (stS R (p :: P) _ D ⟨cd "REPEAT", D, false, [], false⟩ (top :: u) 0 false) = _
  rw [endRow_S, e2]; rfl
theorem Fin.semi {L : List (List Nat)} (h : Fin s (R ++ L) top u) (hL : L ≠ []) (ht : GT top) : ∃ d0, feed s (tk [";"]) = stN (R ++ semi L) d0 top u := by
  obtain ⟨R1, p, P, b, D, rfl, hb, e⟩ := h
  refine ⟨D, ?_⟩
  rw [show tk [";"] = [cd ";"] from rfl, feed_cons, feed_nil, semi_row hb ht]
  rw [← semi_app R L hL, e, semi_snoc]
theorem feed_block {d D Df : Nat} {b : List T} (hT : ∀ t ∈ b, ∀ s R pre D top u, Beg s R pre D top u → Fin (feed s (tokT t)) (R ++ ((pre ++ headT t) :: (laidT t D).tail)) top u) (hb : okB d b) (h : Beg s R pre Df top u) (ht : GT top) (hD : usual top = D) :
    Fin (feed s (tokB b)) (R ++ brows pre Df D b) top u := by
  obtain ⟨h1, h2⟩ := hb
  match b, h1 with
  | [t], _ =>
    have := hT t (by simp) _ _ _ _ _ _ h
    simpa only [tokB, brows, rowsT, List.isEmpty_nil, if_true, List.nil_append, List.append_nil] using this
  | [t, v], _ =>
    have f1 := hT t (by simp) _ _ _ _ _ _ h
    obtain ⟨d0, f2⟩ := f1.semi (by simp) ht
    have f3 := hT v (by simp) (stN (R ++ semi ((pre ++ headT t) :: (laidT t Df).tail)) d0 top u) _ (sp D) D top u (.inl ⟨d0, rfl, hD, rfl⟩)
    rw [← laid_head D (h2 v (by simp))] at f3
    simp only [tokB, brows, rowsT, List.isEmpty_nil, List.isEmpty_cons, if_true, List.nil_append, List.append_nil, Bool.false_eq_true, if_false]
    rw [feed_app, feed_app, f2, ← List.append_assoc]
    exact f3
/-- ELSE and END -/
theorem feed_tail {d off : Nat} {l : List T} {e : Bool} {kwd : List Nat} {L : List (List Nat)} (hT : ∀ t ∈ l, ∀ s R pre D top u, Beg s R pre D top u → Fin (feed s (tokT t)) (R ++ ((pre ++ headT t) :: (laidT t D).tail)) top u) (hl : okB d l)
    (hu : usual ⟨kwd, D, false, [], false⟩ = D + off) (hg : GT ⟨kwd, D, false, [], false⟩) (h : Fin s L ⟨kwd, D, false, [], false⟩ (top :: u)) :
    Fin (feed s ((if e then tk ["ELSE"] ++ tokB l else []) ++ tk ["END"])) (L ++ ((if e then [sp D ++ cd "ELSE"] ++ rowsT l (D + off) else []) ++ [sp D ++ cd "END"])) top u := by
  have fin : ∀ (s : FS) (L : List (List Nat)), Fin s L ⟨kwd, D, false, [], false⟩ (top :: u) → Fin (feed s (tk ["END"])) (L ++ [sp D ++ cd "END"]) top u := by
    rintro s L ⟨R1, p, P, b, D1, rfl, hb, rfl⟩
    refine ⟨R1 ++ [rowOf D1 (p :: P)], cd "END", [], (cd "word", cd "END"), D, ?_, (by decide : (cd "word" == cd "remark") = false), by unfold rowOf; simp⟩
    exact end_row (.inl rfl)
  cases e with
  | false => exact fin s L h
  | true =>
    obtain ⟨R1, p, P, b, D1, rfl, hb, rfl⟩ := h
    simp only [if_true]
    rw [feed_app, feed_app]
    have e1 : feed (stS R1 (p :: P) b D1 ⟨kwd, D, false, [], false⟩ (top :: u) 0 false) (tk ["ELSE"]) = stN (R1 ++ [rowOf D1 (p :: P)] ++ [rowOf D [cd "ELSE"]]) D ⟨kwd, D, false, [], false⟩ (top :: u) := else_row
    rw [e1]
    have f := feed_block (d := d) (D := D + off) (Df := D + off) (pre := sp (D + off)) (R := R1 ++ [rowOf D1 (p :: P)] ++ [rowOf D [cd "ELSE"]]) (s := stN (R1 ++ [rowOf D1 (p :: P)] ++ [rowOf D [cd "ELSE"]]) D ⟨kwd, D, false, [], false⟩ (top :: u)) hT hl (.inl ⟨D, rfl, hu, rfl⟩) hg hu
    rw [brows_same _ hl] at f
    have := fin _ _ f
    rw [show rowOf D [cd "ELSE"] = sp D ++ cd "ELSE" by unfold rowOf; simp] at this ⊢
    simpa only [List.append_assoc] using this
theorem feed_ifs {d : Nat} : ∀ (bs : List (List T)) (R : List (List Nat)) (d0 : Nat), (∀ b ∈ bs, ∀ t ∈ b, ∀ s R pre D top u, Beg s R pre D top u → Fin (feed s (tokT t)) (R ++ ((pre ++ headT t) :: (laidT t D).tail)) top u) → (∀ b ∈ bs, okB d b) → ∀ b r, bs = b :: r →
    Fin (feed (stN R d0 ⟨cd "IF", D, false, [], false⟩ u) (tokBs (tk ["ELSIF", "d", "<", "3", "THEN"]) [] bs)) (R ++ (rowsT b (D + 1) ++ ifRows r D (cd "ELSIF d < 3 THEN"))) ⟨cd "IF", D, false, [], false⟩ u
  | [], R, d0, _, _, b, r, h => by cases h
  | b :: r, R, d0, hT, hb, b', r', h => by
    cases h
    have f := feed_block (D := D + 1) (Df := D + 1) (pre := sp (D + 1)) (R := R) (s := stN R d0 ⟨cd "IF", D, false, [], false⟩ u) (hT b List.mem_cons_self) (hb b List.mem_cons_self) (.inl ⟨d0, rfl, rfl, rfl⟩) (GT_of (by decide) (by decide)) rfl
    rw [brows_same _ (hb b List.mem_cons_self)] at f
    match r with
    | [] =>
      simp only [tokBs, ifRows, List.isEmpty_nil, if_true, List.nil_append, List.append_nil]
      exact f
    | b2 :: r2 =>
      have ih := feed_ifs (b2 :: r2) (R ++ rowsT b (D + 1) ++ [sp D ++ cd "ELSIF d < 3 THEN"]) D (fun x hx => hT x (List.mem_cons_of_mem _ hx)) (fun x hx => hb x (List.mem_cons_of_mem _ hx)) b2 r2 rfl
      rw [tokBs, List.nil_append, feed_app]
      simp only [List.isEmpty_cons, Bool.false_eq_true, if_false]
      obtain ⟨R1, p, P, bb, D1, e1, hbb, e2⟩ := f
      rw [e1, feed_app]
      have e3 : feed (stS R1 (p :: P) bb D1 ⟨cd "IF", D, false, [], false⟩ u 0 false) (tk ["ELSIF", "d", "<", "3", "THEN"]) = stN (R ++ rowsT b (D + 1) ++ [sp D ++ cd "ELSIF d < 3 THEN"]) D ⟨cd "IF", D, false, [], false⟩ u := by
        show feed _ (cd "ELSIF" :: (tk ["d", "<", "3"] ++ [cd "THEN"])) = _
        rw [feed_cons, elsif_row, feed_app, sim (ps := tk [" d", " <", " 3"]) (b' := (cd "number", cd "3")) (un' := false) (ob' := 0) (tk ["d", "<", "3"]) (by decide), feed_cons, feed_nil, mid_row (.inl rfl), ← e2, row_app]
        have e4 : rowOf D (cd "ELSIF" :: ([] ++ tk [" d", " <", " 3"])) ++ [gp (cd "number", cd "3") false (cd "THEN")].flatten = sp D ++ cd "ELSIF d < 3 THEN" := by
          unfold rowOf
          rw [List.append_assoc]
          congr 1
        rw [e4]
        rfl
      rw [e3]
      rw [ifRows, ← List.append_assoc, ← List.append_assoc, ← List.append_assoc, List.append_assoc (R ++ rowsT b (D + 1) ++ [sp D ++ cd "ELSIF d < 3 THEN"])]
      exact ih
/-- labels -/
theorem lab_line {P ps : List (List Nat)} {b b' : List Nat × List Nat} {ts : List (List Nat)} {un' : Bool} (hw : wr b false 0 ts = some (ps, b', un', 0)) : Beg (feed (stS R (p :: P) b D top u 0 false) (ts ++ [cd ":"])) R (rowOf D (p :: (P ++ (ps ++ [gp b' un' (cd ":")]))) ++ [32]) D { top with label := false } u := by
  rw [feed_app, sim _ hw, feed_cons, feed_nil, colon, List.append_assoc]
  exact .inr ⟨_, _, rfl, rfl⟩
theorem lab_first {d0 : Nat} : Beg (feed (stN R d0 ⟨cd "CASE", D, false, [], true⟩ u) labK) R (sp D ++ cd "  " ++ cd "1..2, 7: ") (D + 1) ⟨cd "CASE", D, false, [], false⟩ u := by
  have e0 : feed (stN R d0 ⟨cd "CASE", D, false, [], true⟩ u) labK = feed (stS R [cd "1"] (cd "number", cd "1") (D + 1) ⟨cd "CASE", D, false, [], true⟩ u 0 false) (tk ["..", "2", ",", "7"] ++ [cd ":"]) := by
    show feed _ (cd "1" :: _) = _
    rw [feed_cons, name_write (.inr (by decide))]
    rfl
  have := lab_line (R := R) (p := cd "1") (P := []) (D := D + 1) (top := ⟨cd "CASE", D, false, [], true⟩) (u := u) (b := (cd "number", cd "1")) (ts := tk ["..", "2", ",", "7"]) (ps := tk ["..", "2", ",", " 7"]) (b' := (cd "number", cd "7")) (un' := false) (by decide)
  rw [e0]
  have e : rowOf (D + 1) (cd "1" :: ([] ++ (tk ["..", "2", ",", " 7"] ++ [gp (cd "number", cd "7") false (cd ":")]))) ++ [32] = sp D ++ cd "  " ++ cd "1..2, 7: " := by
    unfold rowOf
    rw [show D + 1 = 1 + D by walk_at "om", sp_add, List.append_assoc, List.append_assoc, List.append_assoc]
    congr 1
  rw [e] at this
  exact this
theorem lab_bar : Beg (feed (stS R (p :: P) b ob ⟨cd "CASE", D, false, [], false⟩ u 0 un) (tk ["|"] ++ labK)) (R ++ [rowOf ob (p :: P)]) (sp D ++ cd "| " ++ cd "1..2, 7: ") D ⟨cd "CASE", D, false, [], false⟩ u := by
  rw [feed_app]
  have e0 : feed (stS R (p :: P) b ob ⟨cd "CASE", D, false, [], false⟩ u 0 un) (tk ["|"]) = stS (R ++ [rowOf ob (p :: P)]) [cd "|"] (cd "sign", cd "|") D ⟨cd "CASE", D, false, [], true⟩ u 0 false := by
    rw [show tk ["|"] = [cd "|"] from rfl, feed_cons, feed_nil, bar_row rfl]
  rw [e0]
  have := lab_line (R := R ++ [rowOf ob (p :: P)]) (p := cd "|") (P := []) (D := D) (top := ⟨cd "CASE", D, false, [], true⟩) (u := u) (b := (cd "sign", cd "|")) (ts := tk ["1", "..", "2", ",", "7"]) (ps := tk [" 1", "..", "2", ",", " 7"]) (b' := (cd "number", cd "7")) (un' := false) (by decide)
  have e : rowOf D (cd "|" :: ([] ++ (tk [" 1", "..", "2", ",", " 7"] ++ [gp (cd "number", cd "7") false (cd ":")]))) ++ [32] = sp D ++ cd "| " ++ cd "1..2, 7: " := by
    unfold rowOf
    rw [List.append_assoc, List.append_assoc]
    congr 1
  rw [e] at this
  exact this
theorem feed_cas {d : Nat} : ∀ (bs : List (List T)) (fi : Bool) (s : FS) (R : List (List Nat)), (∀ b ∈ bs, ∀ t ∈ b, ∀ s R pre D top u, Beg s R pre D top u → Fin (feed s (tokT t)) (R ++ ((pre ++ headT t) :: (laidT t D).tail)) top u) → (∀ b ∈ bs, okB d b) → bs ≠ [] →
    Beg (feed s labK) R (sp D ++ (if fi then cd "  " else cd "| ") ++ cd "1..2, 7: ") (D + if fi then 1 else 0) ⟨cd "CASE", D, false, [], false⟩ u →
    Fin (feed s (tokBs (tk ["|"]) labK bs)) (R ++ casRows bs D fi) ⟨cd "CASE", D, false, [], false⟩ u
  | [], fi, s, R, _, _, h, _ => absurd rfl h
  | b :: r, fi, s, R, hT, hb, _, h => by
    have f := feed_block (D := D + 2) (hT b List.mem_cons_self) (hb b List.mem_cons_self) h (GT_of (by decide) (by decide)) rfl
    rw [← shift_eq fi (hb b List.mem_cons_self)] at f
    rw [tokBs, feed_app, feed_app]
    match r with
    | [] =>
      simp only [tokBs, casRows, List.isEmpty_nil, if_true, List.append_nil]
      exact f
    | b2 :: r2 =>
      simp only [List.isEmpty_cons, Bool.false_eq_true, if_false]
      obtain ⟨R1, p, P, bb, D1, e1, hbb, e2⟩ := f
      rw [e1, feed_app]
      have hl := lab_bar (R := R1) (p := p) (P := P) (b := bb) (ob := D1) (D := D) (u := u) (un := false)
      rw [feed_app, ← e2] at hl
      have ih := feed_cas (b2 :: r2) false _ _ (fun x hx => hT x (List.mem_cons_of_mem _ hx)) (fun x hx => hb x (List.mem_cons_of_mem _ hx)) (by simp) hl
      rw [casRows, ← List.append_assoc]
      exact ih
theorem feed_tree : ∀ (d : Nat) (t : T), okT d t → ∀ (s : FS) (R : List (List Nat)) (pre : List Nat) (D : Nat) (top : Blk) (u : List Blk), Beg s R pre D top u → Fin (feed s (tokT t)) (R ++ ((pre ++ headT t) :: (laidT t D).tail)) top u
  | d, .plain k, hk, s, R, pre, D, top, u, h => by
    have hk : k < 3 := by cases d <;> exact hk
    rw [tokT, laidT]
    obtain rfl | rfl | rfl : k = 0 ∨ k = 1 ∨ k = 2 := by walk_at "om"
    · exact plain_line (t := cd "x") (ts := tk [":=", "-", "1"]) (ps := tk [" :=", " -", "1"]) (b' := (cd "number", cd "1")) (by decide) (isUn_no (by decide) (by decide)) (by decide) (by decide) (by decide) h
    · exact plain_line (t := cd "P") (ts := tk ["(", "a", ",", "b", ".", "c", "^", ")"]) (ps := tk ["(", "a", ",", " b", ".", "c", "^", ")"]) (b' := (cd "sign", cd ")")) (by decide) (isUn_no (by decide) (by decide)) (by decide) (by decide) (by decide) h
    · exact plain_line (t := cd "a") (ts := tk ["[", "i", "]", ":=", "a", "*", "(", "b", "+", "2", ")"]) (ps := tk ["[", "i", "]", " :=", " a", " *", " (", "b", " +", " 2", ")"]) (b' := (cd "sign", cd ")")) (by decide) (isUn_no (by decide) (by decide)) (by decide) (by decide) (by decide) h
  | 0, .ifs _ _ _, h, _, _, _, _, _, _, _ => h.elim
  | 0, .cas _ _ _, h, _, _, _, _, _, _, _ => h.elim
  | 0, .loop _ _, h, _, _, _, _, _, _, _ => h.elim
  | d + 1, .ifs bs e l, ⟨h1, h2, h3, h4⟩, s, R, pre, D, top, u, h => by
    rw [tokT, feed_app, feed_app]
    have e1 : feed s (tk ["IF", "~", "c", "THEN"]) = stN (R ++ [pre ++ cd "IF ~c THEN"]) D ⟨cd "IF", D, false, [], false⟩ (top :: u) :=
      open_line (t := cd "IF") (ts := tk ["~", "c"]) (ps := tk [" ~", "c"]) (b' := (cd "name", cd "c")) (un' := false) (last := cd "THEN") (by decide) (by decide) (by decide) (isUn_no (by decide) (by decide)) (by decide) (by decide) (.inl rfl) h
    rw [e1]
    match bs, h1, h2 with
    | b :: r, h1, h2 =>
      have f := feed_ifs (d := d) (D := D) (u := top :: u) (b :: r) (R ++ [pre ++ cd "IF ~c THEN"]) D (fun b hb t ht => feed_tree d t ((h2 b hb).2 t ht)) h2 b r rfl
      have g := feed_tail (d := d) (off := 1) (l := l) (e := e) (fun t ht => feed_tree d t (h4 t ht)) ⟨h3, h4⟩ rfl (GT_of (by decide) (by decide)) f
      rw [laidT, ifRows, headT]
      simp only [List.append_assoc, List.cons_append, List.nil_append, List.tail_cons] at g ⊢
      exact g
  | d + 1, .cas bs e l, ⟨h1, h2, h3, h4⟩, s, R, pre, D, top, u, h => by
    rw [tokT, feed_app, feed_app]
    have e1 : feed s (tk ["CASE", "x", "OF"]) = stN (R ++ [pre ++ cd "CASE x OF"]) D ⟨cd "CASE", D, false, [], true⟩ (top :: u) :=
      open_line (t := cd "CASE") (ts := tk ["x"]) (ps := tk [" x"]) (b' := (cd "name", cd "x")) (un' := false) (last := cd "OF") (by decide) (by decide) (by decide) (isUn_no (by decide) (by decide)) (by decide) (by decide) (.inr (.inr rfl)) h
    rw [e1]
    have f := feed_cas (d := d) (D := D) (u := top :: u) bs true _ _ (fun b hb t ht => feed_tree d t ((h2 b hb).2 t ht)) h2 (by rintro rfl; simp at h1) (lab_first (R := R ++ [pre ++ cd "CASE x OF"]) (d0 := D))
    have g := feed_tail (d := d) (off := 2) (l := l) (e := e) (fun t ht => feed_tree d t (h4 t ht)) ⟨h3, h4⟩ rfl (GT_of (by decide) (by decide)) f
    rw [laidT, headT]
    simp only [List.append_assoc, List.cons_append, List.nil_append, List.tail_cons] at g ⊢
    exact g
  | d + 1, .loop k b, ⟨h1, h3⟩, s, R, pre, D, top, u, h => by
    have blk : ∀ kwd : List Nat, usual ⟨kwd, D, false, [], false⟩ = D + 1 → GT ⟨kwd, D, false, [], false⟩ → ∀ R : List (List Nat), Fin (feed (stN R D ⟨kwd, D, false, [], false⟩ (top :: u)) (tokB b)) (R ++ rowsT b (D + 1)) ⟨kwd, D, false, [], false⟩ (top :: u) := by
      intro kwd hu hg R
      have f := feed_block (d := d) (D := D + 1) (Df := D + 1) (pre := sp (D + 1)) (R := R) (s := stN R D ⟨kwd, D, false, [], false⟩ (top :: u)) (fun t ht => feed_tree d t (h3.2 t ht)) h3 (.inl ⟨D, rfl, hu, rfl⟩) hg hu
      rw [brows_same _ h3] at f
      exact f
    have fin : ∀ (kwd : List Nat) (s : FS) (L : List (List Nat)), Fin s L ⟨kwd, D, false, [], false⟩ (top :: u) → Fin (feed s (tk ["END"])) (L ++ [sp D ++ cd "END"]) top u := by
      rintro kwd s L ⟨R1, p, P, b, D1, rfl, hb, rfl⟩
      refine ⟨R1 ++ [rowOf D1 (p :: P)], cd "END", [], (cd "word", cd "END"), D, ?_, (by decide : (cd "word" == cd "remark") = false), by unfold rowOf; simp⟩
      exact end_row (.inl rfl)
    rw [tokT, laidT, headT]
    obtain rfl | rfl | rfl : k = 0 ∨ k = 1 ∨ k = 2 := by walk_at "om"
    · have e1 : feed s (lpK.getD 0 []) = stN (R ++ [pre ++ cd "WHILE a & b DO"]) D ⟨cd "WHILE", D, false, [], false⟩ (top :: u) :=
        open_line (t := cd "WHILE") (ts := tk ["a", "&", "b"]) (ps := tk [" a", " &", " b"]) (b' := (cd "name", cd "b")) (un' := false) (last := cd "DO") (by decide) (by decide) (by decide) (isUn_no (by decide) (by decide)) (by decide) (by decide) (.inr (.inl rfl)) h
      rw [feed_app, e1, feed_app]
      have g := fin _ _ _ (blk (cd "WHILE") rfl (GT_of (by decide) (by decide)) (R ++ [pre ++ cd "WHILE a & b DO"]))
      simp only [List.append_assoc, List.cons_append, List.nil_append, List.tail_cons] at g ⊢
      exact g
    · have e1 : feed s (lpK.getD 1 []) = stN (R ++ [pre ++ cd "FOR i := 0 TO n - 1 DO"]) D ⟨cd "FOR", D, false, [], false⟩ (top :: u) :=
        open_line (t := cd "FOR") (ts := tk ["i", ":=", "0", "TO", "n", "-", "1"]) (ps := tk [" i", " :=", " 0", " TO", " n", " -", " 1"]) (b' := (cd "number", cd "1")) (un' := false) (last := cd "DO") (by decide) (by decide) (by decide) (isUn_no (by decide) (by decide)) (by decide) (by decide) (.inr (.inl rfl)) h
      rw [feed_app, e1, feed_app]
      have g := fin _ _ _ (blk (cd "FOR") rfl (GT_of (by decide) (by decide)) (R ++ [pre ++ cd "FOR i := 0 TO n - 1 DO"]))
      simp only [List.append_assoc, List.cons_append, List.nil_append, List.tail_cons] at g ⊢
      exact g
    · have e1 : feed s (lpK.getD 2 []) = stN (R ++ [pre ++ cd "REPEAT"]) D ⟨cd "REPEAT", D, false, [], false⟩ (top :: u) := open_rep h
      rw [feed_app, e1, feed_app]
      obtain ⟨R1, p, P, bb, D1, e2, hb, e3⟩ := blk (cd "REPEAT") rfl (GT_of (by decide) (by decide)) (R ++ [pre ++ cd "REPEAT"])
      rw [e2, if_pos rfl]
      have e4 : feed (stS R1 (p :: P) bb D1 ⟨cd "REPEAT", D, false, [], false⟩ (top :: u) 0 false) (tk ["UNTIL", "x", "=", "0"]) = stS (R1 ++ [rowOf D1 (p :: P)]) (cd "UNTIL" :: ([cd " x"] ++ [cd " ="] ++ [cd " 0"])) (cd "number", cd "0") D top u 0 false := by
        show feed _ (cd "UNTIL" :: cd "x" :: cd "=" :: cd "0" :: []) = _
        rw [feed_cons, end_row (.inr rfl), feed_cons, sim1 (ob' := 0) (by decide), feed_cons]
        rw [equal, feed_cons, sim1 (ob' := 0) (by decide), feed_nil]
        rfl
      rw [e4]
      refine ⟨_, _, _, _, _, rfl, (by decide : (cd "number" == cd "remark") = false), ?_⟩
      rw [← e3]
      have e5 : rowOf D (cd "UNTIL" :: ([cd " x"] ++ [cd " ="] ++ [cd " 0"])) = sp D ++ cd "UNTIL x = 0" := by unfold rowOf; congr 1
      rw [e5]
      simp only [List.append_assoc, List.cons_append, List.nil_append, List.tail_cons, if_true]
      rfl
end
end
section
section
/- the whole text -/
noncomputable def hdS : String := "MODULE M ; IMPORT Out , B := C ; VAR x * , a : ARRAY 3 OF SET ; PROCEDURE Q * ( VAR a : T ; b : M . U ) : CHAR ; CONST k = - 1 ; BEGIN "
noncomputable def tlS : String := " RETURN x END Q ; BEGIN Q END M ."
noncomputable def hdK : List (List Nat) := tk ["MODULE", "M", ";", "IMPORT", "Out", ",", "B", ":=", "C", ";", "VAR", "x", "*", ",", "a", ":", "ARRAY", "3", "OF", "SET", ";", "PROCEDURE", "Q", "*", "(", "VAR", "a", ":", "T", ";", "b", ":", "M", ".", "U", ")", ":", "CHAR", ";", "CONST", "k", "=", "-", "1", ";", "BEGIN"]
noncomputable def tlK : List (List Nat) := tk ["RETURN", "x", "END", "Q", ";", "BEGIN", "Q", "END", "M", "."]
noncomputable def dueH : List (List Nat) := tk ["MODULE M;", "  IMPORT Out, B := C;", "  VAR", "    x*, a: ARRAY 3 OF SET;", "", "  PROCEDURE Q*(VAR a: T; b: M.U): CHAR;", "    CONST", "      k = -1;", "  BEGIN"]
noncomputable def dueT : List (List Nat) := tk ["    RETURN x", "  END Q;", "BEGIN", "  Q", "END M."]
noncomputable def bkP : Blk := ⟨cd "PROCEDURE", 1, true, cd "CONST", false⟩
noncomputable def bkM : Blk := ⟨cd "MODULE", 0, false, [], false⟩
noncomputable def bk0 : Blk := ⟨[], 0, false, [], false⟩
theorem feed_hd : feed fs0 hdK = stN dueH 1 bkP [bkM, bk0] := by kernel_rfl
theorem feed_tl {R P : List (List Nat)} {p : List Nat} {b : List Nat × List Nat} {D : Nat} : (endRow (feed (stS R (p :: P) b D bkP [bkM, bk0] 0 false) tlK)).rows = R ++ [rowOf D (p :: P)] ++ dueT := by
  have e1 : tokS (stS R (p :: P) b D bkP [bkM, bk0] 0 false) (kindT (cd "RETURN")) (cd "RETURN") = stS (R ++ [rowOf D (p :: P)]) [cd "RETURN"] (cd "word", cd "RETURN") 2 bkP [bkM, bk0] 0 false := by
    rw [kw (by decide), wS4 (by decide) (by decide) (by decide) (by decide) (by decide)]
    unfold partS
    rw [if_neg (by decide), if_neg (by decide), if_neg (by decide)]
    unfold writeAt
    rw [endRow_S]; rfl
  show (endRow (feed _ (cd "RETURN" :: tk ["x", "END", "Q", ";", "BEGIN", "Q", "END", "M", "."]))).rows = _
  rw [feed_cons, e1]
  generalize R ++ [rowOf D (p :: P)] = R'
  have e2 : endRow (feed (stS R' [cd "RETURN"] (cd "word", cd "RETURN") 2 bkP [bkM, bk0] 0 false) (tk ["x", "END", "Q", ";", "BEGIN", "Q", "END", "M", "."])) = stN (R' ++ [cd "    RETURN x"] ++ [cd "  END Q;"] ++ [cd "BEGIN"] ++ [cd "  Q"] ++ [cd "END M."]) 0 bk0 [] := by kernel_rfl
  rw [e2]
  show R' ++ [cd "    RETURN x"] ++ [cd "  END Q;"] ++ [cd "BEGIN"] ++ [cd "  Q"] ++ [cd "END M."] = _
  simp only [List.append_assoc]; rfl
theorem feed_all {d : Nat} {b : List T} (hb : okB d b) : (endRow (feed fs0 (hdK ++ (tokB b ++ tlK)))).rows = dueH ++ (rowsT b 2 ++ dueT) := by
  rw [feed_app, feed_hd, feed_app]
  have f := feed_block (d := d) (D := 2) (Df := 2) (pre := sp 2) (R := dueH) (s := stN dueH 1 bkP [bkM, bk0]) (fun t ht => feed_tree d t (hb.2 t ht)) hb (.inl ⟨1, rfl, by decide, rfl⟩) (by unfold GT; decide) (by decide)
  rw [brows_same _ hb] at f
  obtain ⟨R, p, P, bb, D, e1, _, e2⟩ := f
  rw [e1, feed_tl, ← e2, List.append_assoc]
/- segments -/
noncomputable def segO : List (List Nat) → List (List Nat)
  | [] => []
  | [t] => [t]
  | t :: v :: r => t :: [32] :: segO (v :: r)
noncomputable def goodK (t : List Nat) : Bool := t != [] && decide (t.length ≤ 31) && !(t == cd "RECORD") && t != [32] && (wordB t || digB t || signB t) && decide (32 < t.headD 0)
theorem good_parts {t : List Nat} (h : goodK t = true) : t ≠ [] ∧ t.length ≤ 31 ∧ (t == cd "RECORD") = false ∧ t ≠ [32] ∧ (wordB t || digB t || signB t) = true ∧ 32 < t.headD 0 := by
  unfold goodK at h
  simp only [Bool.and_eq_true, decide_eq_true_eq, bne_iff_ne, Bool.not_eq_true'] at h
  obtain ⟨⟨⟨⟨⟨h1, h2⟩, h3⟩, h4⟩, h5⟩, h6⟩ := h
  exact ⟨h1, h2, h3, h4, h5, h6⟩
theorem good_cons {t : List Nat} {r : List (List Nat)} (h : (t :: r).all goodK = true) : goodK t = true ∧ r.all goodK = true := by rwa [List.all_cons, Bool.and_eq_true] at h
theorem segO_flat : ∀ ts : List (List Nat), (segO ts).flatten = txt ts
  | [] => rfl
  | [t] => by simp [segO, txt, joinL]
  | t :: v :: r => by
    rw [segO, List.flatten_cons, List.flatten_cons, segO_flat (v :: r)]
    unfold txt; rw [joinL_cons2]
theorem segO_runs : ∀ (ts : List (List Nat)) (s : FS), ts.all goodK = true → (segO ts).foldl runS s = feed s ts
  | [], s, _ => rfl
  | [t], s, h => by
    have h1 : t ≠ [32] := (good_parts (good_cons h).1).2.2.2.1
    show runS s t = tokS s (kindT t) t
    unfold runS; rw [if_neg h1]
  | t :: v :: r, s, h => by
    replace h := good_cons h
    have h1 : t ≠ [32] := (good_parts h.1).2.2.2.1
    rw [segO, List.foldl_cons, List.foldl_cons, feed_cons, ← segO_runs (v :: r) _ h.2]
    congr 1
    unfold runS; rw [if_pos rfl, if_neg h1]
theorem segO_head {t : List Nat} {r : List (List Nat)} (h : (t :: r).all goodK = true) : ∃ d x, (segO (t :: r)).flatten = d :: x ∧ 32 < d := by
  have h1 : 32 < t.headD 0 := (good_parts (good_cons h).1).2.2.2.2.2
  match t, h1 with
  | c :: t, h1 =>
    refine ⟨c, ?_⟩
    cases r with
    | nil => exact ⟨t, by simp [segO], h1⟩
    | cons v r => exact ⟨_, by rw [segO, List.flatten_cons]; rfl, h1⟩
theorem segO_segs : ∀ ts : List (List Nat), ts.all goodK = true → Segs (segO ts)
  | [], _ => trivial
  | [t], h => by
    have h1 := good_parts (good_cons h).1
    replace h1 := And.intro h1.1 h1.2.2.2.2.1
    exact ⟨h1.1, .inr ⟨.inl rfl, h1.2⟩, trivial⟩
  | t :: v :: r, h => by
    replace h := good_cons h
    have h1 := good_parts h.1
    replace h1 := And.intro h1.1 h1.2.2.2.2.1
    obtain ⟨d, x, e, hd⟩ := segO_head h.2
    exact ⟨h1.1, .inr ⟨.inr rfl, h1.2⟩, by simp, .inl ⟨rfl, d, x, e, hd⟩, segO_segs (v :: r) h.2⟩
theorem segO_tok : ∀ ts : List (List Nat), ts.all goodK = true → ∀ t ∈ segO ts, TokOk t
  | [], _, t, ht => by cases ht
  | [x], h, t, ht => by
    simp only [segO, List.mem_cons, List.not_mem_nil, or_false] at ht
    subst ht
    have h1 := good_parts (good_cons h).1
    exact .inr ⟨h1.1, h1.2.1, h1.2.2.1⟩
  | x :: v :: r, h, t, ht => by
    replace h := good_cons h
    rw [segO] at ht
    rcases List.mem_cons.mp ht with rfl | ht
    · have h1 := good_parts h.1
      exact .inr ⟨h1.1, h1.2.1, h1.2.2.1⟩
    · rcases List.mem_cons.mp ht with rfl | ht
      · exact .inl rfl
      · exact segO_tok (v :: r) h.2 t ht
theorem segO_len : ∀ ts : List (List Nat), (segO ts).length ≤ 2 * ts.length
  | [] => by simp [segO]
  | [t] => by simp [segO]
  | t :: v :: r => by
    have := segO_len (v :: r)
    rw [segO, List.length_cons, List.length_cons, List.length_cons]; omega
/- its tokens are good, and not too many -/
noncomputable def tb : Nat → Nat
  | 0 => 12
  | d + 1 => 6 * tb d + 40
noncomputable def OkK (ts : List (List Nat)) (k : Nat) : Prop := ts.all goodK = true ∧ ts.length ≤ k
theorem OkK.app {a b : List (List Nat)} {k l m : Nat} (h : OkK a k) (h2 : OkK b l) (hm : k + l ≤ m := by walk_at "om") : OkK (a ++ b) m := ⟨by rw [List.all_append, h.1, h2.1]; rfl, by rw [List.length_append]; have := h.2; have := h2.2; omega⟩
theorem OkK.ge {a : List (List Nat)} {k l : Nat} (h : OkK a k) (hm : k ≤ l) : OkK a l := ⟨h.1, by have := h.2; omega⟩
theorem okK_nil {k : Nat} : OkK [] k := ⟨rfl, Nat.zero_le _⟩
theorem tokB_k {d : Nat} {b : List T} (hb : 1 ≤ b.length ∧ b.length ≤ 2) (h : ∀ t ∈ b, OkK (tokT t) (tb d)) : OkK (tokB b) (2 * tb d + 1) := by
  match b, hb with
  | [t], _ =>
    simp only [tokB, List.isEmpty_nil, if_true, List.nil_append, List.append_nil]
    exact (h t (by simp)).ge (by walk_at "om")
  | [t, v], _ =>
    simp only [tokB, List.isEmpty_nil, List.isEmpty_cons, if_true, List.nil_append, List.append_nil, Bool.false_eq_true, if_false]
    exact (h t (by simp)).app (OkK.app (k := 1) (m := 1 + tb d) ⟨by decide, by decide⟩ (h v (by simp)))
theorem tokBs_k {d : Nat} {sep lab : List (List Nat)} (hs : OkK sep 5) (hl : OkK lab 6) : ∀ bs : List (List T), (∀ b ∈ bs, OkK (tokB b) (2 * tb d + 1)) → OkK (tokBs sep lab bs) (bs.length * (2 * tb d + 12))
  | [], _ => okK_nil
  | b :: r, h => by
    rw [tokBs, List.length_cons, Nat.add_mul]
    have ih := tokBs_k hs hl r fun x hx => h x (List.mem_cons_of_mem _ hx)
    have hS : OkK (if r.isEmpty = true then [] else sep) 5 := by
      split
      · exact okK_nil
      · exact hs
    exact hl.app ((h b List.mem_cons_self).app (m := 2 * tb d + 1 + (5 + r.length * (2 * tb d + 12))) (hS.app (m := 5 + r.length * (2 * tb d + 12)) ih (Nat.le_refl _)) (Nat.le_refl _)) (by walk_at "om")
theorem tok_k : ∀ (d : Nat) (t : T), okT d t → OkK (tokT t) (tb d)
  | d, .plain k, h => by
    have hk : k < 3 := by cases d <;> exact h
    have : OkK (tokT (.plain k)) 12 := by
      rw [tokT]
      obtain rfl | rfl | rfl : k = 0 ∨ k = 1 ∨ k = 2 := by walk_at "om"
      · exact ⟨by decide, by decide⟩
      · exact ⟨by decide, by decide⟩
      · exact ⟨by decide, by decide⟩
    refine this.ge ?_
    cases d with
    | zero => exact Nat.le_refl _
    | succ d => unfold tb; omega
  | 0, .ifs _ _ _, h => h.elim
  | 0, .cas _ _ _, h => h.elim
  | 0, .loop _ _, h => h.elim
  | d + 1, .ifs bs e l, ⟨h1, h2, h3, h4⟩ => by
    have hl := tokB_k (d := d) h3 fun t ht => tok_k d t (h4 t ht)
    have hbs := tokBs_k (d := d) (sep := tk ["ELSIF", "d", "<", "3", "THEN"]) (lab := []) ⟨by decide, by decide⟩ okK_nil bs fun b hb => tokB_k (h2 b hb).1 fun t ht => tok_k d t ((h2 b hb).2 t ht)
    have hm : bs.length * (2 * tb d + 12) ≤ 2 * (2 * tb d + 12) := Nat.mul_le_mul_right _ h1.2
    have hE : OkK (if e = true then tk ["ELSE"] ++ tokB l else []) (1 + (2 * tb d + 1)) := by
      split
      · exact OkK.app (k := 1) ⟨by decide, by decide⟩ hl
      · exact okK_nil
    rw [tokT]
    unfold tb
    exact OkK.app (k := 4) ⟨by decide, by decide⟩ ((hbs.ge hm).app (m := 2 * (2 * tb d + 12) + (1 + (2 * tb d + 1) + 1)) (OkK.app (m := 1 + (2 * tb d + 1) + 1) hE (l := 1) ⟨by decide, by decide⟩))
  | d + 1, .cas bs e l, ⟨h1, h2, h3, h4⟩ => by
    have hl := tokB_k (d := d) h3 fun t ht => tok_k d t (h4 t ht)
    have hbs := tokBs_k (d := d) (sep := tk ["|"]) (lab := labK) ⟨by decide, by decide⟩ ⟨by decide, by decide⟩ bs fun b hb => tokB_k (h2 b hb).1 fun t ht => tok_k d t ((h2 b hb).2 t ht)
    have hm : bs.length * (2 * tb d + 12) ≤ 2 * (2 * tb d + 12) := Nat.mul_le_mul_right _ h1.2
    have hE : OkK (if e = true then tk ["ELSE"] ++ tokB l else []) (1 + (2 * tb d + 1)) := by
      split
      · exact OkK.app (k := 1) ⟨by decide, by decide⟩ hl
      · exact okK_nil
    rw [tokT]
    unfold tb
    exact OkK.app (k := 3) ⟨by decide, by decide⟩ ((hbs.ge hm).app (m := 2 * (2 * tb d + 12) + (1 + (2 * tb d + 1) + 1)) (OkK.app (m := 1 + (2 * tb d + 1) + 1) hE (l := 1) ⟨by decide, by decide⟩))
  | d + 1, .loop k b, ⟨h1, h3⟩ => by
    have hl := tokB_k (d := d) h3.1 fun t ht => tok_k d t (h3.2 t ht)
    have hk : OkK (lpK.getD k []) 9 := by
      obtain rfl | rfl | rfl : k = 0 ∨ k = 1 ∨ k = 2 := by walk_at "om"
      all_goals exact ⟨by decide, by decide⟩
    have hE : OkK (if k = 2 then tk ["UNTIL", "x", "=", "0"] else tk ["END"]) 4 := by split <;> exact ⟨by decide, by decide⟩
    rw [tokT]
    unfold tb
    exact hk.app (OkK.app (m := 2 * tb d + 1 + 4) hl hE)
noncomputable def srcL (b : List T) : List Nat := cd hdS ++ (joinedB b ++ cd tlS)
noncomputable def segL (b : List T) : List (List Nat) := segO (hdK ++ (tokB b ++ tlK))
noncomputable def dueL (b : List T) : List (List Nat) := dueH ++ (rowsT b 2 ++ dueT)
theorem lf_join : ∀ l : List (List Nat), l ≠ [] → (l.map fun x => x ++ [10]).flatten = joinL [10] l ++ [10]
  | [x], _ => by simp [joinL]
  | x :: y :: r, _ => by
    rw [List.map_cons, List.flatten_cons, lf_join (y :: r) (by simp), joinL_cons2]; simp
theorem sum_le {l : List Nat} {k : Nat} (h : ∀ x ∈ l, x ≤ k) : l.sum ≤ l.length * k := by
  induction l with
  | nil => simp
  | cons a r ih =>
    have := ih fun x hx => h x (List.mem_cons_of_mem _ hx)
    have := h a List.mem_cons_self
    rw [List.sum_cons, List.length_cons, Nat.add_mul]; omega
theorem law_text {b : List T} (hb : okB 3 b) : (segL b).flatten = srcL b ∧ (srcL b).length ≤ 30000 ∧ (segL b).length ≤ 20000 ∧ Segs (segL b) ∧ (∀ t ∈ segL b, TokOk t) ∧ rowsOut (runs (segL b)) = (dueL b).map (fun x => x ++ [10]) ∧
    ((dueL b).length ≤ 1000 ∧ ∀ x ∈ dueL b, x.length ≤ 300) ∧ outS (runs (segL b)) = joinL [10] (dueL b) ++ [10] := by
  have hk : OkK (hdK ++ (tokB b ++ tlK)) 9000 := by
    have h1 : OkK hdK 60 := ⟨by decide, by decide⟩
    have h2 : OkK tlK 10 := ⟨by decide, by decide⟩
    have h3 := tokB_k (d := 3) hb.1 fun t ht => tok_k 3 t (hb.2 t ht)
    have h4 : tb 3 = 4312 := by decide
    rw [h4] at h3
    exact h1.app (h3.app (m := 8700) h2 (by decide)) (by decide)
  have hrows : rowsOut (runs (segL b)) = (dueL b).map (fun x => x ++ [10]) := by
    unfold rowsOut runs segL dueL
    rw [segO_runs _ _ hk.1, feed_all hb]
  have hlen := joined_len (d := 3) hb.1.2 fun t ht => flat_len_le 3 t (hb.2 t ht)
  have hfb := fb_le (d := 3) (by decide)
  have hrb := rowsT_b (d := 3) (deep := 2) hb.1 fun t ht => laid_b 3 t 2 (hb.2 t ht) (by decide)
  have e1 : rb 3 = 474 := by decide
  have e2 : rl 3 = 280 := by decide
  rw [e1, e2] at hrb
  refine ⟨?_, ?_, ?_, segO_segs _ hk.1, segO_tok _ hk.1, hrows, ⟨?_, ?_⟩, ?_⟩
  · unfold segL srcL
    rw [segO_flat, txt_app _ _ (by decide) (by simp [tlK, tk]), txt_app _ _ (tokB_ne hb) (by decide), txt_tokB hb fun t ht => txt_flat 3 t (hb.2 t ht)]
    have e3 : cd hdS = txt hdK ++ [32] := by decide
    have e4 : cd tlS = [32] ++ txt tlK := by decide
    rw [e3, e4]; simp
  · unfold srcL
    have e3 : (cd hdS).length ≤ 200 := by decide
    have e4 : (cd tlS).length ≤ 200 := by decide
    simp only [List.length_append]; omega
  · have := segO_len (hdK ++ (tokB b ++ tlK))
    have := hk.2
    unfold segL; omega
  · unfold dueL
    have e3 : dueH.length = 9 := by decide
    have e4 : dueT.length = 5 := by decide
    have := hrb.1.2
    simp only [List.length_append]; omega
  · unfold dueL
    intro x hx
    have e5 : ∀ x ∈ dueH, x.length ≤ 300 := by decide
    have e6 : ∀ x ∈ dueT, x.length ≤ 300 := by decide
    rcases List.mem_append.mp hx with hx | hx
    · exact e5 x hx
    · rcases List.mem_append.mp hx with hx | hx
      · have := hrb.2 x hx; omega
      · exact e6 x hx
  · unfold outS
    rw [hrows]
    exact lf_join _ (by unfold dueL; simp [dueT, tk])
theorem law_sum {b : List T} (hb : okB 3 b) : ((rowsOut (runs (segL b))).map List.length).sum + (rowsOut (runs (segL b))).length * 64 ≤ 16777216 := by
  obtain ⟨_, _, _, _, _, h6, ⟨h7, h8⟩, _⟩ := law_text hb
  rw [h6]
  have := sum_le (l := (((dueL b).map fun x => x ++ [10]).map List.length)) (k := 301) (by
    intro x hx
    rw [List.map_map] at hx
    obtain ⟨y, hy, rfl⟩ := List.mem_map.mp hx
    have := h8 y hy
    simp; omega)
  rw [List.length_map, List.length_map] at this
  rw [List.length_map]
  have : (dueL b).length * 301 ≤ 1000 * 301 := Nat.mul_le_mul_right _ h7
  omega
end
end
section
section
variable {W : W0} {n : Nat} {H : List O} {Q : V → List O → Prop}
theorem c_law {ns : List Int} (hn : 30 ≤ n) (hl : ns.length ≤ 63) (h : ∀ H', Q (.bool true) H') : CallOk W n (.ref 428) [.lst (ns.map V.int)] H Q := by
  refine call_def' D_law (by walk_at "om") rfl (fun env ge hsc => ?_)
  refine oks_seq ?_
  walk_at "g1"
  refine c_stock (by walk_at "om") hl fun ws turn hws => ?_
  refine seq_next (oks_seq ?_)
  walk_at "g1"
  have hpool : PoolAt (fun _ => none) (H.length + 1) (H ++ [O.list (ws.map V.int)] ++ [O.list [.ref H.length, .int turn]]).length (H ++ [O.list (ws.map V.int)] ++ [O.list [.ref H.length, .int turn]] ++ [O.list [.int 9]]) := by
    refine ⟨H.length, ws, turn, 9, hws, ?_, ?_, ?_, ?_⟩
    · intro c hc
      simp only [List.mem_cons, List.not_mem_nil, or_false] at hc
      rcases hc with rfl | rfl | rfl
      · simp
      · simp
      · simp
    · simp
    · intro i o e; cases e
    · intro i o e; cases e
  refine c_block0 _ _ _ (by walk_at "om") hpool fun H1 b hp1 hb => ?_
  obtain ⟨t1, t2, t3, t4, t5, t6, ⟨t7, t7'⟩, t8⟩ := law_text hb
  have hsum := law_sum hb
  have hjl := joined_len (d := 3) hb.1.2 fun t ht => flat_len_le 3 t (hb.2 t ht)
  have hfb := fb_le (d := 3) (by decide)
  have hRB := rowsT_b (d := 3) (deep := 2) hb.1 fun t ht => laid_b 3 t 2 (hb.2 t ht) (by decide)
  have hrb := rb_le (d := 3) (by decide)
  refine seq_next (oks_seq ?_)
  walk_at "g1"
  refine seq_next (oks_seq (ok_aug rfl ?_ (kind_of (by assumption) (by kernel_rfl))))
  walk_at "g1"
  refine c_joined3 _ _ _ b (by walk_at "om") hb ?_
  walk_at "g1"
  have e1 : (cd tlS).length ≤ 100 := by decide
  have e2 : (cd hdS).length ≤ 200 := by decide
  refine op_add_str (by rw [sizeLine_eq]; show (joinedB b).length + (cd tlS).length ≤ _; omega) ?_
  refine op_iadd_str (by rw [sizeLine_eq, List.length_append]; show (cd hdS).length + ((joinedB b).length + (cd tlS).length) ≤ _; omega) ?_
  show Seq W (n - 1) env _ _ .next (upd _ "source" (.str (srcL b))) H1
  refine seq_next (oks_seq ?_)
  walk_at "g1"
  refine seq_next (oks_seq (ok_aug rfl ?_ (kind_of (by assumption) (by kernel_rfl))))
  walk_at "g1"
  refine c_rows3 _ _ _ b 2 (by walk_at "om") hb (by decide) fun H2 i hx2 hi hi2 => ?_
  walk_at "g1"
  refine op_add_list (Ext.app _ _ _ _ hi2) get_at (by have := hRB.1.2; rw [sizeLine_eq]; simp; omega) ?_
  refine op_iadd_list (Ext.app _ _ _ _ (Ext.app _ _ _ _ (hx2 _ _ get_at))) get_at (by have := hRB.1.2; simp; omega) ?_
  refine seq_next (oks_seq ?_)
  walk_at "g1"
  rw [← t1]
  have hlt1 : H1.length < H2.length := lt_of_get (hx2 _ _ get_at)
  generalize hG : List.set _ H1.length _ = H3
  have hdue : H3[H1.length]? = some (.list ((dueL b).map V.str)) := by
    rw [← hG, List.getElem?_set_self (by rw [List.length_append, List.length_append]; omega)]
    unfold dueL
    rw [List.map_append, List.map_append]; rfl
  have hlen : (joinL [10] (dueL b)).length + 1 = ((rowsOut (runs (segL b))).map List.length).sum := by
    rw [← List.length_flatten]
    show _ = (outS (runs (segL b))).length
    rw [t8]; simp
  refine c_formatted (by walk_at "om") (by rw [t1, sizeLine_eq]; omega) t3 t4 t5 hsum fun H4 hx4 => ?_
  walk_at "g1"
  refine ⟨_, rfl, ?_⟩
  walk_at "g1"
  refine ⟨dueL b, .inr ⟨_, rfl, hx4 _ _ hdue⟩, by decide, ?_, ?_⟩
  · have := sum_le (l := (dueL b).map List.length) (k := 300) (by
      intro x hx
      obtain ⟨y, hy, rfl⟩ := List.mem_map.mp hx
      exact t7' y hy)
    rw [List.length_map] at this
    have : (dueL b).length * 300 ≤ 1000 * 300 := Nat.mul_le_mul_right _ t7
    omega
  have e3 : cd "\n" = [10] := by decide
  rw [e3]
  walk_at "g1"
  refine op_add_str (by rw [e3, sizeLine_eq]; simp only [List.length_cons, List.length_nil]; omega) ?_
  walk_at "go"
  rw [t8, e3, beq_self_eq_true]
  exact h _
end
end
section
section
theorem vrs_intsAre {G : Gh} {μ : List Loc} : ∀ {vs : List Value} {ns : List Int}, IntsAre vs ns → VRs G μ (ns.map V.int) vs
  | _, _, .nil => by simp [VRs]
  | _, _, .cons n t r => by
    rw [List.map_cons]
    simp only [VRs]
    exact ⟨_, _, rfl, by simp [VR], vrs_intsAre r⟩
theorem end_law {w : World} {s : Shared} {mg mb : Str → Option Value} (X : (K0 w.params).In s.heap) (T : TopRead QV (looseW QV []) mg mb s.heap) {ns : List Int} {vs : List Value} {a : Addr} (ha : s.heap.get? a = some { cls := .type "list", data := .seq vs.toArray }) (hI : IntsAre vs ns) (hl : ns.length ≤ 63) :
    codeAny (model PW w) callerA (.call (.ref 428) ⟨[.ref a], []⟩) (fun r s' => r = .ok (.ret (.bool true)) ∧ (∀ b o, s.heap.get? b = some o → s'.heap.get? b = some o) ∧ s'.os = s.os ∧ s'.gens = s.gens) s := by
  let W : W0 := ⟨w, s.heap, mg, mb, X, T, s.gens, s.drawn, s.os⟩
  have hc : CallOk W 30 (.ref 428) [.lst (ns.map V.int)] [] fun v _ => v = .bool true := c_law (Nat.le_refl _) hl fun _ => rfl
  refine codeAny_mono (hc callerA (fun b => (s.heap.get? b).map fun o => (true, o)) [] s [.ref a] ⟨by decide +kernel, by decide +kernel, rfl⟩ ⟨rfl, rfl, rfl⟩ ?_ ?_) ?_
  · refine ⟨fun b o e => ⟨true, by rw [show s.heap.get? b = some o from e]; rfl⟩, fun b t o e => ?_, rfl, fun i o l e => by simp at e, fun b hb => by simp at hb, by simp⟩
    cases h : s.heap.get? b with
    | none => rw [h] at e; cases e
    | some o' => rw [h] at e; cases e; rfl
  · simp only [VRs, VR]
    exact ⟨.ref a, [], rfl, ⟨a, vs, 0, rfl, by rw [ha]; rfl, vrs_intsAre hI⟩, rfl⟩
  · rintro r s' ⟨c, v, G', μ', H', rfl, _, _, sg, hp, hv, rfl⟩
    simp only [VR] at hv
    subst hv
    exact ⟨rfl, fun b o e => hp.stays b o e, sg.os, sg.gens⟩
theorem list_obj {P : Params} {h : Heap} {a : Addr} {ns : List Int} {vs : List Value} (w1 : Well P h (.ref a) (ofPy (PyData.list (ns.map PyData.int)))) (hL : h.IsList a vs.toArray) : h.get? a = some { cls := .type "list", data := .seq vs.toArray } := by
  unfold ofPy at w1
  cases w1 with
  | list e r =>
    obtain ⟨o, e0, e1, n, e2⟩ := hL
    rw [e] at e0
    cases e0
    injection e2 with e2 e3
    rw [e, e2]
theorem fin_law {w : World} {s₀ s₁ : Shared} {mg mb : Str → Option Value} (G : Ground QV [] PySem.Challenge.rw_pb0365_01.row.records (XL QV []) w s₀ mg mb s₁.heap) (Y : HK.says w s₁.heap) (hg : s₁.gens = #[]) {fa a : Addr} (hmg : mg (Str.ofString "law") = some (.ref fa))
    {ns : List Int} {vs : List Value} (w1 : Well w.params s₁.heap (.ref a) (ofPy (PyData.list (ns.map PyData.int)))) (hL : s₁.heap.IsList a vs.toArray) (hI : IntsAre vs ns) (hl : ¬ (63 : Int) < (ns.length : Int)) :
    wpAny (model PySem.Challenge.rw_pb0365_01.row.prog w) callerA (PySem.call (.ref fa) [.ref a])
      (fun v s' => GoodWG PySem.Challenge.rw_pb0365_01.row.claim (classAt s₀.heap) (ExcName.means s₀.heap) [ofPy (PyData.list (ns.map PyData.int))] s₁ (.ok (.ret v)) s')
      (fun e s' => GoodWG PySem.Challenge.rw_pb0365_01.row.claim (classAt s₀.heap) (ExcName.means s₀.heap) [ofPy (PyData.list (ns.map PyData.int))] s₁ (.error e) s') s₁ := by
  have KX := kIn_of Y
  have hfa : mg (Str.ofString "law") = some (.ref 428) := mg_of KX G.T.g (by kernel_rfl)
  have hfa2 : fa = 428 := by
    have e := hmg.symm.trans hfa
    injection e with e; injection e
  rw [hfa2]
  refine enter_call (codeAny_mono (end_law KX (topRead_of G.T) (list_obj w1 hL) hI (by walk_at "om")) ?_)
  rintro r s' ⟨rfl, hk, hos, hgn⟩
  refine GoodW.toG ⟨.inl ⟨_, _, [], rfl, ?_, ReadsW.bool true, ?_, fun _ => ⟨List.nodup_nil, fun _ hm => (nomatch hm)⟩⟩, hk, hos, hgn.trans hg⟩
  · exact fun _ => rfl
  · wrow_post
end
end
theorem said0 : PySem.Challenge.rw_pb0365_01.wellSaid = true := by decide +kernel
end Mine
set_option maxRecDepth 100000 in
set_option maxHeartbeats 8000000 in
theorem PySem.Challenge.cw_pb0365_01_holds : PySem.Challenge.rw_pb0365_01.Holds := by
  w_on
  refine holds_law Mine.said0 fun said => ?_
  refine holds_open (q := Mine.QV) (loose := []) (Xt := Mine.XT) (XP := XL Mine.QV []) (Yf := Mine.HK.obs) (Ya := Mine.HK.val) (YP := Mine.HK.says) (N := 5430) Mine.left (Mine.HK.of) (Mine.HK.keeps) (fun s e => xl_of s (Bool.and_eq_true_iff.mp e).1) XL.keeps (by rfl) (by rfl) (by rfl) (fun s e => recFacts_of (Bool.and_eq_true_iff.mp e).2) (by rfl) (by assumption) (by decide +kernel) ⟨rfl, rfl, rfl, rfl, rfl, by decide +kernel⟩ ?hw ?hc
  case hw => w_witness2
  case hc =>
    intro w s₀ s₁ mg mb G Y fa o pm cd doc dV kV ho hd hcd hD hmg hg args vals as hpre hlay hrd hwl hlo
    wrow_args hpre hlay hrd hwl hlo
    clear ho hd hcd hD
    rename_i ns hs h0 h1 h2 h3 bs cs a vs es hL ra w1 r0 hI hr hlen htriv
    exact Mine.fin_law G Y hg hmg w1 hL hI hlen
