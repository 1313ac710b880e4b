import PyProof.Rows.All
import Wide.All
import OpenK.AllK
import Wide.FinOn
import PySem.Challenge.RW_xm0629_01
set_option Elab.async false
set_option maxRecDepth 100000
set_option maxHeartbeats 8000000
set_option linter.unusedVariables false
section
open PySem PySem.W PyProof.Rows
namespace Mine

/-! ## The head: the whole top in one check over a tree of objects -/

/-- the top's run, by any one-step function over the tree -/
noncomputable def goT (st : SharedT → Thread → Option (SharedT × Thread)) (ok : Thread → Bool) : Nat → SharedT → Thread → Option SharedT
  | 0, _, _ => none
  | n + 1, s, t => match through t with
    | true => some s
    | false => match ok t with
      | false => none
      | true => match st s t with
        | some (s', t') => goT st ok n s' t'
        | none => none

theorem goT_spec {tb : String → Option Builtin} {p : Program} {w : World} {n₀ : Nat} {ann : Option Value} : ∀ {n : Nat} {s s' : SharedT} {t : Thread},
    goT (stepT (denote tb) p w) (stepOk n₀ ann) n s t = some s' → topRun tb p w n₀ ann n s.abs t = some s'.abs
  | 0, _, _, _, h => by cases h
  | n + 1, s, s', t, h => by
    unfold goT at h
    unfold topRun
    cases ht : through t with
    | true => rw [ht] at h; cases h; rfl
    | false =>
      rw [ht] at h
      cases hk : stepOk n₀ ann t with
      | false => rw [hk] at h; cases h
      | true =>
        rw [hk] at h
        cases hs : stepT (denote tb) p w s t with
        | none => rw [hs] at h; cases h
        | some r => obtain ⟨s₂, t₂⟩ := r; rw [hs] at h; rw [stepT_spec hs]; exact goT_spec h

noncomputable def tree0 (P : Params) : BT :=
  .node (boot_o_0 P)
    (.node (boot_o_1 P) (.node (boot_o_3 P) (.node (boot_o_7 P) .nil .nil) .nil) (.node (boot_o_5 P) (.node (boot_o_9 P) .nil .nil) .nil))
    (.node (boot_o_2 P) (.node (boot_o_4 P) (.node (boot_o_8 P) .nil .nil) .nil) (.node (boot_o_6 P) (.node (boot_o_10 P) .nil .nil) .nil))
theorem tree0_boot (P : Params) : absHeap (tree0 P) 11 {} = boot_heap P := by rfl
noncomputable def start0 (w : World) (os : OsState) : SharedT := ⟨tree0 w.params, 11, {}, #[], boot_drawn, boot_toks, os⟩

/-- the text's defs, found by their places -/
noncomputable def fst (p : Program) (i : Nat) (j : Option Nat) : Option Stmt := match j with
  | none => p.main.body[i]?
  | some j => match p.main.body[i]? with
    | some (.ClassDef _ _ _ body _ _ _ _ _ _ _) => body[j]?
    | _ => none
noncomputable def fargs : Option Stmt → Arguments
  | some (.FunctionDef _ a _ _ _ _ _ _ _ _) => a
  | _ => ⟨[], [], none, [], [], none, []⟩
noncomputable def fbody : Option Stmt → List Stmt
  | some (.FunctionDef _ _ b _ _ _ _ _ _ _) => b
  | _ => []
noncomputable def fscope : Option Stmt → Scope
  | some (.FunctionDef _ _ _ _ _ _ s _ _ _) => s
  | _ => default
noncomputable abbrev fnO (d : Option Stmt) (name qual : Str) (dV pm cd : Value) : Obj :=
  ⟨.type "function", none, .func (fnOf name qual (fargs d) (fbody d) (fscope d) dV .none .none pm none cd .none), #[]⟩
noncomputable abbrev en (P : Params) (x : Str) (t : Tok) (v : Value) : DictEntry := ⟨PyData.keyHash P x, .str x t, v⟩

/-- what the call meets of the top's objects -/
noncomputable def Kf (p : Program) (P : Params) : Frag := [
  (110, fnO (fst p 8 none) "is_blank" "is_blank" (.none) (.str "lua.values" 194) (.ref 109)),
  (109, ⟨.type "code", none, .fields #[.str "is_blank" 332, .str "is_blank" 333, .str "/claim/cut.py" 334, .int 40 0, .int 1 0, .int 0 0, .int 0 0, .int 3 0, .ref 104, .bool true, .int 181 0, .ref 105, .none, .ref 106, .ref 107, .ref 108, .int 336 0, .int 40 0, .str "/claim/cut.py" 337], #[]⟩),
  (117, fnO (fst p 10 none) "digit_of" "digit_of" (.none) (.str "lua.values" 194) (.ref 116)),
  (116, ⟨.type "code", none, .fields #[.str "digit_of" 340, .str "digit_of" 341, .str "/claim/cut.py" 342, .int 43 0, .int 1 0, .int 0 0, .int 0 0, .int 3 0, .ref 111, .bool true, .int 181 0, .ref 112, .none, .ref 113, .ref 114, .ref 115, .int 344 0, .int 43 0, .str "/claim/cut.py" 345], #[]⟩),
  (124, fnO (fst p 11 none) "read_digits" "read_digits" (.none) (.str "lua.values" 194) (.ref 123)),
  (123, ⟨.type "code", none, .fields #[.str "read_digits" 347, .str "read_digits" 348, .str "/claim/cut.py" 349, .int 51 0, .int 4 0, .int 0 0, .int 0 0, .int 3 0, .ref 118, .bool true, .int 181 0, .ref 119, .none, .ref 120, .ref 121, .ref 122, .int 357 0, .int 51 0, .str "/claim/cut.py" 358], #[]⟩),
  (131, fnO (fst p 12 none) "skip_blanks" "skip_blanks" (.none) (.str "lua.values" 194) (.ref 130)),
  (130, ⟨.type "code", none, .fields #[.str "skip_blanks" 360, .str "skip_blanks" 361, .str "/claim/cut.py" 362, .int 60 0, .int 2 0, .int 0 0, .int 0 0, .int 3 0, .ref 125, .bool true, .int 181 0, .ref 126, .none, .ref 127, .ref 128, .ref 129, .int 365 0, .int 60 0, .str "/claim/cut.py" 366], #[]⟩),
  (138, fnO (fst p 13 none) "str_to_number" "str_to_number" (.none) (.str "lua.values" 194) (.ref 137)),
  (137, ⟨.type "code", none, .fields #[.str "str_to_number" 368, .str "str_to_number" 369, .str "/claim/cut.py" 370, .int 64 0, .int 2 0, .int 0 0, .int 0 0, .int 3 0, .ref 132, .bool true, .int 181 0, .ref 133, .none, .ref 134, .ref 135, .ref 136, .int 373 0, .int 64 0, .str "/claim/cut.py" 374], #[]⟩),
  (145, fnO (fst p 14 none) "text_in_base" "text_in_base" (.none) (.str "lua.values" 194) (.ref 144)),
  (144, ⟨.type "code", none, .fields #[.str "text_in_base" 376, .str "text_in_base" 377, .str "/claim/cut.py" 378, .int 66 0, .int 3 0, .int 0 0, .int 0 0, .int 3 0, .ref 139, .bool true, .int 181 0, .ref 140, .none, .ref 141, .ref 142, .ref 143, .int 387 0, .int 66 0, .str "/claim/cut.py" 388], #[]⟩),
  (103, fnO (fst p 7 none) "wrap" "wrap" (.none) (.str "lua.values" 194) (.ref 102)),
  (102, ⟨.type "code", none, .fields #[.str "wrap" 323, .str "wrap" 324, .str "/claim/cut.py" 325, .int 35 0, .int 2 0, .int 0 0, .int 0 0, .int 3 0, .ref 97, .bool true, .int 181 0, .ref 98, .none, .ref 99, .ref 100, .ref 101, .int 329 0, .int 35 0, .str "/claim/cut.py" 330], #[]⟩),
  (166, fnO (fst p 17 none) "to_text" "to_text" (.none) (.str "lua.values" 194) (.ref 165)),
  (165, ⟨.type "code", none, .fields #[.str "to_text" 407, .str "to_text" 408, .str "/claim/cut.py" 409, .int 94 0, .int 1 0, .int 0 0, .int 0 0, .int 3 0, .ref 160, .bool true, .int 181 0, .ref 161, .none, .ref 162, .ref 163, .ref 164, .int 411 0, .int 94 0, .str "/claim/cut.py" 412], #[]⟩),
  (173, fnO (fst p 18 none) "c_text" "c_text" (.none) (.str "lua.values" 194) (.ref 172)),
  (172, ⟨.type "code", none, .fields #[.str "c_text" 414, .str "c_text" 415, .str "/claim/cut.py" 416, .int 100 0, .int 1 0, .int 0 0, .int 0 0, .int 3 0, .ref 167, .bool true, .int 181 0, .ref 168, .none, .ref 169, .ref 170, .ref 171, .int 419 0, .int 100 0, .str "/claim/cut.py" 420], #[]⟩),
  (187, fnO (fst p 20 none) "chunk_id" "chunk_id" (.none) (.str "lua.values" 194) (.ref 186)),
  (186, ⟨.type "code", none, .fields #[.str "chunk_id" 430, .str "chunk_id" 431, .str "/claim/cut.py" 432, .int 110 0, .int 2 0, .int 0 0, .int 0 0, .int 3 0, .ref 181, .bool true, .int 181 0, .ref 182, .none, .ref 183, .ref 184, .ref 185, .int 438 0, .int 110 0, .str "/claim/cut.py" 439], #[]⟩),
  (194, fnO (fst p 21 none) "quote" "quote" (.none) (.str "lua.values" 194) (.ref 193)),
  (193, ⟨.type "code", none, .fields #[.str "quote" 441, .str "quote" 442, .str "/claim/cut.py" 443, .int 123 0, .int 1 0, .int 0 0, .int 0 0, .int 3 0, .ref 188, .bool true, .int 181 0, .ref 189, .none, .ref 190, .ref 191, .ref 192, .int 447 0, .int 123 0, .str "/claim/cut.py" 448], #[]⟩),
  (201, fnO (fst p 34 none) "is_digit" "is_digit" (.none) (.str "lua.formats" 450) (.ref 200)),
  (200, ⟨.type "code", none, .fields #[.str "is_digit" 474, .str "is_digit" 475, .str "/claim/cut.py" 476, .int 148 0, .int 1 0, .int 0 0, .int 0 0, .int 3 0, .ref 195, .bool true, .int 181 0, .ref 196, .none, .ref 197, .ref 198, .ref 199, .int 478 0, .int 148 0, .str "/claim/cut.py" 479], #[]⟩),
  (299, fnO (fst p 39 none) "number_at" "number_at" (.none) (.str "lua.formats" 450) (.ref 298)),
  (298, ⟨.type "code", none, .fields #[.str "number_at" 608, .str "number_at" 609, .str "/claim/cut.py" 610, .int 220 0, .int 2 0, .int 0 0, .int 0 0, .int 3 0, .ref 293, .bool true, .int 181 0, .ref 294, .none, .ref 295, .ref 296, .ref 297, .int 615 0, .int 220 0, .str "/claim/cut.py" 616], #[]⟩),
  (306, fnO (fst p 40 none) "read_directive" "read_directive" (.none) (.str "lua.formats" 450) (.ref 305)),
  (305, ⟨.type "code", none, .fields #[.str "read_directive" 618, .str "read_directive" 619, .str "/claim/cut.py" 620, .int 227 0, .int 2 0, .int 0 0, .int 0 0, .int 3 0, .ref 300, .bool true, .int 181 0, .ref 301, .none, .ref 302, .ref 303, .ref 304, .int 628 0, .int 227 0, .str "/claim/cut.py" 629], #[]⟩),
  (362, fnO (fst p 42 none) "item" "item" (.none) (.str "lua.formats" 450) (.ref 361)),
  (361, ⟨.type "code", none, .fields #[.str "item" 696, .str "item" 697, .str "/claim/cut.py" 698, .int 265 0, .int 3 0, .int 0 0, .int 0 0, .int 3 0, .ref 356, .bool true, .int 181 0, .ref 357, .none, .ref 358, .ref 359, .ref 360, .int 703 0, .int 265 0, .str "/claim/cut.py" 704], #[]⟩),
  (369, fnO (fst p 43 none) "format_all" "format_all" (.none) (.str "lua.formats" 450) (.ref 368)),
  (368, ⟨.type "code", none, .fields #[.str "format_all" 706, .str "format_all" 707, .str "/claim/cut.py" 708, .int 278 0, .int 2 0, .int 0 0, .int 0 0, .int 3 0, .ref 363, .bool true, .int 181 0, .ref 364, .none, .ref 365, .ref 366, .ref 367, .int 717 0, .int 278 0, .str "/claim/cut.py" 718], #[]⟩),
  (376, fnO (fst p 44 none) "format_values" "format_values" (.none) (.str "lua.formats" 450) (.ref 375)),
  (375, ⟨.type "code", none, .fields #[.str "format_values" 720, .str "format_values" 721, .str "/claim/cut.py" 722, .int 297 0, .int 3 0, .int 0 0, .int 0 0, .int 3 0, .ref 370, .bool true, .int 181 0, .ref 371, .none, .ref 372, .ref 373, .ref 374, .int 726 0, .int 297 0, .str "/claim/cut.py" 727], #[]⟩),
  (385, fnO (fst p 77 none) "is_digit" "is_digit" (.none) (.str "lua.lexer" 729) (.ref 384)),
  (384, ⟨.type "code", none, .fields #[.str "is_digit" 823, .str "is_digit" 824, .str "/claim/cut.py" 825, .int 331 0, .int 1 0, .int 0 0, .int 0 0, .int 3 0, .ref 379, .bool true, .int 181 0, .ref 380, .none, .ref 381, .ref 382, .ref 383, .int 827 0, .int 331 0, .str "/claim/cut.py" 828], #[]⟩),
  (392, fnO (fst p 79 none) "is_letter" "is_letter" (.none) (.str "lua.lexer" 729) (.ref 391)),
  (391, ⟨.type "code", none, .fields #[.str "is_letter" 831, .str "is_letter" 832, .str "/claim/cut.py" 833, .int 334 0, .int 1 0, .int 0 0, .int 0 0, .int 3 0, .ref 386, .bool true, .int 181 0, .ref 387, .none, .ref 388, .ref 389, .ref 390, .int 835 0, .int 334 0, .str "/claim/cut.py" 836], #[]⟩),
  (399, fnO (fst p 80 none) "is_name_sign" "is_name_sign" (.none) (.str "lua.lexer" 729) (.ref 398)),
  (398, ⟨.type "code", none, .fields #[.str "is_name_sign" 838, .str "is_name_sign" 839, .str "/claim/cut.py" 840, .int 336 0, .int 1 0, .int 0 0, .int 0 0, .int 3 0, .ref 393, .bool true, .int 181 0, .ref 394, .none, .ref 395, .ref 396, .ref 397, .int 842 0, .int 336 0, .str "/claim/cut.py" 843], #[]⟩),
  (406, fnO (fst p 81 none) "is_blank" "is_blank" (.none) (.str "lua.lexer" 729) (.ref 405)),
  (405, ⟨.type "code", none, .fields #[.str "is_blank" 845, .str "is_blank" 846, .str "/claim/cut.py" 847, .int 338 0, .int 1 0, .int 0 0, .int 0 0, .int 3 0, .ref 400, .bool true, .int 181 0, .ref 401, .none, .ref 402, .ref 403, .ref 404, .int 849 0, .int 338 0, .str "/claim/cut.py" 850], #[]⟩),
  (420, fnO (fst p 84 none) "is_newline" "is_newline" (.none) (.str "lua.lexer" 729) (.ref 419)),
  (419, ⟨.type "code", none, .fields #[.str "is_newline" 860, .str "is_newline" 861, .str "/claim/cut.py" 862, .int 343 0, .int 1 0, .int 0 0, .int 0 0, .int 3 0, .ref 414, .bool true, .int 181 0, .ref 415, .none, .ref 416, .ref 417, .ref 418, .int 864 0, .int 343 0, .str "/claim/cut.py" 865], #[]⟩),
  (427, fnO (fst p 85 none) "escaped_sign" "escaped_sign" (.none) (.str "lua.lexer" 729) (.ref 426)),
  (426, ⟨.type "code", none, .fields #[.str "escaped_sign" 867, .str "escaped_sign" 868, .str "/claim/cut.py" 869, .int 345 0, .int 1 0, .int 0 0, .int 0 0, .int 3 0, .ref 421, .bool true, .int 181 0, .ref 422, .none, .ref 423, .ref 424, .ref 425, .int 872 0, .int 345 0, .str "/claim/cut.py" 873], #[]⟩),
  (434, fnO (fst p 86 none) "reserved_kinds" "reserved_kinds" (.none) (.str "lua.lexer" 729) (.ref 433)),
  (433, ⟨.type "code", none, .fields #[.str "reserved_kinds" 875, .str "reserved_kinds" 876, .str "/claim/cut.py" 877, .int 348 0, .int 0 0, .int 0 0, .int 0 0, .int 3 0, .ref 428, .bool true, .int 181 0, .ref 429, .none, .ref 430, .ref 431, .ref 432, .int 881 0, .int 348 0, .str "/claim/cut.py" 882], #[]⟩),
  (672, fnO (fst p 90 none) "all_tokens" "all_tokens" (.none) (.str "lua.lexer" 729) (.ref 671)),
  (671, ⟨.type "code", none, .fields #[.str "all_tokens" 1172, .str "all_tokens" 1173, .str "/claim/cut.py" 1174, .int 616 0, .int 3 0, .int 0 0, .int 0 0, .int 3 0, .ref 666, .bool true, .int 181 0, .ref 667, .none, .ref 668, .ref 669, .ref 670, .int 1181 0, .int 616 0, .str "/claim/cut.py" 1182], #[]⟩),
  (679, fnO (fst p 92 none) "_law_taken" "_law_taken" (.none) (.str "law_xm0629_01" 1184) (.ref 678)),
  (678, ⟨.type "code", none, .fields #[.str "_law_taken" 1186, .str "_law_taken" 1187, .str "/claim/cut.py" 1188, .int 624 0, .int 2 0, .int 0 0, .int 0 0, .int 3 0, .ref 673, .bool true, .int 181 0, .ref 674, .none, .ref 675, .ref 676, .ref 677, .int 1192 0, .int 624 0, .str "/claim/cut.py" 1193], #[]⟩),
  (686, fnO (fst p 93 none) "_law_part" "_law_part" (.none) (.str "law_xm0629_01" 1184) (.ref 685)),
  (685, ⟨.type "code", none, .fields #[.str "_law_part" 1195, .str "_law_part" 1196, .str "/claim/cut.py" 1197, .int 630 0, .int 1 0, .int 0 0, .int 0 0, .int 3 0, .ref 680, .bool true, .int 181 0, .ref 681, .none, .ref 682, .ref 683, .ref 684, .int 1204 0, .int 630 0, .str "/claim/cut.py" 1205], #[]⟩),
  (691, fnO (fst p 94 none) "_law_formats_in" "_law_formats_in" (.none) (.str "law_xm0629_01" 1184) (.ref 690)),
  (690, ⟨.type "code", none, .fields #[.str "_law_formats_in" 1207, .str "_law_formats_in" 1208, .str "/claim/cut.py" 1209, .int 643 0, .int 2 0, .int 0 0, .int 0 0, .int 3 0, .ref 687, .bool true, .int 181 0, .ref 688, .none, .none, .none, .ref 689, .int 1210 0, .int 643 0, .str "/claim/cut.py" 1211], #[]⟩),
  (696, fnO (fst p 95 none) "law" "law" (.none) (.str "law_xm0629_01" 1184) (.ref 695)),
  (695, ⟨.type "code", none, .fields #[.str "law" 1213, .str "law" 1214, .str "/claim/cut.py" 1215, .int 645 0, .int 1 0, .int 0 0, .int 0 0, .int 3 0, .ref 692, .bool true, .int 181 0, .ref 693, .none, .none, .none, .ref 694, .int 1216 0, .int 645 0, .str "/claim/cut.py" 1217], #[]⟩),
  (96, fnO (fst p 6 none) "is_number" "is_number" (.none) (.str "lua.values" 194) (.ref 95)),
  (95, ⟨.type "code", none, .fields #[.str "is_number" 316, .str "is_number" 317, .str "/claim/cut.py" 318, .int 33 0, .int 1 0, .int 0 0, .int 0 0, .int 3 0, .ref 90, .bool true, .int 181 0, .ref 91, .none, .ref 92, .ref 93, .ref 94, .int 320 0, .int 33 0, .str "/claim/cut.py" 321], #[]⟩),
  (53, ⟨.type "type", none, .cls ⟨"Limits", [.type "object"], [.ref 53, .type "object"], 52, "Limits", true, [], [], false, none, false⟩, #[none, none, some (.str "Limits" 198), some (.str "Limits" 206), some (.builtin "object.__new__"), some (.bool true)]⟩),
  (52, ⟨.type "dict", none, .dict #[en P "__module__" 205 (.str "lua.values" 194), en P "__firstlineno__" 209 (.int 6 208), en P "__init__" 236 (.ref 36), en P "greatest" 243 (.ref 43), en P "least" 250 (.ref 50), en P "__static_attributes__" 261 (.ref 51), en P "__dict__" 263 (.ref 54), en P "__weakref__" 265 (.ref 55), en P "__doc__" 266 (.none)] 4, #[]⟩),
  (36, fnO (fst p 3 (some 0)) "__init__" "Limits.__init__" (.ref 29) (.str "lua.values" 194) (.ref 35)),
  (35, ⟨.type "code", none, .fields #[.str "__init__" 220, .str "Limits.__init__" 221, .str "/claim/cut.py" 222, .int 8 0, .int 11 0, .int 0 0, .int 0 0, .int 3 0, .ref 30, .bool true, .int 181 0, .ref 31, .none, .ref 32, .ref 33, .ref 34, .int 234 0, .int 8 0, .str "/claim/cut.py" 235], #[]⟩),
  (29, ⟨.type "tuple", none, .seq #[.int 64 210, .int 250 211, .int 60 212, .int 200 213, .int 40 214, .int 200 215, .int 2000 216, .int 50 217, .int 1000000000 218, .int 1000000 219] 0, #[]⟩),
  (288, ⟨.type "type", none, .cls ⟨"Directive", [.type "object"], [.ref 288, .type "object"], 287, "Directive", true, [], [], false, none, false⟩, #[none, none, some (.str "Directive" 501), some (.str "Directive" 509), some (.builtin "object.__new__"), some (.bool true)]⟩),
  (287, ⟨.type "dict", none, .dict #[en P "__module__" 508 (.str "lua.formats" 450), en P "__firstlineno__" 512 (.int 162 511), en P "__init__" 523 (.ref 229), en P "has" 531 (.ref 236), en P "padded" 540 (.ref 243), en P "filled" 549 (.ref 250), en P "with_least" 558 (.ref 257), en P "signed" 567 (.ref 264), en P "unsigned" 578 (.ref 271), en P "octet" 586 (.ref 278), en P "words" 595 (.ref 285), en P "__static_attributes__" 600 (.ref 286), en P "__dict__" 602 (.ref 289), en P "__weakref__" 604 (.ref 290), en P "__doc__" 605 (.none)] 4, #[]⟩),
  (229, fnO (fst p 38 (some 0)) "__init__" "Directive.__init__" (.none) (.str "lua.formats" 450) (.ref 228)),
  (228, ⟨.type "code", none, .fields #[.str "__init__" 513, .str "Directive.__init__" 514, .str "/claim/cut.py" 515, .int 164 0, .int 5 0, .int 0 0, .int 0 0, .int 3 0, .ref 223, .bool true, .int 181 0, .ref 224, .none, .ref 225, .ref 226, .ref 227, .int 521 0, .int 164 0, .str "/claim/cut.py" 522], #[]⟩),
  (351, ⟨.type "type", none, .cls ⟨"PlainArguments", [.type "object"], [.ref 351, .type "object"], 350, "PlainArguments", true, [], [], false, none, false⟩, #[none, none, some (.str "PlainArguments" 631), some (.str "PlainArguments" 639), some (.builtin "object.__new__"), some (.bool true)]⟩),
  (350, ⟨.type "dict", none, .dict #[en P "__module__" 638 (.str "lua.formats" 450), en P "__firstlineno__" 642 (.int 242 641), en P "__init__" 651 (.ref 320), en P "value" 659 (.ref 327), en P "integer" 668 (.ref 334), en P "text" 677 (.ref 341), en P "refuse" 685 (.ref 348), en P "__static_attributes__" 688 (.ref 349), en P "__dict__" 690 (.ref 352), en P "__weakref__" 692 (.ref 353), en P "__doc__" 693 (.none)] 4, #[]⟩),
  (320, fnO (fst p 41 (some 0)) "__init__" "PlainArguments.__init__" (.none) (.str "lua.formats" 450) (.ref 319)),
  (319, ⟨.type "code", none, .fields #[.str "__init__" 643, .str "PlainArguments.__init__" 644, .str "/claim/cut.py" 645, .int 244 0, .int 3 0, .int 0 0, .int 0 0, .int 3 0, .ref 314, .bool true, .int 181 0, .ref 315, .none, .ref 316, .ref 317, .ref 318, .int 649 0, .int 244 0, .str "/claim/cut.py" 650], #[]⟩),
  (327, fnO (fst p 41 (some 1)) "value" "PlainArguments.value" (.none) (.str "lua.formats" 450) (.ref 326)),
  (326, ⟨.type "code", none, .fields #[.str "value" 652, .str "PlainArguments.value" 653, .str "/claim/cut.py" 654, .int 248 0, .int 2 0, .int 0 0, .int 0 0, .int 3 0, .ref 321, .bool true, .int 181 0, .ref 322, .none, .ref 323, .ref 324, .ref 325, .int 657 0, .int 248 0, .str "/claim/cut.py" 658], #[]⟩),
  (341, fnO (fst p 41 (some 3)) "text" "PlainArguments.text" (.none) (.str "lua.formats" 450) (.ref 340)),
  (340, ⟨.type "code", none, .fields #[.str "text" 669, .str "PlainArguments.text" 670, .str "/claim/cut.py" 671, .int 257 0, .int 2 0, .int 0 0, .int 0 0, .int 3 0, .ref 335, .bool true, .int 181 0, .ref 336, .none, .ref 337, .ref 338, .ref 339, .int 675 0, .int 257 0, .str "/claim/cut.py" 676], #[]⟩),
  (458, ⟨.type "type", none, .cls ⟨"Token", [.type "object"], [.ref 458, .type "object"], 457, "Token", true, [], [], false, none, false⟩, #[none, none, some (.str "Token" 892), some (.str "Token" 900), some (.builtin "object.__new__"), some (.bool true)]⟩),
  (457, ⟨.type "dict", none, .dict #[en P "__module__" 899 (.str "lua.lexer" 729), en P "__firstlineno__" 903 (.int 360 902), en P "__init__" 912 (.ref 455), en P "__static_attributes__" 915 (.ref 456), en P "__dict__" 917 (.ref 459), en P "__weakref__" 919 (.ref 460), en P "__doc__" 920 (.none)] 4, #[]⟩),
  (455, fnO (fst p 88 (some 0)) "__init__" "Token.__init__" (.none) (.str "lua.lexer" 729) (.ref 454)),
  (454, ⟨.type "code", none, .fields #[.str "__init__" 904, .str "Token.__init__" 905, .str "/claim/cut.py" 906, .int 362 0, .int 3 0, .int 0 0, .int 0 0, .int 3 0, .ref 449, .bool true, .int 181 0, .ref 450, .none, .ref 451, .ref 452, .ref 453, .int 910 0, .int 362 0, .str "/claim/cut.py" 911], #[]⟩),
  (661, ⟨.type "type", none, .cls ⟨"Lexer", [.type "object"], [.ref 661, .type "object"], 660, "Lexer", true, [], [], false, none, false⟩, #[none, none, some (.str "Lexer" 923), some (.str "Lexer" 931), some (.builtin "object.__new__"), some (.bool true)]⟩),
  (660, ⟨.type "dict", none, .dict #[en P "__module__" 930 (.str "lua.lexer" 729), en P "__firstlineno__" 934 (.int 365 933), en P "__init__" 944 (.ref 476), en P "next" 951 (.ref 483), en P "lookahead" 958 (.ref 490), en P "error" 968 (.ref 497), en P "syntax_error" 976 (.ref 504), en P "near_text" 984 (.ref 511), en P "move" 991 (.ref 518), en P "keep" 999 (.ref 525), en P "keep_and_move" 1006 (.ref 532), en P "keep_if" 1014 (.ref 539), en P "clear" 1021 (.ref 546), en P "end_line" 1029 (.ref 553), en P "read" 1037 (.ref 560), en P "skip_blank" 1044 (.ref 567), en P "sign_behind" 1051 (.ref 574), en P "skip_comment" 1059 (.ref 581), en P "read_compared" 1067 (.ref 588), en P "read_dots" 1074 (.ref 595), en P "read_word" 1083 (.ref 602), en P "read_numeral" 1091 (.ref 609), en P "read_bracket" 1099 (.ref 616), en P "read_level" 1108 (.ref 623), en P "read_long" 1118 (.ref 630), en P "read_inner" 1126 (.ref 637), en P "read_string" 1134 (.ref 644), en P "read_escape" 1142 (.ref 651), en P "read_digits" 1151 (.ref 658), en P "__static_attributes__" 1164 (.ref 659), en P "__dict__" 1166 (.ref 662), en P "__weakref__" 1168 (.ref 663), en P "__doc__" 1169 (.none)] 4, #[]⟩),
  (476, fnO (fst p 89 (some 0)) "__init__" "Lexer.__init__" (.none) (.str "lua.lexer" 729) (.ref 475)),
  (475, ⟨.type "code", none, .fields #[.str "__init__" 935, .str "Lexer.__init__" 936, .str "/claim/cut.py" 937, .int 367 0, .int 4 0, .int 0 0, .int 0 0, .int 3 0, .ref 470, .bool true, .int 181 0, .ref 471, .none, .ref 472, .ref 473, .ref 474, .int 942 0, .int 367 0, .str "/claim/cut.py" 943], #[]⟩),
  (483, fnO (fst p 89 (some 1)) "next" "Lexer.next" (.none) (.str "lua.lexer" 729) (.ref 482)),
  (482, ⟨.type "code", none, .fields #[.str "next" 945, .str "Lexer.next" 946, .str "/claim/cut.py" 947, .int 381 0, .int 1 0, .int 0 0, .int 0 0, .int 3 0, .ref 477, .bool true, .int 181 0, .ref 478, .none, .ref 479, .ref 480, .ref 481, .int 949 0, .int 381 0, .str "/claim/cut.py" 950], #[]⟩),
  (518, fnO (fst p 89 (some 6)) "move" "Lexer.move" (.none) (.str "lua.lexer" 729) (.ref 517)),
  (517, ⟨.type "code", none, .fields #[.str "move" 985, .str "Lexer.move" 986, .str "/claim/cut.py" 987, .int 407 0, .int 1 0, .int 0 0, .int 0 0, .int 3 0, .ref 512, .bool true, .int 181 0, .ref 513, .none, .ref 514, .ref 515, .ref 516, .int 989 0, .int 407 0, .str "/claim/cut.py" 990], #[]⟩),
  (525, fnO (fst p 89 (some 7)) "keep" "Lexer.keep" (.none) (.str "lua.lexer" 729) (.ref 524)),
  (524, ⟨.type "code", none, .fields #[.str "keep" 992, .str "Lexer.keep" 993, .str "/claim/cut.py" 994, .int 411 0, .int 2 0, .int 0 0, .int 0 0, .int 3 0, .ref 519, .bool true, .int 181 0, .ref 520, .none, .ref 521, .ref 522, .ref 523, .int 997 0, .int 411 0, .str "/claim/cut.py" 998], #[]⟩),
  (532, fnO (fst p 89 (some 8)) "keep_and_move" "Lexer.keep_and_move" (.none) (.str "lua.lexer" 729) (.ref 531)),
  (531, ⟨.type "code", none, .fields #[.str "keep_and_move" 1000, .str "Lexer.keep_and_move" 1001, .str "/claim/cut.py" 1002, .int 416 0, .int 1 0, .int 0 0, .int 0 0, .int 3 0, .ref 526, .bool true, .int 181 0, .ref 527, .none, .ref 528, .ref 529, .ref 530, .int 1004 0, .int 416 0, .str "/claim/cut.py" 1005], #[]⟩),
  (539, fnO (fst p 89 (some 9)) "keep_if" "Lexer.keep_if" (.none) (.str "lua.lexer" 729) (.ref 538)),
  (538, ⟨.type "code", none, .fields #[.str "keep_if" 1007, .str "Lexer.keep_if" 1008, .str "/claim/cut.py" 1009, .int 420 0, .int 2 0, .int 0 0, .int 0 0, .int 3 0, .ref 533, .bool true, .int 181 0, .ref 534, .none, .ref 535, .ref 536, .ref 537, .int 1012 0, .int 420 0, .str "/claim/cut.py" 1013], #[]⟩),
  (546, fnO (fst p 89 (some 10)) "clear" "Lexer.clear" (.none) (.str "lua.lexer" 729) (.ref 545)),
  (545, ⟨.type "code", none, .fields #[.str "clear" 1015, .str "Lexer.clear" 1016, .str "/claim/cut.py" 1017, .int 426 0, .int 1 0, .int 0 0, .int 0 0, .int 3 0, .ref 540, .bool true, .int 181 0, .ref 541, .none, .ref 542, .ref 543, .ref 544, .int 1019 0, .int 426 0, .str "/claim/cut.py" 1020], #[]⟩),
  (553, fnO (fst p 89 (some 11)) "end_line" "Lexer.end_line" (.none) (.str "lua.lexer" 729) (.ref 552)),
  (552, ⟨.type "code", none, .fields #[.str "end_line" 1022, .str "Lexer.end_line" 1023, .str "/claim/cut.py" 1024, .int 429 0, .int 1 0, .int 0 0, .int 0 0, .int 3 0, .ref 547, .bool true, .int 181 0, .ref 548, .none, .ref 549, .ref 550, .ref 551, .int 1027 0, .int 429 0, .str "/claim/cut.py" 1028], #[]⟩),
  (560, fnO (fst p 89 (some 12)) "read" "Lexer.read" (.none) (.str "lua.lexer" 729) (.ref 559)),
  (559, ⟨.type "code", none, .fields #[.str "read" 1030, .str "Lexer.read" 1031, .str "/claim/cut.py" 1032, .int 438 0, .int 1 0, .int 0 0, .int 0 0, .int 3 0, .ref 554, .bool true, .int 181 0, .ref 555, .none, .ref 556, .ref 557, .ref 558, .int 1035 0, .int 438 0, .str "/claim/cut.py" 1036], #[]⟩),
  (567, fnO (fst p 89 (some 13)) "skip_blank" "Lexer.skip_blank" (.none) (.str "lua.lexer" 729) (.ref 566)),
  (566, ⟨.type "code", none, .fields #[.str "skip_blank" 1038, .str "Lexer.skip_blank" 1039, .str "/claim/cut.py" 1040, .int 463 0, .int 1 0, .int 0 0, .int 0 0, .int 3 0, .ref 561, .bool true, .int 181 0, .ref 562, .none, .ref 563, .ref 564, .ref 565, .int 1042 0, .int 463 0, .str "/claim/cut.py" 1043], #[]⟩),
  (574, fnO (fst p 89 (some 14)) "sign_behind" "Lexer.sign_behind" (.none) (.str "lua.lexer" 729) (.ref 573)),
  (573, ⟨.type "code", none, .fields #[.str "sign_behind" 1045, .str "Lexer.sign_behind" 1046, .str "/claim/cut.py" 1047, .int 475 0, .int 1 0, .int 0 0, .int 0 0, .int 3 0, .ref 568, .bool true, .int 181 0, .ref 569, .none, .ref 570, .ref 571, .ref 572, .int 1049 0, .int 475 0, .str "/claim/cut.py" 1050], #[]⟩),
  (581, fnO (fst p 89 (some 15)) "skip_comment" "Lexer.skip_comment" (.none) (.str "lua.lexer" 729) (.ref 580)),
  (580, ⟨.type "code", none, .fields #[.str "skip_comment" 1052, .str "Lexer.skip_comment" 1053, .str "/claim/cut.py" 1054, .int 478 0, .int 1 0, .int 0 0, .int 0 0, .int 3 0, .ref 575, .bool true, .int 181 0, .ref 576, .none, .ref 577, .ref 578, .ref 579, .int 1057 0, .int 478 0, .str "/claim/cut.py" 1058], #[]⟩),
  (588, fnO (fst p 89 (some 16)) "read_compared" "Lexer.read_compared" (.none) (.str "lua.lexer" 729) (.ref 587)),
  (587, ⟨.type "code", none, .fields #[.str "read_compared" 1060, .str "Lexer.read_compared" 1061, .str "/claim/cut.py" 1062, .int 491 0, .int 2 0, .int 0 0, .int 0 0, .int 3 0, .ref 582, .bool true, .int 181 0, .ref 583, .none, .ref 584, .ref 585, .ref 586, .int 1065 0, .int 491 0, .str "/claim/cut.py" 1066], #[]⟩),
  (595, fnO (fst p 89 (some 17)) "read_dots" "Lexer.read_dots" (.none) (.str "lua.lexer" 729) (.ref 594)),
  (594, ⟨.type "code", none, .fields #[.str "read_dots" 1068, .str "Lexer.read_dots" 1069, .str "/claim/cut.py" 1070, .int 502 0, .int 1 0, .int 0 0, .int 0 0, .int 3 0, .ref 589, .bool true, .int 181 0, .ref 590, .none, .ref 591, .ref 592, .ref 593, .int 1072 0, .int 502 0, .str "/claim/cut.py" 1073], #[]⟩),
  (602, fnO (fst p 89 (some 18)) "read_word" "Lexer.read_word" (.none) (.str "lua.lexer" 729) (.ref 601)),
  (601, ⟨.type "code", none, .fields #[.str "read_word" 1075, .str "Lexer.read_word" 1076, .str "/claim/cut.py" 1077, .int 512 0, .int 1 0, .int 0 0, .int 0 0, .int 3 0, .ref 596, .bool true, .int 181 0, .ref 597, .none, .ref 598, .ref 599, .ref 600, .int 1081 0, .int 512 0, .str "/claim/cut.py" 1082], #[]⟩),
  (609, fnO (fst p 89 (some 19)) "read_numeral" "Lexer.read_numeral" (.none) (.str "lua.lexer" 729) (.ref 608)),
  (608, ⟨.type "code", none, .fields #[.str "read_numeral" 1084, .str "Lexer.read_numeral" 1085, .str "/claim/cut.py" 1086, .int 519 0, .int 1 0, .int 0 0, .int 0 0, .int 3 0, .ref 603, .bool true, .int 181 0, .ref 604, .none, .ref 605, .ref 606, .ref 607, .int 1089 0, .int 519 0, .str "/claim/cut.py" 1090], #[]⟩),
  (616, fnO (fst p 89 (some 20)) "read_bracket" "Lexer.read_bracket" (.none) (.str "lua.lexer" 729) (.ref 615)),
  (615, ⟨.type "code", none, .fields #[.str "read_bracket" 1092, .str "Lexer.read_bracket" 1093, .str "/claim/cut.py" 1094, .int 531 0, .int 1 0, .int 0 0, .int 0 0, .int 3 0, .ref 610, .bool true, .int 181 0, .ref 611, .none, .ref 612, .ref 613, .ref 614, .int 1097 0, .int 531 0, .str "/claim/cut.py" 1098], #[]⟩),
  (623, fnO (fst p 89 (some 21)) "read_level" "Lexer.read_level" (.none) (.str "lua.lexer" 729) (.ref 622)),
  (622, ⟨.type "code", none, .fields #[.str "read_level" 1100, .str "Lexer.read_level" 1101, .str "/claim/cut.py" 1102, .int 539 0, .int 1 0, .int 0 0, .int 0 0, .int 3 0, .ref 617, .bool true, .int 181 0, .ref 618, .none, .ref 619, .ref 620, .ref 621, .int 1106 0, .int 539 0, .str "/claim/cut.py" 1107], #[]⟩),
  (630, fnO (fst p 89 (some 22)) "read_long" "Lexer.read_long" (.none) (.str "lua.lexer" 729) (.ref 629)),
  (629, ⟨.type "code", none, .fields #[.str "read_long" 1109, .str "Lexer.read_long" 1110, .str "/claim/cut.py" 1111, .int 548 0, .int 3 0, .int 0 0, .int 0 0, .int 3 0, .ref 624, .bool true, .int 181 0, .ref 625, .none, .ref 626, .ref 627, .ref 628, .int 1116 0, .int 548 0, .str "/claim/cut.py" 1117], #[]⟩),
  (644, fnO (fst p 89 (some 24)) "read_string" "Lexer.read_string" (.none) (.str "lua.lexer" 729) (.ref 643)),
  (643, ⟨.type "code", none, .fields #[.str "read_string" 1127, .str "Lexer.read_string" 1128, .str "/claim/cut.py" 1129, .int 578 0, .int 2 0, .int 0 0, .int 0 0, .int 3 0, .ref 638, .bool true, .int 181 0, .ref 639, .none, .ref 640, .ref 641, .ref 642, .int 1132 0, .int 578 0, .str "/claim/cut.py" 1133], #[]⟩),
  (651, fnO (fst p 89 (some 25)) "read_escape" "Lexer.read_escape" (.none) (.str "lua.lexer" 729) (.ref 650)),
  (650, ⟨.type "code", none, .fields #[.str "read_escape" 1135, .str "Lexer.read_escape" 1136, .str "/claim/cut.py" 1137, .int 593 0, .int 1 0, .int 0 0, .int 0 0, .int 3 0, .ref 645, .bool true, .int 181 0, .ref 646, .none, .ref 647, .ref 648, .ref 649, .int 1140 0, .int 593 0, .str "/claim/cut.py" 1141], #[]⟩),
  (658, fnO (fst p 89 (some 26)) "read_digits" "Lexer.read_digits" (.none) (.str "lua.lexer" 729) (.ref 657)),
  (657, ⟨.type "code", none, .fields #[.str "read_digits" 1143, .str "Lexer.read_digits" 1144, .str "/claim/cut.py" 1145, .int 607 0, .int 1 0, .int 0 0, .int 0 0, .int 3 0, .ref 652, .bool true, .int 181 0, .ref 653, .none, .ref 654, .ref 655, .ref 656, .int 1149 0, .int 607 0, .str "/claim/cut.py" 1150], #[]⟩),
  (377, ⟨.type "list", none, .seq #[.bytes #[97, 110, 100] 736, .bytes #[98, 114, 101, 97, 107] 737, .bytes #[100, 111] 738, .bytes #[101, 108, 115, 101] 739, .bytes #[101, 108, 115, 101, 105, 102] 740, .bytes #[101, 110, 100] 741, .bytes #[102, 97, 108, 115, 101] 742, .bytes #[102, 111, 114] 743, .bytes #[102, 117, 110, 99, 116, 105, 111, 110] 744, .bytes #[105, 102] 745, .bytes #[105, 110] 746, .bytes #[108, 111, 99, 97, 108] 747, .bytes #[110, 105, 108] 748, .bytes #[110, 111, 116] 749, .bytes #[111, 114] 750, .bytes #[114, 101, 112, 101, 97, 116] 751, .bytes #[114, 101, 116, 117, 114, 110] 752, .bytes #[116, 104, 101, 110] 753, .bytes #[116, 114, 117, 101] 754, .bytes #[117, 110, 116, 105, 108] 755, .bytes #[119, 104, 105, 108, 101] 756] 0, #[]⟩)]
noncomputable abbrev gv (x : Str) (v : Value) : Str × Value := (x, v)
noncomputable def gl : List (Str × Value) := [
  gv "BLANKS" (.bytes #[32, 9, 10, 11, 12, 13] 196),
  gv "Limits" (.ref 53),
  gv "is_number" (.ref 96),
  gv "wrap" (.ref 103),
  gv "is_blank_values" (.ref 110),
  gv "digit_of" (.ref 117),
  gv "read_digits" (.ref 124),
  gv "skip_blanks" (.ref 131),
  gv "str_to_number" (.ref 138),
  gv "text_in_base" (.ref 145),
  gv "to_text" (.ref 166),
  gv "c_text" (.ref 173),
  gv "chunk_id" (.ref 187),
  gv "quote" (.ref 194),
  gv "FLAGS" (.bytes #[45, 43, 32, 35, 48] 452),
  gv "PERCENT" (.int 37 454),
  gv "POINT" (.int 46 456),
  gv "BLANK" (.int 32 458),
  gv "NOUGHT" (.int 48 460),
  gv "MINUS_formats" (.int 45 462),
  gv "PLUS_formats" (.int 43 464),
  gv "SHARP" (.int 35 466),
  gv "LONG_TEXT" (.int 100 468),
  gv "SMALL_DIGITS" (.bytes #[48, 49, 50, 51, 52, 53, 54, 55, 56, 57, 97, 98, 99, 100, 101, 102] 470),
  gv "GREAT_DIGITS" (.bytes #[48, 49, 50, 51, 52, 53, 54, 55, 56, 57, 65, 66, 67, 68, 69, 70] 472),
  gv "is_digit_formats" (.ref 201),
  gv "Directive" (.ref 288),
  gv "number_at" (.ref 299),
  gv "read_directive" (.ref 306),
  gv "PlainArguments" (.ref 351),
  gv "item" (.ref 362),
  gv "format_all" (.ref 369),
  gv "format_values" (.ref 376),
  gv "END_OF_TEXT" (.int (-1) 732),
  gv "FIRST_RESERVED" (.int 257 734),
  gv "RESERVED" (.ref 377),
  gv "TK_CONCAT" (.int 278 758),
  gv "TK_DOTS" (.int 279 760),
  gv "TK_EQ" (.int 280 762),
  gv "TK_GE" (.int 281 764),
  gv "TK_LE" (.int 282 766),
  gv "TK_NE" (.int 283 768),
  gv "TK_NUMBER" (.int 284 770),
  gv "TK_NAME" (.int 285 772),
  gv "TK_STRING" (.int 286 774),
  gv "TK_EOS" (.int 287 776),
  gv "SOURCE_SIZE" (.int 80 789),
  gv "MOST_LINES" (.int 2147483645 791),
  gv "NEWLINE" (.int 10 793),
  gv "RETURN" (.int 13 795),
  gv "QUOTE_DOUBLE" (.int 34 797),
  gv "QUOTE_SINGLE" (.int 39 799),
  gv "PLUS_lexer" (.int 43 801),
  gv "MINUS_lexer" (.int 45 803),
  gv "DOT" (.int 46 805),
  gv "LESS" (.int 60 807),
  gv "EQUALS" (.int 61 809),
  gv "GREATER" (.int 62 811),
  gv "BRACKET_OPEN" (.int 91 813),
  gv "BACKSLASH" (.int 92 815),
  gv "BRACKET_CLOSE" (.int 93 817),
  gv "UNDERSCORE" (.int 95 819),
  gv "TILDE" (.int 126 821),
  gv "is_digit_lexer" (.ref 385),
  gv "is_letter" (.ref 392),
  gv "is_name_sign" (.ref 399),
  gv "is_blank_lexer" (.ref 406),
  gv "is_newline" (.ref 420),
  gv "escaped_sign" (.ref 427),
  gv "reserved_kinds" (.ref 434),
  gv "Token" (.ref 458),
  gv "Lexer" (.ref 661),
  gv "all_tokens" (.ref 672),
  gv "_law_taken" (.ref 679),
  gv "_law_part" (.ref 686),
  gv "_law_formats_in" (.ref 691),
  gv "law" (.ref 696)]

/-- an object, looked up in the tree -/
noncomputable def atT (s : SharedT) (a : Nat) : Option Obj := match Nat.blt a s.n with
  | false => none
  | true => match s.tree.get a with
    | none => none
    | some o => alive o
theorem atT_ok {s : SharedT} {a : Nat} {o : Obj} (h : atT s a = some o) : s.abs.heap.get? a = some o := by
  unfold atT at h
  cases hb : Nat.blt a s.n with
  | false => rw [hb] at h; cases h
  | true =>
    rw [hb] at h
    cases hg : s.tree.get a with
    | none => rw [hg] at h; cases h
    | some o' => rw [hg] at h; exact (abs_get (Nat.blt_eq.mp hb) hg).trans h
noncomputable def obsT (K : Frag) (s : SharedT) : List (Option Obj) × List (Option Value) := (K.map fun x => atT s x.1, gl.map fun x => s.abs.heap.nsMap mainGlobals x.1)
/-- the same run by the recursor -/
noncomputable def goR (st : SharedT → Thread → Option (SharedT × Thread)) (ok : Thread → Bool) (n : Nat) : SharedT → Thread → Option SharedT :=
  Nat.rec (fun _ _ => none) (fun _ ih s t => Bool.rec (Bool.rec none (Option.rec none (fun r => ih r.1 r.2) (st s t)) (ok t)) (some s) (through t)) n
theorem goR_eq {st : SharedT → Thread → Option (SharedT × Thread)} {ok : Thread → Bool} {n : Nat} {s : SharedT} {t : Thread} : goR st ok n s t = goT st ok n s t := by
  induction n generalizing s t with
  | zero => rfl
  | succ n ih =>
    show Bool.rec (Bool.rec none (Option.rec none (fun r => goR st ok n r.1 r.2) (st s t)) (ok t)) (some s) (through t) = goT st ok (n + 1) s t
    unfold goT
    cases through t with
    | true => rfl
    | false =>
      cases ok t with
      | false => rfl
      | true =>
        cases st s t with
        | none => rfl
        | some r => exact ih
noncomputable def valK (K : Frag) : List (Option Obj) × List (Option Value) := (K.map fun x => some x.2, gl.map fun x => some x.2)
noncomputable def others (p : Program) : List Str := p.boundNames.filter fun n => n != "law"
noncomputable def lawOnly (p : Program) : Program := view p [95]


theorem run1 (w : World) (os : OsState) :
    (goR (stepT (denote treeTable) PySem.Challenge.pw_xm0629_01 w) (stepOk 11 (some (Value.ref 6))) 4700 (start0 w os) (topStub PySem.Challenge.pw_xm0629_01)).map (fun s =>
      (staticsOk (importedModules PySem.Challenge.pw_xm0629_01.main.body) (boot_heap w.params) s.abs.heap && namesBound PySem.Challenge.pw_xm0629_01 s.abs.heap && gensDone s.abs && laidKept (boot_heap w.params) s.abs.heap,
       openSeen (lawOnly PySem.Challenge.pw_xm0629_01) (others PySem.Challenge.pw_xm0629_01) (importedModules PySem.Challenge.pw_xm0629_01.main.body) (fun s => xlAt (lawOnly PySem.Challenge.pw_xm0629_01) [] s) true s.abs,
       obsT (Kf PySem.Challenge.pw_xm0629_01 w.params) s)) =
    some (true, openGood (lawOnly PySem.Challenge.pw_xm0629_01) (others PySem.Challenge.pw_xm0629_01), valK (Kf PySem.Challenge.pw_xm0629_01 w.params)) := by
  unfold openSeen openGood topStub start0 staticsOk namesBound gensDone laidKept xlAt
  simp only [PySem.W.Fast.te15056007747304108558, PySem.W.Fast.te4857012375875476094, PySem.W.Fast.te1584917186373303978, PySem.W.Fast.te5923862056798008813, PySem.W.Fast.te3471404346716756564, PySem.W.Fast.te14846217769314788766,
    PySem.W.Fast.te8920871248978507458, PySem.W.Fast.te12749700546528644094, PySem.W.Fast.te18344453789297297638, PySem.W.Fast.te5160383126252970620, PySem.W.Fast.te3399658132070893891, PySem.W.Fast.te5991557255702980513,
    PySem.W.Fast.te10880121769531294198, PySem.W.Fast.te821141287760084731, PySem.W.Fast.te7409074990110511671, PySem.W.Fast.te13664370479719496447, PySem.W.Fast.te14722251495701143533, PySem.W.Fast.te10994771534591457954,
    PySem.W.Fast.te964301259703733418, PySem.W.Fast.te479339242167458305, PySem.W.Fast.te16090120013241838585, PySem.W.Fast.te3247288618530077131, PySem.W.Fast.te2386780881361962483, PySem.W.Fast.te11698064438423848299,
    PySem.W.Fast.te7317090234206586261, PySem.W.Fast.te7369524293546568484, PySem.W.Fast.te10156331382660048174, PySem.W.Fast.te11892475500146522536, PySem.W.Fast.te14364793385576792824, PySem.W.Fast.te6613529449190102663,
    PySem.W.Fast.te17154629097778926822, PySem.W.Fast.te12822647523644345616, PySem.W.Fast.te6905046200447255374]
  kernel_rfl
end Mine

end
section
open PySem PySem.W PyProof.Rows
namespace Mine
open PySem.Challenge (pw_xm0629_01 rw_xm0629_01)

noncomputable def adrs : List Addr := [110,109,117,116,124,123,131,130,138,137,145,144,103,102,166,165,173,172,187,186,194,193,201,200,299,298,306,305,362,361,369,368,376,375,385,384,392,391,399,398,406,405,420,419,427,426,434,433,672,671,679,678,686,685,691,690,696,695,96,95,53,52,36,35,29,288,287,229,228,351,350,320,319,327,326,341,340,458,457,455,454,661,660,476,475,483,482,518,517,525,524,532,531,539,538,546,545,553,552,560,559,567,566,574,573,581,580,588,587,595,594,602,601,609,608,616,615,623,622,630,629,644,643,651,650,658,657,377]
theorem adrs_is (P : Params) : (Kf pw_xm0629_01 P).map (·.1) = adrs := by kernel_rfl

/-- what the head hands on: the objects and the names -/
structure YP (w : World) (h : Heap) : Prop where
  objs : (Kf pw_xm0629_01 w.params).In h
  names : ∀ x ∈ gl, h.nsMap mainGlobals x.1 = some x.2

theorem nsMap_keeps {h h' : Heap} {a : Addr} {x : Str} {v : Value} (e : h.nsMap a x = some v) (hk : ∀ b o, h.get? b = some o → h'.get? b = some o) : h'.nsMap a x = some v := by
  unfold Heap.nsMap at e ⊢
  cases q : h.get? a with
  | none => rw [q] at e; first | cases e | simp at e
  | some o => rw [q] at e; rw [hk _ _ q]; exact e

theorem YP.keeps (w : World) (h h' : Heap) (Y : YP w h) (hk : ∀ b o, h.get? b = some o → h'.get? b = some o) : YP w h' :=
  ⟨Y.objs.keeps hk, fun x hx => nsMap_keeps (Y.names x hx) hk⟩

noncomputable def Yf (s : Shared) : List (Option Obj) × List (Option Value) := (adrs.map s.heap.get?, gl.map fun x => s.heap.nsMap mainGlobals x.1)
noncomputable def Ya (w : World) : List (Option Obj) × List (Option Value) := valK (Kf pw_xm0629_01 w.params)

theorem YP_of (w : World) (s : Shared) (e : Yf s = Ya w) : YP w s.heap := by
  have e1 := congrArg Prod.fst e
  have e2 := congrArg Prod.snd e
  refine ⟨Frag.in_of (adrs_is w.params).symm e1, fun x hx => ?_⟩
  have e2 : gl.map (fun x => s.heap.nsMap mainGlobals x.1) = gl.map fun x => some x.2 := e2
  exact List.map_inj_left.mp e2 x hx

theorem LeftO_of_run {p q : Program} {loose : List Str} {Xt : Shared → Bool} {α : Type} {Yf : Shared → α} {Ya : World → α} {N : Nat} {H₀ : Params → Heap} {gs₀ : Array GenState} {d₀ : Drawn} {k₀ : Nat} {m₀ : Nat} {ann : Option Value}
    {S0 : World → OsState → SharedT}
    (open_ : ∀ w : World, (fencedOpening treeTable p w N).map (fun s => (s.heap, s.gens, s.drawn, s.toks)) = some (H₀ w.params, gs₀, d₀, k₀))
    (size : ∀ w : World, ((H₀ w.params).isNs mainGlobals && gs₀.size == 0) = true ∧ (H₀ w.params).objs.size = m₀ ∧ (H₀ w.params).nsMap mainGlobals "__annotations__" = ann)
    (hS : ∀ w os, (S0 w os).abs = ⟨H₀ w.params, gs₀, d₀, k₀, os⟩)
    (run : ∀ (w : World) (os : OsState), (goT (stepT (denote treeTable) p w) (stepOk m₀ ann) N (S0 w os) (topStub p)).map (fun s =>
      (staticsOk (importedModules p.main.body) (H₀ w.params) s.abs.heap && namesBound p s.abs.heap && gensDone s.abs && laidKept (H₀ w.params) s.abs.heap,
       openSeen q loose (importedModules p.main.body) Xt true s.abs, Yf s.abs)) = some (true, openGood q loose, Ya w)) : LeftO p q loose Xt Yf Ya N := fun w => by
  obtain ⟨⟨h, gs, d, k, os⟩, e, e'⟩ := Option.map_eq_some_iff.mp (open_ w)
  obtain ⟨rfl, rfl, rfl, rfl⟩ : h = H₀ w.params ∧ gs = gs₀ ∧ d = d₀ ∧ k = k₀ := by simpa using e'
  obtain ⟨z1, z2, z3⟩ := size w
  obtain ⟨s₁, r1, r2⟩ := Option.map_eq_some_iff.mp (run w os)
  have r := goT_spec r1
  rw [hS] at r
  simp only [Prod.mk.injEq] at r2
  obtain ⟨l1, l2, l3⟩ := r2
  have t : topFrom treeTable p w N ⟨H₀ w.params, gs, d, k, os⟩ = some s₁.abs := by
    unfold topFrom
    dsimp only
    rw [z1, z2, z3, r]
    show (match staticsOk (importedModules p.main.body) (H₀ w.params) s₁.abs.heap && namesBound p s₁.abs.heap && gensDone s₁.abs && laidKept (H₀ w.params) s₁.abs.heap with | true => _ | false => _) = _
    rw [l1]
  unfold openEnds
  rw [e]
  show (topFrom treeTable p w N _).map _ = _
  rw [t]
  exact congrArg some (Prod.ext l2 l3)

theorem size0 (w : World) : ((boot_heap w.params).isNs mainGlobals && (Array.mk [] : Array GenState).size == 0) = true ∧ (boot_heap w.params).objs.size = 11 ∧ (boot_heap w.params).nsMap mainGlobals "__annotations__" = some (Value.ref 6) :=
  ⟨by kernel_rfl, by kernel_rfl, by kernel_rfl⟩
theorem abs0 (w : World) (os : OsState) : (start0 w os).abs = ⟨boot_heap w.params, Array.mk [], boot_drawn, boot_toks, os⟩ := by
  unfold SharedT.abs start0
  dsimp only
  rw [tree0_boot]
theorem open0 : ∀ w : World, (fencedOpening treeTable pw_xm0629_01 w 4700).map (fun s => (s.heap, s.gens, s.drawn, s.toks)) = some (boot_heap w.params, Array.mk [], boot_drawn, boot_toks) :=
  boot_open (by kernel_rfl) (by decide) (fun s => by kernel_rfl)
theorem obs_yf (K : Frag) (s : SharedT) (h : K.map (·.1) = adrs) (e : obsT K s = valK K) : Yf s.abs = valK K := by
  have e1 : K.map (fun x => atT s x.1) = K.map fun x => some x.2 := congrArg Prod.fst e
  have e2 : gl.map (fun x => s.abs.heap.nsMap mainGlobals x.1) = gl.map fun x => some x.2 := congrArg Prod.snd e
  refine Prod.ext ?_ e2
  show adrs.map s.abs.heap.get? = K.map fun x => some x.2
  rw [← h, List.map_map]
  exact List.map_congr_left fun x hx => atT_ok (List.map_inj_left.mp e1 x hx)
theorem left : LeftO pw_xm0629_01 (lawOnly pw_xm0629_01) (others pw_xm0629_01) (fun s => xlAt (lawOnly pw_xm0629_01) [] s) Yf Ya 4700 :=
  LeftO_of_run open0 size0 abs0 fun w os => by
    obtain ⟨s, hs, e⟩ := Option.map_eq_some_iff.mp (run1 w os)
    rw [goR_eq] at hs
    rw [hs]
    have e1 := congrArg Prod.fst e
    have e2 := congrArg (fun z => z.2.1) e
    have e3 := obs_yf _ s (adrs_is w.params) (congrArg (fun z => z.2.2) e)
    exact congrArg some (Prod.ext e1 (Prod.ext e2 e3))

noncomputable def dLaw : DefRec := ⟨"law", fargs (fst pw_xm0629_01 95 none), fbody (fst pw_xm0629_01 95 none), fscope (fst pw_xm0629_01 95 none), ⟨645, 0, 663, 15⟩⟩

theorem hdef : defOf (lawOnly pw_xm0629_01) rw_xm0629_01.row.name = some (dLaw, []) := by kernel_rfl
theorem hp : rw_xm0629_01.row.prog.theDef rw_xm0629_01.row.name = some (dLaw.params, dLaw.body, dLaw.scope) := by kernel_rfl
theorem hk : kwWritten? dLaw.params.kwonlyargs dLaw.params.kw_defaults = some [] := by kernel_rfl

theorem said0 : OpenLaw.wellSaid rw_xm0629_01 = true := by
  rw [PySem.W.Fast.te9446332074065402090]
  unfold PySem.W.Fast.tw9446332074065402090 PySem.W.Fast.tw17960256430627541270 PySem.W.Fast.tw2436336058641802641 PySem.W.Fast.tw12908688711261696721
  repeat' (with_reducible refine look_both ?_ ?_)
  all_goals decide +kernel
end Mine

end
section
open PySem PySem.W PyProof.Rows PySem.Calls
set_option maxHeartbeats 4000000
set_option linter.unusedVariables false
namespace Mine
open PySem.Challenge (pw_xm0629_01 rw_xm0629_01)

/-! ## The calculus over contexts in which no codec stands (a bytearray's growth asks the whole stack) -/
noncomputable def decIds : List String := Builtin.Bytes.decodersThatHold ++ ["bytearray.__contains__", "bytearray.__mod__", "bytearray.__rmod__", "_struct.pack_into.held", "bytearray.find.held"]
noncomputable def isDec : Code → Bool
  | .builtin id _ => decIds.contains id
  | _ => false
noncomputable def NoDec (l : List (Code × Pos)) : Prop := ∀ x ∈ l, isDec x.1 = false
noncomputable def okC (Γ : Ctx) : Prop := isDec Γ.code = false ∧ NoDec Γ.below

noncomputable def wpAny {α : Type} (M : Model) (A : Around) (t : Sem α) (Q : α → Shared → Prop) (E : Value → Shared → Prop) (s : Shared) : Prop :=
  ∀ Γ p, Γ.In A → okC Γ → Sem.wp M Γ t (fun a _ s' => Q a s') (fun e _ s' => E e s') p s
noncomputable def codeAny (M : Model) (A : Around) (c : Code) (R : Result → Shared → Prop) (s : Shared) : Prop :=
  isDec c = false ∧ ∀ Γ p, Γ.code = c → Γ.Below A → NoDec Γ.below → wpCode M Γ R p s

theorem okC.enter {Γ : Ctx} (h : okC Γ) (c : Code) (hd : Option Value) (p : Pos) : NoDec (Γ.enter c hd p).below := by
  intro x hx
  rcases List.mem_cons.mp hx with rfl | hx
  · exact h.1
  · exact h.2 x hx

section
variable {α β : Type} {M : Model} {A : Around} {E : Value → Shared → Prop} {s : Shared}
theorem lift {t : Sem α} {Q : α → Shared → Prop} (h : PySem.wpAny M A t Q E s) : wpAny M A t Q E s := fun Γ p hΓ _ => h Γ p hΓ
theorem liftC {c : Code} {R : Result → Shared → Prop} (h : PySem.codeAny M A c R s) (hc : isDec c = false := by rfl) : codeAny M A c R s := ⟨hc, fun Γ p e hΓ _ => h Γ p e hΓ⟩
theorem wpAny_pure {a : α} {Q : α → Shared → Prop} (h : Q a s) : wpAny M A (pure a) Q E s := fun _ _ _ _ => h
theorem wpAny_mono {t : Sem α} {Q Q' : α → Shared → Prop} {E' : Value → Shared → Prop} (h : wpAny M A t Q E s)
    (hQ : ∀ a s, Q a s → Q' a s) (hE : ∀ e s, E e s → E' e s) : wpAny M A t Q' E' s :=
  fun Γ p hΓ hc => Sem.wp_mono M Γ t (fun a _ s' h' => hQ a s' h') (fun e _ s' h' => hE e s' h') p s (h Γ p hΓ hc)
theorem wpAny_bind {m : Sem α} {f : α → Sem β} {Q : β → Shared → Prop} (h : wpAny M A m (fun a s' => wpAny M A (f a) Q E s') E s) :
    wpAny M A (m >>= f) Q E s := fun Γ p hΓ hc => by
  rw [Sem.wp_bind']
  exact Sem.wp_mono M Γ m (fun a p' s' h' => h' Γ p' hΓ hc) (fun _ _ _ h' => h') p s (h Γ p hΓ hc)
theorem wpAny_of_eq {t u : Sem α} {Q : α → Shared → Prop} (e : t = u) (h : wpAny M A u Q E s) : wpAny M A t Q E s := e ▸ h
theorem wpAny_onRaise {m : Sem α} {k : Value → Sem Unit} {Q : α → Shared → Prop}
    (h : wpAny M A m Q (fun e s' => wpAny M A (k e) (fun _ s'' => E e s'') E s') s) : wpAny M A (m.onRaise k) Q E s := fun Γ p hΓ hc => by
  rw [Sem.wp_onRaise]
  exact Sem.wp_mono M Γ m (fun _ _ _ h' => h') (fun e p' s' h' => h' Γ p' hΓ hc) p s (h Γ p hΓ hc)
theorem wpAny_holding {vs : List Value} {m : Sem α} {Q : α → Shared → Prop} (h : wpAny M A m Q E s) : wpAny M A (holding vs m) Q E s :=
  fun Γ p hΓ hc => by rw [Sem.wp_holding]; exact h Γ p hΓ hc
theorem wpAny_keep {vs : List Value} {m : Sem α} {Q : α → Shared → Prop} (h : wpAny M A m Q E s) : wpAny M A (m.keep vs) Q E s :=
  fun Γ p hΓ hc => by rw [Sem.wp_keep]; exact h Γ p hΓ hc
theorem wpAny_ite {c : Prop} [Decidable c] {a b : Sem α} {Q : α → Shared → Prop} (h : if c then wpAny M A a Q E s else wpAny M A b Q E s) :
    wpAny M A (if c then a else b) Q E s := by split <;> simp_all
theorem wpAny_rule {tag : String} {Q : Unit → Shared → Prop} (h : Q () s) : wpAny M A (rule tag) Q E s := fun _ _ _ _ => h
theorem wpAny_standAt {pos : Pos} {Q : Unit → Shared → Prop} (h : Q () s) : wpAny M A (standAt pos) Q E s := fun _ _ _ _ => h
theorem wpAny_point {Q : Unit → Shared → Prop} (h : Q () s) : wpAny M A point Q E s := fun _ _ _ _ => h
theorem wpAny_mkInt {i : Int} {Q : Value → Shared → Prop} (h : Q (.int i s.toks) { s with toks := s.toks + 1 }) : wpAny M A (mkInt i) Q E s := fun _ _ _ _ => h
theorem wpAny_load {a : Addr} {o : Obj} {Q : Obj → Shared → Prop} (ho : s.heap.get? a = some o) (h : Q o s) : wpAny M A (load a) Q E s := lift (PySem.wpAny_load ho h)
theorem wpAny_release' {vs keep : List Value} {Q : Unit → Shared → Prop} (h : Q () s) : wpAny M A (release vs keep) Q E s := lift (PyProof.Rows.wpAny_release' h)
theorem wpAny_operate' {vs : List Value} {m : Sem Value} {Q : Value → Shared → Prop} (h : wpAny M A m Q E s) : wpAny M A (operate vs m) Q E s := fun Γ p hΓ hc => by
  rw [Sem.wp_operate]; exact h Γ p hΓ hc
theorem codeAny_mono {c : Code} {R R' : Result → Shared → Prop} (h : codeAny M A c R s) (hR : ∀ r s, R r s → R' r s) : codeAny M A c R' s :=
  ⟨h.1, fun Γ p hc hΓ hn => wpCode_mono hR (h.2 Γ p hc hΓ hn)⟩
theorem wpAny_run {c : Code} {h : Option Value} {Q : Flow → Shared → Prop}
    (hc : codeAny M (A.mark h) c (fun r s' => match r with | .ok f => Q f s' | .error e => E e s') s) (hnb : h ≠ some byPass := by intro x; cases x) :
    wpAny M A (run c h) Q E s :=
  fun Γ p hΓ ho => by rw [Sem.wp_run]; exact hc.2 _ p rfl (hΓ.enter c h p hnb) (ho.enter c h p)
theorem wpAny_runValue {c : Code} {Q : Value → Shared → Prop}
    (hc : codeAny M A c (fun r s' => match r with | .ok (.ret v) => Q v s' | .ok _ => False | .error e => E e s') s) :
    wpAny M A (runValue c) Q E s := fun Γ p hΓ ho => by rw [Sem.wp_runValue]; exact hc.2 _ p rfl (hΓ.enter c none p (by intro x; cases x)) (ho.enter c none p)
theorem wpAny_call {f : Value} {pos : List Value} {kw : List (Str × Value)} {Q : Value → Shared → Prop}
    (hc : codeAny M A (.call f ⟨pos, kw⟩) (fun r s' => match r with | .ok (.ret v) => Q v s' | .ok _ => False | .error e => E e s') s) :
    wpAny M A (call f pos kw) Q E s := wpAny_runValue hc
theorem codeAny_of_tree {c : Code} {R : Result → Shared → Prop} (hd : isDec c = false)
    (h : wpAny M (A.under c) (M.den c) (fun fin s' => match fin with | .done f => R (.ok f) s' | .again c' => c'.quiet = true ∧ codeAny M A c' R s')
      (fun e s' => R (.error e) s') s) : codeAny M A c R s := ⟨hd, fun Γ p hc hΓ hn => by
  rw [wpCode_iff_wp, hc]
  refine Sem.wp_mono M Γ _ (fun fin p' s' h' => ?_) (fun _ _ _ h' => h') p s (h Γ p (hc ▸ hΓ.in) ⟨hc ▸ hd, hn⟩)
  cases fin with
  | done f => exact h'
  | again c' => exact ⟨h'.1, h'.2.2 (Γ.goto c') p' rfl (hΓ.goto c') hn⟩⟩
/-- the stack is seen: no codec on it -/
theorem wpAny_stack {k : List (Code × Pos) → Sem α} {Q : α → Shared → Prop} (h : ∀ l, NoDec l → wpAny M A (k l) Q E s) : wpAny M A (stack >>= k) Q E s := fun Γ p hΓ ho => by
  rw [Sem.wp_bind']
  show Sem.wp M Γ (.stack .pure) _ _ p s
  rw [Sem.wp_stack]
  refine h ((Γ.code, p) :: Γ.below) (fun x hx => ?_) Γ p hΓ ho
  rcases List.mem_cons.mp hx with rfl | hx
  · exact ho.1
  · exact ho.2 x hx
end

/-! the evaluator's composite rules -/
section
variable {M : Model} {A : Around} {E : Value → Shared → Prop} {s : Shared} {env : Env}
theorem wpAny_runOwn {c : Code} {h : Option Value} {Q : Flow → Shared → Prop}
    (hc : ∀ X : Value → Shared → Prop, codeAny M (A.mark h) c (fun r s' => match r with | .ok f => Q f s' | .error e => X e s') s) (hnb : h ≠ some byPass := by intro x; cases x) :
    wpAny M A (runOwn c env h) Q E s := by
  unfold runOwn
  exact wpAny_onRaise (wpAny_run (hc _) hnb)
theorem wpAny_bindName {x : Str} {v : Value} {Q : Unit → Shared → Prop} (h : wpAny M A (storeName env x v) Q E s) : wpAny M A (bindName env x v) Q E s :=
  fun Γ p hΓ ho => by rw [Sem.wp_bindName]; exact h Γ p hΓ ho
theorem wpAny_execs_nil {Q : Flow → Shared → Prop} (h : Q .next s) : wpAny M A (execs [] env) Q E s := fun _ _ _ _ => h
theorem wpAny_execs_cons {st : Stmt} {rest : List Stmt} {Q : Flow → Shared → Prop}
    (h : wpAny M A (exec st env) (fun f s' => match f with | .next => wpAny M A (execs rest env) Q E s' | f => Q f s') E s) :
    wpAny M A (execs (st :: rest) env) Q E s := fun Γ p hΓ ho => by
  rw [execs_cons, Sem.wp_bind']
  refine Sem.wp_mono M Γ _ (fun f p' s' h' => ?_) (fun _ _ _ h' => h') _ _ (h Γ p hΓ ho)
  cases f <;> first | exact h' Γ p' hΓ ho | exact h'
theorem spliced_nil {Q : List Value → Shared → Prop} (h : Q [] s) : wpAny M A (spliced []) Q E s := wpAny_pure h
theorem spliced_cons {x : Sem Value} {rest : List (Bool × Sem Value)} {Q : List Value → Shared → Prop}
    (h : wpAny M A x (fun v s₁ => wpAny M A (spliced rest) (fun vs s₂ => Q (v :: vs) s₂) E s₁) E s) : wpAny M A (spliced ((false, x) :: rest)) Q E s := by
  rw [spliced]
  refine wpAny_bind (wpAny_mono h (fun v s₁ h₁ => ?_) fun _ _ x => x)
  simp only [Bool.false_eq_true, if_false]
  exact wpAny_bind (wpAny_pure (wpAny_bind (wpAny_holding (wpAny_mono h₁ (fun vs s₂ h₂ => wpAny_pure h₂) fun _ _ x => x))))
theorem evalArgs_plain {f : Value} {x : Sem Value} {rest : List (Bool × Sem Value)} {Q : Args → Shared → Prop}
    (h : wpAny M A (spliced ((false, x) :: rest)) (fun vs s' => Q ⟨vs, []⟩ s') E s) : wpAny M A (evalArgs f true ((false, x) :: rest) []) Q E s := by
  unfold evalArgs
  show wpAny M A (spliced ((false, x) :: rest) >>= _) Q E s
  refine wpAny_bind (wpAny_mono h (fun vs s' h' => ?_) fun _ _ x => x)
  refine wpAny_holding ?_
  exact wpAny_bind (wpAny_pure (wpAny_bind (wpAny_pure (wpAny_pure h'))))
theorem callTail {t : Sem Value} {Q : Value → Shared → Prop} (h : wpAny M A t Q E s) : wpAny M A (t >>= fun r => holding [r] point >>= fun _ => pure r) Q E s :=
  wpAny_bind (wpAny_mono h (fun r s₂ hr => wpAny_bind (wpAny_holding (wpAny_point (wpAny_pure hr)))) fun _ _ x => x)
theorem callWith_builtin {pos : Pos} {id : String} {first : List Value} {args : List (Bool × Sem Value)} {Q : Value → Shared → Prop} (hplain : args.any (·.1) = false)
    (h : wpAny M A (evalArgs (.builtin id) true args []) (fun a s₁ => wpAny M A (call (.builtin id) (first ++ a.pos) a.kw) Q E s₁) E s) :
    wpAny M A (callWith pos (.builtin id) first args []) Q E s := by
  unfold callWith
  refine wpAny_bind (wpAny_holding (wpAny_mono h (fun a s₁ h₁ => wpAny_bind (wpAny_standAt ?_)) fun _ _ x => x))
  simp only [hplain, List.any_nil, Bool.or_false]
  refine wpAny_bind (wpAny_pure ?_)
  exact callTail h₁
theorem callWith_of {f : Value} {first : List Value} {pos : Pos} {Q : Value → Shared → Prop} {P : Heap → Prop} {args : List (Bool × Sem Value)} {keywords : List (Option Str × Sem Value)} (hplain : (args.any (·.1) || keywords.any (·.1.isNone)) = false)
    (hk : ∀ h, P h → ∃ k, (k = Keeper.frame ∨ k = Keeper.machine ∨ k = Keeper.boundFrame) ∧ Looks M h (keeperOf f) k)
    (h : wpAny M A (evalArgs f true args keywords) (fun a s₁ => P s₁.heap ∧ wpAny M A (call f (first ++ a.pos) a.kw) Q E s₁) E s) : wpAny M A (callWith pos f first args keywords) Q E s := by
  unfold callWith
  refine wpAny_bind (wpAny_holding (wpAny_mono h (fun a s₁ h₁ => wpAny_bind (wpAny_standAt ?_)) fun _ _ x => x))
  obtain ⟨k, hk', L⟩ := hk _ h₁.1
  simp only [hplain]
  refine wpAny_bind (lift (L.here ?_))
  have marked (mk : Value) : wpAny M A (callMarked mk f (first ++ a.pos) a.kw) Q E s₁ := by unfold callMarked; exact wpAny_keep h₁.2
  rcases hk' with rfl | rfl | rfl <;> dsimp only <;> first | exact callTail h₁.2 | (split <;> first | exact callTail h₁.2 | exact callTail (marked _))
end

section
variable {prog : Program} {w : World} {A : Around} {s : Shared} {R : Result → Shared → Prop}
theorem codeAny_func {body : List Stmt} {env : Env}
    (h : ∀ X : Value → Shared → Prop, wpAny (model prog w) (A.deeper env) (execs body env) (fun f s' => R (.ok (.ret (match f with | .ret v => v | _ => .none))) s') X s) :
    codeAny (model prog w) A (.func body env) R s := by
  refine codeAny_of_tree rfl ?_
  show wpAny _ (A.deeper env) (do point; match ← (execs body env).onRaise (leaving env) with | .ret v => ret v | _ => ret .none) _ _ s
  refine wpAny_bind (wpAny_point (wpAny_bind (wpAny_onRaise (wpAny_mono (h _) (fun f s' h' => ?_) fun _ _ h' => h'))))
  cases f <;> exact wpAny_pure h'
theorem codeAny_call_def {a : Addr} {o : Obj} {fd : FuncData} {body : List Stmt} {args : Args} {binds : List (Str × Value)}
    (hroom : A.depth < recursionLimit) (ho : s.heap.get? a = some o) (hdata : o.data = .func fd) (hlim : s.heap.NoLimit) (hcd : s.heap.CodeRec fd.code fd.qualname)
    (hbody : fd.body = .stmts body) (hbind : BindsTo s fd args binds)
    (hcell : ∀ x ∈ fd.scope.names, x.2 ≠ .cell) (hloc : ∀ x ∈ binds, fd.scope.names.lookup x.1 = some .local)
    (h : ∀ h₀, h₀.Ns s.heap.objs.size (fun x => binds.reverse.lookup x) → (∀ b o, s.heap.get? b = some o → h₀.get? b = some o) → ∀ X : Value → Shared → Prop,
      wpAny (model prog w) (A.deeper (callEnv fd s.heap.objs.size a)) (execs body (callEnv fd s.heap.objs.size a)) (fun f s' => R (.ok (.ret (match f with | .ret v => v | _ => .none))) s') X
        { s with heap := h₀, toks := s.toks + binds.length })
    (hco : fd.scope.isCoroutine = false := by rfl) (hgen : fd.scope.isGenerator = false := by rfl) (hk : fd.scope.kind = .function := by rfl) :
    codeAny (model prog w) A (.call (.ref a) args) R s := by
  refine codeAny_of_tree rfl ?_
  show wpAny _ A.in1 (callAny (.ref a) args) _ _ s
  simp only [callAny]
  refine wpAny_bind (wpAny_load ho ?_)
  obtain ⟨c, oc, vs, tq, hc, hoc, hdc, hq⟩ := hcd
  simp only [hdata, callFunction, hco, hgen, hbody, hc]
  refine wpAny_bind (m := field (.ref c) 1) (lift (wpAny_field hoc hdc hq (wpAny_bind (wpAny_pure ?_))))
  refine wpAny_bind (lift (hbind _ _ _ _ ?_))
  rw [← hc]
  refine wpAny_bind (lift (PySem.wpAny_newFunctionEnv hcell hloc (fun h₀ hns₀ hsb₀ => ?_) hk))
  refine wpAny_bind (lift (PySem.wpAny_enterFrame (hlim.fresh _ hsb₀) hroom ?_))
  refine wpAny_pure (And.intro rfl (codeAny_func fun X => h h₀ hns₀ (fun b o e => ?_) X))
  exact hsb₀.extBut b o (Nat.ne_of_lt (Heap.lt_size e)) (Heap.get?_push_of_some _ e)
end

section
variable {α : Type} {M : Model} {A : Around} {E : Value → Shared → Prop} {s : Shared}
theorem wpAny_ifF {c : Bool} {a b : Sem α} {Q : α → Shared → Prop} (hc : c = false) (h : wpAny M A b Q E s) : wpAny M A (if c = true then a else b) Q E s := by subst hc; exact h
theorem wpAny_ifT {c : Bool} {a b : Sem α} {Q : α → Shared → Prop} (hc : c = true) (h : wpAny M A a Q E s) : wpAny M A (if c = true then a else b) Q E s := by subst hc; exact h
end
/-! calls of built-ins; classes of the text -/
section
variable {prog : Program} {w : World} {A : Around} {E : Value → Shared → Prop} {s : Shared} {R : Result → Shared → Prop}
theorem codeAny_call_builtin_at {id : String} {args : Args} {b : Builtin} (hd : decIds.contains id = false) (hq : (Code.builtin id args).quiet = true) (hb : entryFor table id = some b)
    (h : wpAny (model prog w) A.in1 (checkBuiltinCall id args) (fun _ s₁ => wpAny (model prog w) (A.under (.builtin id args)) (b args)
      (fun fin s' => match fin with | .done f => R (.ok f) s' | .again c' => c'.quiet = true ∧ codeAny (model prog w) A c' R s') (fun e s' => R (.error e) s') s₁)
      (fun e s' => R (.error e) s') s) : codeAny (model prog w) A (.call (.builtin id) args) R s := by
  refine codeAny_of_tree rfl ?_
  show wpAny _ A.in1 (do checkBuiltinCall id args; again (.builtin id args)) _ _ s
  refine wpAny_bind (wpAny_mono h (fun _ s₁ h₁ => wpAny_pure (And.intro hq (codeAny_of_tree hd ?_))) fun _ _ h' => h')
  show wpAny _ _ (match entryFor table id with | some b => b args | none => unsupported ((withoutEnding? id "#data").getD id)) _ _ s₁
  rw [hb]; exact h₁
theorem wpAny_call_entry {T : String} {name : Str}
    {id : String} {b : Builtin} {self : Value} {rest : List Value} {Q : Value → Shared → Prop} (hd : decIds.contains id = false) (h : Slot T name id) (hT : s.TypeIs self T)
    (hb : entryFor table id = some b)
    (hc : wpAny (model prog w) A.in1 (b ⟨self :: rest, []⟩) (fun fin s' => ∃ v, fin = .done (.ret v) ∧ Q v s') E s)
    (ha : argsOk id ⟨self :: rest, []⟩ := by rfl) :
    wpAny (model prog w) A (call (.builtin id) (self :: rest)) Q E s := by
  refine wpAny_call (codeAny_call_builtin_at hd (plainId_quiet h.plain _) hb (lift (h.check _ _ _ _ _ _ _ _ hT ha ?_)))
  rw [Around.under_plainId h.plain]
  refine wpAny_mono hc (fun fin s' h' => ?_) fun _ _ h' => h'
  obtain ⟨v, rfl, hv⟩ := h'; exact hv
end
section
variable {prog : Program} {w : World} {A : Around} {K : Frag} {C : Addr} {R : Result → Shared → Prop} {h : Heap} {g : Array GenState} {d : Drawn} {t : Nat} {os : OsState}
theorem make_core {rest : List Value} {kw : List (Str × Value)} {init : Value} (Y : Makes (model prog w) h C) (hi : Looks (model prog w) h (typeLookup (.ref C) "__init__") (some init))
    (hb : ∀ self, Looks (model prog w) h (bindSpecial init self) (init, [self])) (hne : (some init != some (Value.builtin "object.__init__")) = true ∨ (rest = [] ∧ kw = []))
    (hq : codeAny (model prog w) (A.under (.builtin "type.__call__" ⟨.ref C :: rest, kw⟩)) (.call init ⟨.ref (h.objs.size + 1) :: rest, kw⟩) (InitBack (h.objs.size + 1) R) ⟨(h.push emptyDict).push (instObj C h.objs.size), g, d, t, os⟩) :
    codeAny (model prog w) A (.call (.ref C) ⟨rest, kw⟩) R ⟨h, g, d, t, os⟩ := by
  have Y' := Y
  obtain ⟨⟨oc, od, cd, sl, hC, e1, e2, e4⟩, made, base, self, top, call, typ⟩ := Y
  refine codeAny_of_tree rfl (lift ?_)
  show PySem.wpAny _ _ (callAny (.ref C) _) _ _ _
  refine nd_load hC ?_
  show PySem.wpAny _ _ (callAny.viaDunder (.ref C) _) _ _ _
  unfold callAny.viaDunder
  refine PySem.wpAny_bind (call.at ?_)
  dsimp only
  rw [tc_bind]
  refine PySem.wpAny_bind (PySem.wpAny_pure (PySem.wpAny_bind (PySem.wpAny_pure ?_)))
  refine PySem.wpAny_pure (a := Fin.again (.call (.builtin "type.__call__") ⟨.ref C :: rest, kw⟩)) (And.intro rfl ?_)
  refine codeAny_call_builtin_at (by decide +kernel) (Code.quiet_builtin _ (by decide +kernel)) entry_typeCall (lift (check_slot tc_kind tc_split typ (tc_args _ _ _) ?_))
  unfold Builtin.«type.__call__»
  have hm : Looks (model prog w) h (mroOf (.ref C)) cd.mro := ((Looks.ld (part := none) hC).andThen .now).andThen .now
  repeat (first | simp only [e4, Bool.false_eq_true, if_false] | (first | with_reducible refine Mine.wpAny_bind ?_ | with_reducible refine Mine.wpAny_pure ?_ | with_reducible refine Mine.wpAny_holding ?_ | with_reducible refine Mine.wpAny_onRaise ?_ | with_reducible refine Mine.wpAny_call ?_ | (with_reducible refine Mine.wpAny_ifF ?_ ?_; (first | rfl | kernel_rfl | assumption)) | (with_reducible refine Mine.wpAny_ifT ?_ ?_; (first | rfl | kernel_rfl | assumption)) | (with_reducible show Mine.wpAny _ _ _ _ _ _; dsimp only) | with_reducible refine Mine.lift ?_ | lk))
  refine liftC (new_K Y' hi hne ?_)
  have k : ∀ b o, h.get? b = some o → ((h.push emptyDict).push (instObj C h.objs.size)).get? b = some o := fun b o e => Heap.get?_push_of_some _ (Heap.get?_push_of_some _ e)
  have hx : ((h.push emptyDict).push (instObj C h.objs.size)).get? (h.objs.size + 1) = some (instObj C h.objs.size) := by heap_get
  have t1 : Looks (model prog w) ((h.push emptyDict).push (instObj C h.objs.size)) (typeOf (.ref (h.objs.size + 1))) (.ref C) := (Looks.ld hx).andThen .now
  have s1 := self.keeps k
  have i1 := hi.keeps k
  have b1 := (hb (.ref (h.objs.size + 1))).keeps k
  unfold isInstance callSpecial? specialOf
  repeat (first | with_reducible refine Mine.wpAny_bind ?_ | with_reducible refine Mine.wpAny_pure ?_ | with_reducible refine Mine.wpAny_holding ?_ | with_reducible refine Mine.wpAny_onRaise ?_ | with_reducible refine Mine.wpAny_call ?_ | (with_reducible refine Mine.wpAny_ifF ?_ ?_; (first | rfl | kernel_rfl | assumption)) | (with_reducible refine Mine.wpAny_ifT ?_ ?_; (first | rfl | kernel_rfl | assumption)) | (with_reducible show Mine.wpAny _ _ _ _ _ _; dsimp only) | with_reducible refine Mine.lift ?_ | lk)
  refine codeAny_mono hq fun r s' z => ?_
  rcases r with e | (v | _ | _ | _) <;> first | exact z | exact z.elim | skip
  obtain ⟨rfl, z⟩ := z
  exact wpAny_pure (wpAny_pure z)
end
end Mine

end
section
open PySem PySem.W PyProof.Rows PySem.Calls
set_option linter.unusedVariables false
namespace Mine
open PySem.Challenge (pw_xm0629_01 rw_xm0629_01)

/-! ## The head over the restricted calculus: the caller's thread has no codec on its stack -/
theorem caller_ok : okC (⟨.builtin "claim.caller" {}, none, none, [], none⟩ : Ctx) := ⟨by decide +kernel, fun x hx => (nomatch hx)⟩
theorem wp_of_done {M : Model} {A : Around} {Γ : Ctx} {t : Sem Fin} {R : Result → Shared → Prop} {s : Shared} (hin : Γ.In A) (ho : okC Γ)
    (h : wpAny M A t (fun fin s' => ∃ f, fin = .done f ∧ R (.ok f) s') (fun e s' => R (.error e) s') s) (p : Pos) :
    Sem.wp M Γ t (Sem.finPost M Γ R) (fun e _ s' => R (.error e) s') p s := by
  refine Sem.wp_mono M Γ t (fun fin p' s' h' => ?_) (fun _ _ _ h' => h') p s (h Γ p hin ho)
  obtain ⟨f, rfl, hf⟩ := h'
  exact hf
theorem thread_ends {prog : Program} {w : World} {t : Sem Fin} {s : Shared} {R : Result → Shared → Prop} (hreg : s.asleep)
    (h : wpAny (model prog w) callerA t (fun fin s' => ∃ f, fin = .done f ∧ (R (.ok f) s' ∧ leftWithCleanup s'.gens = false)) (fun e s' => R (.error e) s' ∧ leftWithCleanup s'.gens = false) s) :
    ∃ n r s' s'', runN (denote table) prog w n s ⟨t, .builtin "claim.caller" {}, default, []⟩ = .halted (outcomeOf r) s' ∧
      schedN (denote table) prog w n (.single s ⟨t, .builtin "claim.caller" {}, default, []⟩) = .halted (outcomeOf r) s' ∧ s'.forget = s''.forget ∧ R r s'' := by
  obtain ⟨n, r, s₁, s₂, hs, hn, hfo, hR⟩ := wp_halts_full (M := model prog w) (R := R) hreg (wp_of_done (R := fun r s' => R r s' ∧ leftWithCleanup s'.gens = false) caller_in caller_ok h default)
  exact ⟨n, r, s₂, s₁, hn, hs, hfo, hR⟩
theorem callFrom_of {c : ClaimW} {tree : List Value → Sem Fin} {w : World} {s : Shared} {free : Addr → Prop} {gens : Prop} {kept : Heap → Prop} (hz : s.asleep) (hgens : s.gens = #[])
    (hspec : ∀ args, c.pre args = true → WData.layableAll args = true →
      ∀ ord : List DictEntry → List DictEntry, (∀ l, (ord l).Perm l) →
      ∃ vs s₁, layAllW c.records (classAt s.heap) w.params ord args s = some (vs, s₁) ∧
        wpAny (model c.prog w) callerA (tree vs) (fun fin s' => ∃ f, fin = .done f ∧ (c.Ends s args vs s₁ (.ok f) s' ∧ s'.os = s.os ∧ AllBare s'.gens ∧ kept s'.heap))
          (fun e s' => c.Ends s args vs s₁ (.error e) s' ∧ s'.os = s.os ∧ AllBare s'.gens ∧ kept s'.heap) s₁) :
    c.CallFrom (fun vs => ⟨tree vs, .builtin "claim.caller" {}, default, []⟩) w free gens kept s := by
  intro args hpre hlay ord hord
  obtain ⟨vs, s₁, hlaid, hcode⟩ := hspec args hpre hlay ord hord
  have hal := layAllW_rest _ _ _ hlaid
  obtain ⟨k, r, s', s'', hrun, hsched, hfo, hcase, hos, hkp⟩ := thread_ends (prog := c.prog) (w := w) (t := tree vs) (s := s₁)
    (R := fun r s' => c.Ends s args vs s₁ r s' ∧ s'.os = s.os ∧ kept s'.heap)
    (Shared.asleep_of_life hal.2.2.2 hz)
    (wpAny_mono hcode (by
      rintro fin s' ⟨f, e, h1, h2, h3, h4⟩
      exact ⟨f, e, ⟨h1, h2, h4⟩, leftWithCleanup_false_of_bare h3⟩) (by
      rintro e s' ⟨h1, h2, h3, h4⟩
      exact ⟨⟨h1, h2, h4⟩, leftWithCleanup_false_of_bare h3⟩))
  obtain ⟨eh, _, _, eo, _⟩ := Shared.forget_eq hfo
  have hcase := hcase.congr eh
  have hkp : kept s'.heap := by first | exact eh ▸ hkp | (rw [eh] at hkp; exact hkp) | (rw [← eh] at hkp; exact hkp)
  rw [← eo] at hos
  have hlife : s'.heap.life = s.heap.life := (runN_life _ _ _ hrun).trans hal.2.2.2
  refine ⟨vs, s₁, hlaid, k, _, s', hsched, ?_, (fun _ i x hx => by rw [hgens] at hx; simp at hx), hkp, by rw [hlife], Shared.rest_eq hos⟩
  rcases hcase with ⟨v, rfl, d1, d2, d3, d4, d5⟩ | ⟨e, ob, cls, rfl, d1, d2, d3, d4, d5⟩
  · exact .inl ⟨v, rfl, d1, d2, d3, fun b o y _ => d4 b o y, d5⟩
  · exact .inr ⟨e, ob, cls, rfl, d1, d2, d3, d4, fun b o y _ => d5 b o y⟩

section
variable {r : OpenRow} {q : Program} {loose : List Str} {Xt : Shared → Bool} {XP : (Str → Option Value) → Heap → Prop} {α : Type} {Yf : Shared → α} {Ya : World → α} {YP : World → Heap → Prop} {d : DefRec} {kwd : List (Str × Expr)} {N : Nat}
/-- what the law's walk owes -/
noncomputable abbrev WalkR (q : Program) (loose : List Str) (XP : (Str → Option Value) → Heap → Prop) (YP : World → Heap → Prop) (r : RowW) (d : DefRec) : Prop :=
  ∀ (w : World) (s₀ s₁ : Shared) (mg mb : Str → Option Value), Ground q loose r.records XP w s₀ mg mb s₁.heap → YP w s₁.heap → ∀ (a : Addr) (o : Obj) (pm cd doc dV kV : Value), s₁.heap.get? a = some o →
    o.data = .func { docDef d.name d.params d.body d.scope pm cd doc with defaults := dV, kwdefaults := kV } → s₁.heap.CodeRec cd d.name → mg d.name = some (.ref a) → s₁.gens = #[] →
    ∀ (args : List WData) (vals : List Value) (as : List Addr), r.claim.pre args = true → WData.layableAll args = true → ReadsAllW r.records (classAt s₀.heap) s₁.heap vals args as →
      wpAny (model r.prog w) callerA (PySem.call (.ref a) vals) (fun v s' => GoodWG r.claim (classAt s₀.heap) (ExcName.means s₀.heap) args s₁ (.ok (.ret v)) s')
        (fun e s' => GoodWG r.claim (classAt s₀.heap) (ExcName.means s₀.heap) args s₁ (.error e) s') s₁
theorem holds_R
    (left : LeftO r.prog q loose Xt Yf Ya N) (hY : ∀ w s, Yf s = Ya w → YP w s.heap) (hYk : ∀ w h h', YP w h → (∀ b o, h.get? b = some o → h'.get? b = some o) → YP w h')
    (hX : ∀ s, Xt s = true → XP (s.heap.nsMap mainGlobals) s.heap) (hXk : ∀ mg h h', XP mg h → (∀ b o, h.get? b = some o → h'.get? b = some o) → XP mg h')
    (hdef : defOf q r.name = some (d, kwd)) (hp : r.prog.theDef r.name = some (d.params, d.body, d.scope)) (hk : kwWritten? d.params.kwonlyargs d.params.kw_defaults = some kwd) (hRf : ∀ s, Xt s = true → RecFacts r.records s.heap) (hwr : (!r.writes || r.records.isEmpty) = true)
    (k1 : r.wellSaid = true) (ok : (chainsOk q && opensWell r.prog && (frees r.toRowW && r.within.isEmpty)) = true) (hb : r.prog.bare) (hw : r.toRowW.promised)
    (call : WalkR q loose XP YP r.toRowW d) : r.Holds := by
  refine ⟨k1, hw, ?_⟩
  obtain ⟨ok, k5⟩ := Bool.and_eq_true_iff.mp ok
  obtain ⟨hch, o1⟩ := Bool.and_eq_true_iff.mp ok
  obtain ⟨k5, k6⟩ := Bool.and_eq_true_iff.mp k5
  obtain ⟨hsame, hu, ha, hap, hm⟩ := frees_parts k5
  refine ⟨⟨hb, o1, by show r.makers.map _ = []; rw [hm]; rfl⟩, hw.witness, fun w => ⟨(left.behind hX hch w).1, fun s' hs' => ?_⟩⟩
  obtain ⟨s₀, hf, hg0, s, hT, hz, hgens, hg, G00, y⟩ := (left.behind (XP := fun mg h => XP mg h ∧ RecFacts r.records h) (fun s hs => ⟨hX s hs, hRf s hs⟩) hch w).2 s' hs'
  have G0 : Ground q loose [] XP w s (s.heap.nsMap mainGlobals) (s.heap.nsMap builtinsNs) s.heap := ⟨G00.T, G00.B, G00.D, G00.TE, G00.TD, G00.W, G00.X.1, G00.cls, G00.has, G00.apart, G00.once, G00.K⟩
  have RF := G00.X.2
  have hT' := hT
  have pin : ∀ n ∈ (if r.pinned then [r.name] else []), isTheDefsW r.prog s.heap n := fun n hn => by
    obtain rfl : n = r.name := by split at hn <;> simp_all
    exact pinned_of_view hg G0 hdef hp hk
  refine ⟨s₀, hf, hg0, s, hT, pin, RF.1, RF.2.1, ?_⟩
  have hgens : s.gens = #[] := Array.eq_empty_of_size_eq_zero (beq_iff_eq.mp hgens)
  have G : Ground q loose r.records XP w s _ _ s.heap := RF.ground G0
  refine callFrom_of (c := r.toRowW.claim) hz hgens fun args hpre hlay ord hord => ?_
  obtain ⟨⟨vs, s₁⟩, hlaid⟩ := Option.isSome_iff_exists.mp (layAllW_isSome (P := w.params) (ord := ord) G.has args r.toRowW.args s (pre_splitW hpre).1)
  have keeps := layAllW_keeps _ _ _ hlaid
  have hal := layAllW_rest _ _ _ hlaid
  obtain ⟨as, hrd, hin, hold⟩ := reads_layAllW hord _ _ _ hlaid hlay s₁.heap (fun _ _ e => e)
  have L : Laid r.toRowW.records w s s₁ args vs as := ⟨⟨ord, hord, hlaid⟩, hrd, hin, hold, keeps, hal.1.trans hgens, hal.2.2.1⟩
  have G₁ := G.keeps hXk keeps
  have Y₁ := hYk _ _ _ (hY w s y) keeps
  have hi := ident_freeW hu ha hap
  have hwi : r.toRowW.claim.within = [] := List.isEmpty_iff.mp k6
  obtain ⟨a, o, pm, cd, doc, dV, kV, h1, h2, h3, h4, h5⟩ := G₁.fn hdef
  have h := call w s s₁ _ _ G₁ Y₁ a o pm cd doc dV kV h2 h3 h4 (defOf_name hdef ▸ h1) L.gens args vs as hpre hlay L.reads
  refine ⟨vs, s₁, hlaid, ?_⟩
  refine wpAny_bind (lift (wpAny_nsGet G₁.T.g ?_))
  rw [show (s.heap.nsMap mainGlobals) r.name = some (.ref a) from h1]
  refine wpAny_bind (wpAny_mono h (fun v s' g => wpAny_pure ?_) fun e s' g => ?_)
  · have z := g.laid (c := r.toRowW.claim) hsame hwi hi L
    exact ⟨_, rfl, z.1, z.2.1, z.2.2, fun q => ⟨namesKept_of hT' hg _ keeps g.2.1.old, noTable hwr q⟩⟩
  · have z := g.laid (c := r.toRowW.claim) hsame hwi hi L
    exact ⟨z.1, z.2.1, z.2.2, fun q => ⟨namesKept_of hT' hg _ keeps g.2.1.old, noTable hwr q⟩⟩
end

theorem head3 (walk : WalkR (lawOnly pw_xm0629_01) (others pw_xm0629_01) (XL (lawOnly pw_xm0629_01) []) YP rw_xm0629_01.row.toRowW dLaw) : rw_xm0629_01.Holds := by
  refine holds_law said0 fun said => ?_
  refine holds_R (q := lawOnly pw_xm0629_01) (loose := others pw_xm0629_01) (Xt := fun s => xlAt (lawOnly pw_xm0629_01) [] s) (XP := XL (lawOnly pw_xm0629_01) []) (Yf := Yf) (Ya := Ya) (YP := YP) (N := 4700)
    left YP_of YP.keeps (fun s e => xl_of s e) XL.keeps hdef hp hk (fun s _ => recFacts_nil rfl) rfl (by assumption) (by decide +kernel) ⟨rfl, rfl, rfl, rfl, rfl, by decide +kernel⟩ ?hw walk
  w_witness2
end Mine

end
section
open PySem PySem.W PyProof.Rows
set_option maxHeartbeats 4000000
set_option linter.unusedVariables false
namespace Mine
open PySem.Challenge (pw_xm0629_01 rw_xm0629_01)

/-! ## A small theory of values and objects -/
inductive MV where
  | none
  | bool (b : Bool)
  | int (i : Int)
  | bytes (b : List UInt8)
  | ref (a : Addr)
  | str (x : Str)
  | other (v : Value)

inductive MObj where
  | inst (C dx : Addr)
  | ns (fs : List (Str × MV))
  | list (xs : List MV)
  | tuple (xs : List MV)
  | barr (b : List UInt8)
  | cell (v : Option MV)
  | raw (o : Obj)

noncomputable abbrev St := Addr → Option MObj
noncomputable def St.upd (σ : St) (a : Addr) (o : MObj) : St := fun b => if b = a then some o else σ b
@[simp] theorem St.upd_same (σ : St) (a : Addr) (o : MObj) : σ.upd a o a = some o := by simp [St.upd]
theorem St.upd_ne {σ : St} {a b : Addr} {o : MObj} (h : b ≠ a) : σ.upd a o b = σ b := by simp [St.upd, h]
theorem St.upd_upd (σ : St) (a : Addr) (o o' : MObj) : (σ.upd a o).upd a o' = σ.upd a o' := by
  funext b; simp only [St.upd]; split <;> rfl
theorem St.upd_get {σ : St} {a b : Addr} {o : MObj} : σ.upd a o b = if b = a then some o else σ b := rfl

noncomputable def VR : MV → Value → Prop
  | .none, v => v = .none
  | .bool b, v => v = .bool b
  | .int i, v => ∃ t, v = .int i t
  | .bytes b, v => ∃ t, v = .bytes b.toArray t
  | .ref a, v => v = .ref a
  | .str x, v => ∃ t, v = .str x t
  | .other x, v => v = x

noncomputable def VRs : List MV → List Value → Prop
  | [], [] => True
  | x :: xs, v :: vs => VR x v ∧ VRs xs vs
  | _, _ => False
theorem VRs.length {xs : List MV} {vs : List Value} (h : VRs xs vs) : xs.length = vs.length := by
  induction xs generalizing vs with
  | nil => cases vs with
    | nil => rfl
    | cons v vs => exact h.elim
  | cons x xs ih => cases vs with
    | nil => exact h.elim
    | cons v vs => rw [List.length_cons, List.length_cons, ih h.2]
theorem VRs.append {xs ys : List MV} {vs us : List Value} (h : VRs xs vs) (k : VRs ys us) : VRs (xs ++ ys) (vs ++ us) := by
  induction xs generalizing vs with
  | nil => cases vs with
    | nil => exact k
    | cons v vs => exact h.elim
  | cons x xs ih => cases vs with
    | nil => exact h.elim
    | cons v vs => exact ⟨h.1, ih h.2⟩
theorem VRs.get {xs : List MV} {vs : List Value} {i : Nat} {x : MV} (h : VRs xs vs) (e : xs[i]? = some x) : ∃ v, vs[i]? = some v ∧ VR x v := by
  induction xs generalizing vs i with
  | nil => simp at e
  | cons y xs ih => cases vs with
    | nil => exact h.elim
    | cons v vs => cases i with
      | zero => simp at e; subst e; exact ⟨v, rfl, h.1⟩
      | succ i =>
        simp at e
        obtain ⟨u, a, b⟩ := ih h.2 e
        exact ⟨u, by simpa using a, b⟩
theorem VRs.set {xs : List MV} {vs : List Value} {i : Nat} {x : MV} {v : Value} (h : VRs xs vs) (k : VR x v) : VRs (xs.set i x) (vs.set i v) := by
  induction xs generalizing vs i with
  | nil => cases vs with
    | nil => exact h
    | cons v vs => exact h.elim
  | cons y xs ih => cases vs with
    | nil => exact h.elim
    | cons w vs => cases i with
      | zero => exact ⟨k, h.2⟩
      | succ i => exact ⟨h.1, ih h.2⟩

noncomputable def ORel : Option MV → Option Value → Prop
  | none, none => True
  | some x, some v => VR x v
  | _, _ => False

/-- the names of a frame or of an object: a list; what counts is the look-up -/
noncomputable def put (x : Str) (v : MV) : List (Str × MV) → List (Str × MV)
  | [] => [(x, v)]
  | (y, u) :: r => if x = y then (y, v) :: r else (y, u) :: put x v r
noncomputable def look (x : Str) : List (Str × MV) → Option MV
  | [] => none
  | (y, u) :: r => if x = y then some u else look x r
theorem look_put (x y : Str) (v : MV) : ∀ fs : List (Str × MV), look y (put x v fs) = if y = x then some v else look y fs
  | [] => by simp [put, look]
  | (z, u) :: r => by
    unfold put
    by_cases h : x = z
    · subst h
      rw [if_pos rfl]
      simp only [look]
      by_cases h2 : y = x <;> simp [h2]
    · rw [if_neg h]
      simp only [look]
      by_cases h2 : y = z
      · subst h2
        rw [if_pos rfl, if_neg (fun e => h e.symm), if_pos rfl]
      · rw [if_neg h2, look_put x y v r, if_neg h2]

noncomputable def NsR (h : Heap) (a : Addr) (fs : List (Str × MV)) : Prop := ∃ m, h.Ns a m ∧ ∀ x, ORel (look x fs) (m x)

noncomputable def keysS (es : List DictEntry) : Prop := ∀ e ∈ es, ∃ n t, e.key = .str n t
noncomputable def findL (x : Str) (es : List DictEntry) : Option Value := (es.find? fun e => e.key.isStr x).map (·.val)
/-- an object's own dict -/
noncomputable def NsI (h : Heap) (a : Addr) (fs : List (Str × MV)) : Prop := ∃ es n, h.get? a = some (dictOf es n) ∧ keysS es ∧ es.length ≤ fs.length ∧ ∀ x, ORel (look x fs) (findL x es)
/-- an object of the heap bears a small object -/
noncomputable def Rep (h : Heap) (a : Addr) : MObj → Prop
  | .inst C dx => h.get? a = some ⟨.ref C, some dx, .plain, #[]⟩
  | .ns fs => NsI h a fs
  | .list xs => ∃ vs n, h.get? a = some ⟨.type "list", none, .seq vs.toArray n, #[]⟩ ∧ VRs xs vs
  | .tuple xs => ∃ vs n, h.get? a = some ⟨.type "tuple", none, .seq vs.toArray n, #[]⟩ ∧ VRs xs vs
  | .barr b => h.get? a = some ⟨.type "bytearray", none, .bytearray b.toArray 0, #[]⟩
  | .cell v => ∃ u, h.get? a = some ⟨.type "cell", none, .cell u, #[]⟩ ∧ ORel v u
  | .raw o => h.get? a = some o

theorem NsR.at {h h' : Heap} {a : Addr} {fs : List (Str × MV)} (r : NsR h a fs) (e : h'.get? a = h.get? a) : NsR h' a fs := by
  obtain ⟨m, ⟨o, es, ep, ho, r1⟩, r2⟩ := r
  exact ⟨m, ⟨o, es, ep, e.trans ho, r1⟩, r2⟩
theorem Rep.at {h h' : Heap} {a : Addr} {o : MObj} (r : Rep h a o) (e : h'.get? a = h.get? a) : Rep h' a o := by
  cases o <;> simp only [Rep, NsI] at r ⊢ <;> rw [e] <;> exact r
theorem Rep.lives {h : Heap} {a : Addr} {o : MObj} (r : Rep h a o) : ∃ ob, h.get? a = some ob := by
  cases o with
  | ns fs => obtain ⟨es, n, ho, _⟩ := r; exact ⟨_, ho⟩
  | list xs => obtain ⟨vs, n, e, _⟩ := r; exact ⟨_, e⟩
  | tuple xs => obtain ⟨vs, n, e, _⟩ := r; exact ⟨_, e⟩
  | cell v => obtain ⟨u, e, _⟩ := r; exact ⟨_, e⟩
  | inst C dx => exact ⟨_, r⟩
  | barr b => exact ⟨_, r⟩
  | raw o => exact ⟨_, r⟩

/-- the frozen part of the heap -/
noncomputable abbrev Fz := Addr → Option Obj

/-- the heap is the frozen part and the small state -/
structure Rel0 (G : Fz) (σ : St) (h : Heap) : Prop where
  keep : ∀ b o, G b = some o → h.get? b = some o
  obj : ∀ a o, σ a = some o → Rep h a o
  new : ∀ a o, σ a = some o → G a = none

structure Rel (G : Fz) (L : Addr) (ρ : List (Str × MV)) (σ : St) (h : Heap) : Prop extends Rel0 G σ h where
  ns : NsR h L ρ
  freshL : σ L = none
  offL : G L = none

theorem Rel0.lt {G : Fz} {σ : St} {h : Heap} (R : Rel0 G σ h) {a : Addr} {o : MObj} (e : σ a = some o) : a < h.objs.size := by
  obtain ⟨ob, ho⟩ := (R.obj a o e).lives
  exact Heap.lt_size ho
theorem NsR.lt {h : Heap} {a : Addr} {fs : List (Str × MV)} (r : NsR h a fs) : a < h.objs.size := by
  obtain ⟨m, hn, _⟩ := r; exact hn.lt
theorem Rel0.none_of_ge {G : Fz} {σ : St} {h : Heap} (R : Rel0 G σ h) {a : Addr} (e : h.objs.size ≤ a) : σ a = none := by
  cases q : σ a with
  | none => rfl
  | some o => exact absurd (R.lt q) (Nat.not_lt.mpr e)
theorem Rel0.G_none_of_ge {G : Fz} {σ : St} {h : Heap} (R : Rel0 G σ h) {a : Addr} (e : h.objs.size ≤ a) : G a = none := by
  cases q : G a with
  | none => rfl
  | some o => exact absurd (Heap.lt_size (R.keep _ _ q)) (Nat.not_lt.mpr e)

/-- one object is turned, all else stands -/
theorem Rel0.turn {G : Fz} {σ : St} {h h' : Heap} {a : Addr} {o o' : MObj} (R : Rel0 G σ h) (e : σ a = some o) (hs : ∀ b, b ≠ a → h'.get? b = h.get? b) (r : Rep h' a o') : Rel0 G (σ.upd a o') h' where
  keep b ob q := by
    have : b ≠ a := fun x => by have := R.new a o e; rw [← x, q] at this; cases this
    rw [hs b this]; exact R.keep b ob q
  obj b ob q := by
    by_cases hb : b = a
    · subst hb; simp at q; subst q; exact r
    · rw [St.upd_ne hb] at q; exact (R.obj b ob q).at (hs b hb)
  new b ob q := by
    by_cases hb : b = a
    · subst hb; exact R.new b o e
    · rw [St.upd_ne hb] at q; exact R.new b ob q
theorem Rel.turn {G : Fz} {L : Addr} {ρ : List (Str × MV)} {σ : St} {h h' : Heap} {a : Addr} {o o' : MObj} (R : Rel G L ρ σ h) (e : σ a = some o) (hs : ∀ b, b ≠ a → h'.get? b = h.get? b) (r : Rep h' a o') : Rel G L ρ (σ.upd a o') h' where
  toRel0 := R.toRel0.turn e hs r
  ns := R.ns.at (hs L fun x => by have := R.freshL; rw [x, e] at this; cases this)
  freshL := by rw [St.upd_ne fun x => by have := R.freshL; rw [x, e] at this; cases this]; exact R.freshL
  offL := R.offL

/-- the frame's names are turned -/
theorem Rel.names {G : Fz} {L : Addr} {ρ ρ' : List (Str × MV)} {σ : St} {h h' : Heap} (R : Rel G L ρ σ h) (hs : ∀ b, b ≠ L → h'.get? b = h.get? b) (r : NsR h' L ρ') : Rel G L ρ' σ h' where
  keep b ob q := by
    have : b ≠ L := fun x => by have := R.offL; rw [← x, q] at this; cases this
    rw [hs b this]; exact R.keep b ob q
  obj b ob q := by
    have : b ≠ L := fun x => by have := R.freshL; rw [← x, q] at this; cases this
    exact (R.obj b ob q).at (hs b this)
  new := R.new
  ns := r
  freshL := R.freshL
  offL := R.offL

/-- a new object -/
theorem Rel0.push {G : Fz} {σ : St} {h h' : Heap} {a : Addr} {o : MObj} (R : Rel0 G σ h) (ha : h.objs.size ≤ a) (hs : ∀ b o, h.get? b = some o → h'.get? b = some o) (r : Rep h' a o) : Rel0 G (σ.upd a o) h' where
  keep b ob q := hs _ _ (R.keep b ob q)
  obj b ob q := by
    by_cases hb : b = a
    · subst hb; simp at q; subst q; exact r
    · rw [St.upd_ne hb] at q
      have z := R.obj b ob q
      obtain ⟨oo, ho⟩ := z.lives
      exact z.at ((hs _ _ ho).trans ho.symm)
  new b ob q := by
    by_cases hb : b = a
    · subst hb; exact R.G_none_of_ge ha
    · rw [St.upd_ne hb] at q; exact R.new b ob q
theorem NsR.keeps {h h' : Heap} {a : Addr} {fs : List (Str × MV)} (r : NsR h a fs) (hs : ∀ b o, h.get? b = some o → h'.get? b = some o) : NsR h' a fs := by
  obtain ⟨m, hn, r2⟩ := r; exact ⟨m, hn.keeps hs, r2⟩
theorem Rel.push {G : Fz} {L : Addr} {ρ : List (Str × MV)} {σ : St} {h h' : Heap} {a : Addr} {o : MObj} (R : Rel G L ρ σ h) (ha : h.objs.size ≤ a) (hs : ∀ b o, h.get? b = some o → h'.get? b = some o) (r : Rep h' a o) : Rel G L ρ (σ.upd a o) h' where
  toRel0 := R.toRel0.push ha hs r
  ns := R.ns.keeps hs
  freshL := by
    have ne : L ≠ a := fun x => Nat.lt_irrefl _ (Nat.lt_of_lt_of_le (x ▸ R.ns.lt) ha)
    rw [St.upd_ne ne]; exact R.freshL
  offL := R.offL
/-- the heap grows by what no one speaks of -/
theorem Rel0.grow {G : Fz} {σ : St} {h h' : Heap} (R : Rel0 G σ h) (hs : ∀ b o, h.get? b = some o → h'.get? b = some o) : Rel0 G σ h' where
  keep b ob q := hs _ _ (R.keep b ob q)
  obj b ob q := by
    have z := R.obj b ob q
    obtain ⟨oo, ho⟩ := z.lives
    exact z.at ((hs _ _ ho).trans ho.symm)
  new := R.new
theorem Rel.grow {G : Fz} {L : Addr} {ρ : List (Str × MV)} {σ : St} {h h' : Heap} (R : Rel G L ρ σ h) (hs : ∀ b o, h.get? b = some o → h'.get? b = some o) : Rel G L ρ σ h' :=
  ⟨R.toRel0.grow hs, R.ns.keeps hs, R.freshL, R.offL⟩

/-- the frozen part with a frame -/
noncomputable def Fz.with (G : Fz) (L : Addr) (o : Option Obj) : Fz := fun b => if b = L then o else G b
theorem Rel.freeze {G : Fz} {L : Addr} {ρ : List (Str × MV)} {σ : St} {h : Heap} (R : Rel G L ρ σ h) : Rel0 (G.with L (h.get? L)) σ h where
  keep b o q := by
    unfold Fz.with at q
    split at q
    · rename_i e; subst e; exact q
    · exact R.keep b o q
  obj := R.obj
  new b o q := by
    unfold Fz.with
    rw [if_neg fun e => by have := R.freshL; rw [← e, q] at this; cases this]
    exact R.new b o q
theorem Rel.thaw {G : Fz} {L : Addr} {ρ : List (Str × MV)} {σ σ' : St} {h h' : Heap} (R : Rel G L ρ σ h) (R' : Rel0 (G.with L (h.get? L)) σ' h') : Rel G L ρ σ' h' where
  keep b o q := R'.keep b o (by unfold Fz.with; rw [if_neg fun e => by have := R.offL; rw [← e, q] at this; cases this]; exact q)
  obj := R'.obj
  new b o q := by
    have := R'.new b o q
    unfold Fz.with at this
    split at this
    · rename_i e; subst e; exact R.offL
    · exact this
  ns := by
    obtain ⟨m, ⟨o, es, ep, ho, r1⟩, r2⟩ := R.ns
    exact ⟨m, ⟨o, es, ep, R'.keep L o (by unfold Fz.with; rw [if_pos rfl, ho]), r1⟩, r2⟩
  freshL := by
    cases q : σ' L with
    | none => rfl
    | some o =>
      have := R'.new L o q
      unfold Fz.with at this
      rw [if_pos rfl] at this
      obtain ⟨m, ⟨o, es, ep, ho, r1⟩, r2⟩ := R.ns
      rw [ho] at this; cases this
  offL := R.offL
theorem Fz.with_le {G : Fz} {L : Addr} {o : Option Obj} (h : G L = none) : ∀ b x, G b = some x → G.with L o b = some x := fun b x q => by
  unfold Fz.with; rw [if_neg fun e => by rw [e, h] at q; cases q]; exact q
end Mine

end
section
open PySem PySem.W PyProof.Rows
set_option maxHeartbeats 4000000
set_option linter.unusedVariables false
namespace Mine
open PySem.Challenge (pw_xm0629_01 rw_xm0629_01)

/-! ## The world of the call, and triples -/
noncomputable def freeNames : List Str := ["len", "bytes", "bytearray", "range", "list", "isinstance", "ord", "enumerate"]
structure Wld (w : World) (h₀ : Heap) : Prop where
  Y : YP w h₀
  main : h₀.Ns mainGlobals (h₀.nsMap mainGlobals)
  bs : ∃ mb, h₀.Ns builtinsNs mb ∧ ∀ x : Str, x ≠ "__name__" → mb x = bootBuiltins x
  nolim : h₀.NoLimit
  free : ∀ x ∈ freeNames, h₀.nsMap mainGlobals x = none

noncomputable abbrev Nm := List (Str × MV)
/-- where a tree is run: the world, the heap behind the top, the calls left, the frame -/
structure Cx where
  w : World
  h₀ : Heap
  W : Wld w h₀
  n : Nat
  L : Addr
noncomputable abbrev Cx.K (c : Cx) : Frag := Kf pw_xm0629_01 c.w.params

noncomputable def GOk (h₀ : Heap) (G : Fz) : Prop := ∀ b o, h₀.get? b = some o → G b = some o
noncomputable def AOk (n : Nat) (A : Around) : Prop := A.depth + 4 * n + 4 < recursionLimit ∧ A.units + 16 * n + 16 < cLine ∧ A.handled = none
theorem AOk.mono {n m : Nat} {A : Around} (h : AOk n A) (hm : m ≤ n) : AOk m A := by
  obtain ⟨a, b, e⟩ := h; exact ⟨by omega, by omega, e⟩
theorem AOk.handled {n : Nat} {A : Around} (h : AOk n A) : A.handled = none := h.2.2
theorem AOk.units {n : Nat} {A : Around} (h : AOk n A) : A.units < cLine := by have := h.2.1; omega
theorem AOk.depth {n : Nat} {A : Around} (h : AOk n A) : A.depth < recursionLimit := by have := h.1; omega
theorem GOk.with {h₀ : Heap} {G : Fz} {L : Addr} {o : Option Obj} (g : GOk h₀ G) (h : G L = none) : GOk h₀ (G.with L o) := fun b x q => Fz.with_le h b x (g b x q)

theorem Rel0.stays {G : Fz} {σ : St} {h h₀ : Heap} (R : Rel0 G σ h) (g : GOk h₀ G) : ∀ b o, h₀.get? b = some o → h.get? b = some o := fun b o q => R.keep b o (g b o q)

/-- the tree ends in k -/
noncomputable def T {α β : Type} (V : β → α → Prop) (c : Cx) (t : Sem α) (ρ : Nm) (σ : St) (k : β → Nm → St → Prop) : Prop :=
  ∀ (G : Fz) (A : Around) (s : Shared) (E : Value → Shared → Prop) (Q : α → Shared → Prop), GOk c.h₀ G → AOk c.n A → Rel G c.L ρ σ s.heap →
    (∀ b a ρ' σ' h' t', k b ρ' σ' → V b a → Rel G c.L ρ' σ' h' → Q a ⟨h', s.gens, s.drawn, t', s.os⟩) → wpAny (model pw_xm0629_01 c.w) A t Q E s

noncomputable abbrev TV (c : Cx) (t : Sem Value) (ρ : Nm) (σ : St) (k : MV → Nm → St → Prop) : Prop := T VR c t ρ σ k
noncomputable abbrev TB (c : Cx) (t : Sem Bool) (ρ : Nm) (σ : St) (k : Bool → Nm → St → Prop) : Prop := T (fun a b => a = b) c t ρ σ k
noncomputable abbrev TU (c : Cx) (t : Sem Unit) (ρ : Nm) (σ : St) (k : Nm → St → Prop) : Prop := T (fun (_ : Unit) _ => True) c t ρ σ fun _ => k
noncomputable abbrev TL (c : Cx) (t : Sem (List Value)) (ρ : Nm) (σ : St) (k : List MV → Nm → St → Prop) : Prop := T VRs c t ρ σ k

inductive Fl where
  | next | brk | cont
  | ret (v : MV)
noncomputable def FR : Fl → Flow → Prop
  | .next, f => f = .next
  | .brk, f => f = .brk
  | .cont, f => f = .cont
  | .ret v, f => ∃ u, f = .ret u ∧ VR v u
noncomputable abbrev TX (c : Cx) (t : Sem Flow) (ρ : Nm) (σ : St) (k : Fl → Nm → St → Prop) : Prop := T FR c t ρ σ k

section
variable {α β γ δ : Type} {V : β → α → Prop} {V' : δ → γ → Prop} {c : Cx} {ρ : Nm} {σ : St}

theorem T.mono {t : Sem α} {k k' : β → Nm → St → Prop} (h : T V c t ρ σ k) (hk : ∀ b ρ' σ', k b ρ' σ' → k' b ρ' σ') : T V c t ρ σ k' :=
  fun G A s E Q hG hA hR hQ => h G A s E Q hG hA hR fun b a ρ' σ' h' t' q => hQ b a ρ' σ' h' t' (hk _ _ _ q)
theorem T_pure {a : α} {b : β} {k : β → Nm → St → Prop} (v : V b a) (h : k b ρ σ) : T V c (pure a) ρ σ k :=
  fun G A s E Q hG hA hR hQ => wpAny_pure (hQ b a ρ σ s.heap s.toks h v hR)
theorem T_bind {m : Sem α} {f : α → Sem γ} {k : δ → Nm → St → Prop} (h : T V c m ρ σ fun b ρ' σ' => ∀ a, V b a → T V' c (f a) ρ' σ' k) : T V' c (m >>= f) ρ σ k :=
  fun G A s E Q hG hA hR hQ => wpAny_bind (h G A s E _ hG hA hR fun b a ρ' σ' h' t' q v R' => q a v G A ⟨h', s.gens, s.drawn, t', s.os⟩ E Q hG hA R' hQ)
theorem T_holding {vs : List Value} {t : Sem α} {k : β → Nm → St → Prop} (h : T V c t ρ σ k) : T V c (holding vs t) ρ σ k :=
  fun G A s E Q hG hA hR hQ => wpAny_holding (h G A s E Q hG hA hR hQ)
theorem T_at {pos : Pos} {t : Sem α} {k : β → Nm → St → Prop} (h : T V c t ρ σ k) : T V c (standAt pos >>= fun _ => t) ρ σ k :=
  fun G A s E Q hG hA hR hQ => wpAny_bind (wpAny_standAt (h G A s E Q hG hA hR hQ))
theorem T_point {k : β → Nm → St → Prop} {t : Sem α} (h : T V c t ρ σ k) : T V c (point >>= fun _ => t) ρ σ k :=
  fun G A s E Q hG hA hR hQ => wpAny_bind (wpAny_point (h G A s E Q hG hA hR hQ))
theorem T_rule {tag : String} {t : Sem α} {k : β → Nm → St → Prop} (h : T V c t ρ σ k) : T V c (rule tag >>= fun _ => t) ρ σ k :=
  fun G A s E Q hG hA hR hQ => wpAny_bind (wpAny_rule (h G A s E Q hG hA hR hQ))
theorem T_release {vs keep : List Value} {t : Sem α} {k : β → Nm → St → Prop} (h : T V c t ρ σ k) : T V c (release vs keep >>= fun _ => t) ρ σ k :=
  fun G A s E Q hG hA hR hQ => wpAny_bind (wpAny_release' (h G A s E Q hG hA hR hQ))
theorem T_onRaise {t : Sem α} {hd : Value → Sem Unit} {k : β → Nm → St → Prop} (h : T V c t ρ σ k) : T V c (t.onRaise hd) ρ σ k :=
  fun G A s E Q hG hA hR hQ => wpAny_onRaise (h G A s _ Q hG hA hR hQ)
theorem T_keep {vs : List Value} {t : Sem α} {k : β → Nm → St → Prop} (h : T V c t ρ σ k) : T V c (t.keep vs) ρ σ k :=
  fun G A s E Q hG hA hR hQ => wpAny_keep (h G A s E Q hG hA hR hQ)
theorem T_ite {b : Prop} [Decidable b] {t u : Sem α} {k : β → Nm → St → Prop} (h : if b then T V c t ρ σ k else T V c u ρ σ k) : T V c (if b then t else u) ρ σ k := by
  split <;> simp_all
/-- a tree that only looks -/
theorem T_looks {t : Sem γ} {r : γ} {f : γ → Sem α} {k : β → Nm → St → Prop} (hl : ∀ h : Heap, (∀ b o, c.h₀.get? b = some o → h.get? b = some o) → Looks (model pw_xm0629_01 c.w) h t r) (h : T V c (f r) ρ σ k) : T V c (t >>= f) ρ σ k :=
  fun G A s E Q hG hA hR hQ => wpAny_bind (lift ((hl s.heap (hR.toRel0.stays hG)).here (h G A s E Q hG hA hR hQ)))
end

theorem T_operate {c : Cx} {ρ : Nm} {σ : St} {vs : List Value} {m : Sem Value} {k : MV → Nm → St → Prop} (h : TV c m ρ σ k) : TV c (operate vs m) ρ σ k :=
  fun G A s E Q hG hA hR hQ => wpAny_operate' (h G A s E Q hG hA hR hQ)
theorem T_mkInt {c : Cx} {ρ : Nm} {σ : St} {i : Int} {k : MV → Nm → St → Prop} (h : k (.int i) ρ σ) : TV c (mkInt i) ρ σ k :=
  fun G A s E Q hG hA hR hQ => wpAny_mkInt (hQ _ _ _ _ _ _ h ⟨_, rfl⟩ hR)

/-! ### names -/
section
variable {c : Cx} {ρ : Nm} {σ : St} {env : Env}

theorem T_Name_local {x : Str} {pos : Pos} {v : MV} {k : MV → Nm → St → Prop} (hL : env.locals = c.L) (hk : env.scope.kind = .function) (hl : env.kindOf x = some .local) (hd : (x == ("__debug__" : Str)) = false)
    (hv : look x ρ = some v) (h : k v ρ σ) : TV c (eval (.Name x pos) env) ρ σ k := fun G A s E Q hG hA hR hQ => by
  obtain ⟨m, hn, hm⟩ := hR.ns
  have q := hm x
  rw [hv] at q
  cases e : m x with
  | none => rw [e] at q; exact q.elim
  | some u =>
    rw [e] at q
    exact lift (wpAny_Name (wpAny_loadName_local hk hl (hL ▸ hn) e (hQ _ _ _ _ _ _ h q hR)) hd)

theorem T_loadName_local {x : Str} {v : MV} {k : MV → Nm → St → Prop} (hL : env.locals = c.L) (hk : env.scope.kind = .function) (hl : env.kindOf x = some .local)
    (hv : look x ρ = some v) (h : k v ρ σ) : TV c (loadName env x) ρ σ k := fun G A s E Q hG hA hR hQ => by
  obtain ⟨m, hn, hm⟩ := hR.ns
  have q := hm x
  rw [hv] at q
  cases e : m x with
  | none => rw [e] at q; exact q.elim
  | some u =>
    rw [e] at q
    exact lift (wpAny_loadName_local hk hl (hL ▸ hn) e (hQ _ _ _ _ _ _ h q hR))

theorem T_Name_cell {x : Str} {pos : Pos} {a : Addr} {v : MV} {k : MV → Nm → St → Prop} (hk : env.scope.kind = .function) (hl : env.kindOf x = some .cell ∨ env.kindOf x = some .free) (hd : (x == ("__debug__" : Str)) = false)
    (hcd : (x == ("__classdict__" : Str)) = false) (hc : env.cells.lookup x = some a) (hv : σ a = some (.cell (some v))) (h : k v ρ σ) : TV c (eval (.Name x pos) env) ρ σ k := fun G A s E Q hG hA hR hQ => by
  obtain ⟨u, e, q⟩ := hR.obj a _ hv
  cases u with
  | none => exact q.elim
  | some u =>
    have hcell : s.heap.IsCell a (some u) := ⟨_, e, rfl⟩
    rcases hl with hl | hl
    · exact lift (wpAny_Name (wpAny_loadName_cell hk hl hc hcell (hQ _ _ _ _ _ _ h q hR)) hd)
    · exact lift (wpAny_Name (wpAny_loadName_free hk hl hc hcell (hQ _ _ _ _ _ _ h q hR) hcd) hd)

/-- a global's small value -/
noncomputable def GV (v : MV) (u : Value) : Prop := VR v u
theorem T_Name_global {x : Str} {pos : Pos} {u : Value} {v : MV} {k : MV → Nm → St → Prop} (hg : env.globals = mainGlobals) (hk : env.scope.kind = .function) (hl : env.kindOf x = some .globalImplicit) (hd : (x == ("__debug__" : Str)) = false)
    (hv : gl.lookup x = some u) (hvu : VR v u) (h : k v ρ σ) : TV c (eval (.Name x pos) env) ρ σ k := fun G A s E Q hG hA hR hQ => by
  have hst := hR.toRel0.stays hG
  have hm : (x, u) ∈ gl := by
    clear hl hd hQ hk
    revert hv
    induction gl with
    | nil => intro hv; cases hv
    | cons p r ih =>
      obtain ⟨y, z⟩ := p
      intro hv
      rw [List.lookup_cons] at hv
      by_cases e : x == y
      · rw [e] at hv; cases hv; cases (beq_iff_eq.mp e); exact .head _
      · simp only [e] at hv; exact .tail _ (ih hv)
  have e := c.W.Y.names _ hm
  exact lift (Calls.Name_function_global hk hl (Calls.loadGlobal_global (hg ▸ c.W.main.keeps hst) e (hQ _ _ _ _ _ _ h hvu hR)) hd)
theorem T_Name_builtin {x : Str} {pos : Pos} {u : Value} {k : MV → Nm → St → Prop} (hg : env.globals = mainGlobals) (hb : env.builtins = builtinsNs) (hk : env.scope.kind = .function) (hl : env.kindOf x = some .globalImplicit)
    (hd : (x == ("__debug__" : Str)) = false) (hn : x ≠ "__name__") (hmiss : c.h₀.nsMap mainGlobals x = none) (hv : bootBuiltins x = some u) (h : k (.other u) ρ σ) : TV c (eval (.Name x pos) env) ρ σ k := fun G A s E Q hG hA hR hQ => by
  have hst := hR.toRel0.stays hG
  obtain ⟨mb, b1, b2⟩ := c.W.bs
  exact lift (Calls.Name_function_global hk hl (Calls.loadGlobal_builtin (hg ▸ c.W.main.keeps hst) hmiss (hb ▸ b1.keeps hst) ((b2 x hn).trans hv) (hQ _ _ _ _ _ _ h rfl hR)) hd)

/-- a local name is stored -/
theorem NsR_put {h h' : Heap} {a : Addr} {fs : Nm} {x : Str} {v : MV} {u : Value} (r : NsR h a fs) (hv : VR v u) (hn : ∀ m, h.Ns a m → h'.Ns a (fun y => if y = x then some u else m y)) : NsR h' a (put x v fs) := by
  obtain ⟨m, n, hm⟩ := r
  refine ⟨_, hn m n, fun y => ?_⟩
  rw [look_put]
  by_cases e : y = x
  · simp only [e, if_true]; exact hv
  · simp only [e, if_false]; exact hm y
theorem T_store_local {x : Str} {v : MV} {u : Value} {k : Nm → St → Prop} (hL : env.locals = c.L) (hk : env.scope.kind = .function) (hl : env.kindOf x = some .local) (hv : VR v u) (h : k (put x v ρ) σ) :
    TU c (storeName env x u) ρ σ k := fun G A s E Q hG hA hR hQ => by
  have hR' := hR
  obtain ⟨m, hn, hm⟩ := hR.ns
  refine lift (wpAny_storeName_local hl (hL ▸ hn) (fun h' hn' hs => ?_) (by rw [hk]; rfl))
  refine hQ () () (put x v ρ) σ h' _ h trivial (hR'.names (fun b hb => hs.2 b (hL ▸ hb)) ⟨_, hL ▸ hn', fun y => ?_⟩)
  rw [look_put]
  by_cases e : y = x
  · simp only [e, if_true]; exact hv
  · simp only [e, if_false]; exact hm y
theorem T_bindName {x : Str} {u : Value} {k : Nm → St → Prop} (h : TU c (storeName env x u) ρ σ k) : TU c (bindName env x u) ρ σ k :=
  fun G A s E Q hG hA hR hQ => wpAny_bindName (h G A s E Q hG hA hR hQ)
theorem T_store_cell {x : Str} {a : Addr} {v₀ : Option MV} {v : MV} {u : Value} {k : Nm → St → Prop} (hk : env.scope.kind = .function) (hl : env.kindOf x = some .cell) (hc : env.cells.lookup x = some a)
    (hv₀ : σ a = some (.cell v₀)) (hv : VR v u) (h : k ρ (σ.upd a (.cell (some v)))) : TU c (storeName env x u) ρ σ k := fun G A s E Q hG hA hR hQ => by
  obtain ⟨u₀, e, q⟩ := hR.obj a _ hv₀
  unfold storeName
  simp only [hl, hk]
  refine lift (PySem.wpAny_bind (wpAny_cellOf hc ?_))
  unfold cellSet
  refine PySem.wpAny_bind (PySem.wpAny_load e ?_)
  refine wpAny_update e ?_
  refine hQ () () _ _ _ _ h trivial (hR.turn hv₀ (fun b hb => Heap.get?_update_ne _ _ _ _ hb) ⟨some u, Heap.get?_update_self _ e rfl, hv⟩)
end
end Mine

end
section
open PySem PySem.W PyProof.Rows
set_option maxHeartbeats 4000000
set_option linter.unusedVariables false
namespace Mine
open PySem.Challenge (pw_xm0629_01 rw_xm0629_01)

/-- an expression's end: the names stand -/
noncomputable abbrev kE (ρ : Nm) (k : MV → St → Prop) : MV → Nm → St → Prop := fun v ρ' σ' => ρ' = ρ ∧ k v σ'
noncomputable abbrev kB (ρ : Nm) (k : Bool → St → Prop) : Bool → Nm → St → Prop := fun v ρ' σ' => ρ' = ρ ∧ k v σ'

/-! ## Operators on ints and bytes -/
noncomputable def addK (a b : MV) (σ : St) (k : MV → St → Prop) : Prop :=
  match a, b with
  | .int i, .int j => k (.int (i + j)) σ
  | .bytes x, .bytes y => x.length + y.length ≤ 16777216 ∧ k (.bytes (x ++ y)) σ
  | .ref x, .ref y => ∃ xs ys, σ x = some (.list xs) ∧ σ y = some (.list ys) ∧ xs.length + ys.length ≤ 1000000 ∧ ∀ r, σ r = none → k (.ref r) (σ.upd r (.list (xs ++ ys)))
  | _, _ => False
noncomputable def intK (a b : MV) (f : Int → Int → Prop) : Prop :=
  match a, b with
  | .int i, .int j => f i j
  | _, _ => False
noncomputable def binK (op : Operator) (a b : MV) (σ : St) (k : MV → St → Prop) : Prop :=
  match op with
  | .Add => addK a b σ k
  | .Sub => intK a b fun i j => k (.int (i - j)) σ
  | .Mult => intK a b fun i j => Builtin.Int.intBits i ≤ 64 ∧ k (.int (i * j)) σ
  | .Mod => intK a b fun i j => 0 < j ∧ k (.int (i % j)) σ
  | .LShift => intK a b fun i j => (0 ≤ j ∧ j ≤ 1000000 ∧ i.natAbs < 2 ^ 64) ∧ k (.int (i * 2 ^ j.toNat)) σ
  | .BitAnd => intK a b fun i j => k (.int (Builtin.bitAnd i j)) σ
  | _ => False
theorem intK_ok {a b : MV} {f : Int → Int → Prop} (h : intK a b f) : ∃ i j, a = .int i ∧ b = .int j ∧ f i j := by
  unfold intK at h
  split at h
  · exact ⟨_, _, rfl, rfl, h⟩
  · exact h.elim

section
variable {c : Cx} {ρ : Nm} {σ : St}
/-- a step that makes a value and takes some marks -/
theorem T_ofVal {t : Sem Value} {v : MV} {k : MV → Nm → St → Prop} (h : k v ρ σ)
    (ht : ∀ (A : Around) (s : Shared) (E : Value → Shared → Prop) (Q : Value → Shared → Prop), AOk c.n A → (∀ u t', VR v u → Q u ⟨s.heap, s.gens, s.drawn, t', s.os⟩) → PySem.wpAny (model pw_xm0629_01 c.w) A t Q E s) : TV c t ρ σ k :=
  fun G A s E Q hG hA hR hQ => lift (ht A s E Q hA fun u t' hu => hQ v u ρ σ s.heap t' h hu hR)
theorem T_ofBool {t : Sem Bool} {b : Bool} {k : Bool → Nm → St → Prop} (h : k b ρ σ)
    (ht : ∀ (A : Around) (s : Shared) (E : Value → Shared → Prop) (Q : Bool → Shared → Prop), AOk c.n A → (∀ t', Q b ⟨s.heap, s.gens, s.drawn, t', s.os⟩) → PySem.wpAny (model pw_xm0629_01 c.w) A t Q E s) : TB c t ρ σ k :=
  fun G A s E Q hG hA hR hQ => lift (ht A s E Q hA fun t' => hQ b b ρ σ s.heap t' h rfl hR)

theorem list_of_rep {h : Heap} {a : Addr} {xs : List MV} (r : Rep h a (.list xs)) : ∃ vs, h.IsList a vs.toArray ∧ VRs xs vs := by
  obtain ⟨vs, n, e, hv⟩ := r
  exact ⟨vs, ⟨_, e, rfl, n, rfl⟩, hv⟩

/-! the library's rules speak of a frame and a ledger over a base: here the base is empty and the ledger is the whole heap -/
noncomputable abbrev noHeap : Heap := ⟨#[], {}⟩
noncomputable def allN (h : Heap) (L : Addr) : List (Addr × Obj) := (List.range h.objs.size).filterMap fun a => if a = L then none else (h.get? a).map fun o => (a, o)
theorem mem_allN {h : Heap} {L a : Addr} {o : Obj} : (a, o) ∈ allN h L ↔ a ≠ L ∧ h.get? a = some o := by
  unfold allN
  simp only [List.mem_filterMap, List.mem_range]
  constructor
  · rintro ⟨b, hb, e⟩
    split at e
    · cases e
    · rename_i hne
      obtain ⟨o', ho, e'⟩ := Option.map_eq_some_iff.mp e
      cases e'
      exact ⟨hne, ho⟩
  · rintro ⟨hne, ho⟩
    exact ⟨a, Heap.lt_size ho, by rw [if_neg hne, ho]; rfl⟩
theorem news_allN (h : Heap) (L : Addr) : News noHeap L h (allN h L) := fun p hp => by
  obtain ⟨a, o⟩ := p
  obtain ⟨h1, h2⟩ := mem_allN.mp hp
  exact ⟨h2, h1, by simp [Heap.get?]⟩
theorem NsR.fr {h : Heap} {L : Addr} {ρ : Nm} (r : NsR h L ρ) : ∃ m, Fr noHeap L h m ∧ ∀ h', Fr noHeap L h' m → NsR h' L ρ := by
  obtain ⟨m, hn, hm⟩ := r
  exact ⟨m, ⟨hn, fun b o e => by simp [Heap.get?] at e, Nat.zero_le _⟩, fun h' F => ⟨m, F.ns, hm⟩⟩
theorem keeps_of_news {h h' : Heap} {L : Addr} {rest : List (Addr × Obj)} (N : News noHeap L h' rest) (hs : ∀ p ∈ allN h L, p ∈ rest) : ∀ b o, b ≠ L → h.get? b = some o → h'.get? b = some o :=
  fun b o hb e => (N _ (hs _ (mem_allN.mpr ⟨hb, e⟩))).1
theorem Rel.after {G : Fz} {L : Addr} {ρ : Nm} {σ : St} {h h' : Heap} (R : Rel G L ρ σ h) (hk : ∀ b o, b ≠ L → h.get? b = some o → h'.get? b = some o) (hn : NsR h' L ρ) : Rel G L ρ σ h' where
  keep b ob q := hk _ _ (fun x => by have := R.offL; rw [← x, q] at this; cases this) (R.keep b ob q)
  obj b ob q := by
    have z := R.obj b ob q
    obtain ⟨oo, ho⟩ := z.lives
    exact z.at ((hk _ _ (fun x => by have := R.freshL; rw [← x, q] at this; cases this) ho).trans ho.symm)
  new := R.new
  ns := hn
  freshL := R.freshL
  offL := R.offL
theorem Rel.pushAfter {G : Fz} {L : Addr} {ρ : Nm} {σ : St} {h h' : Heap} {a : Addr} {o : MObj} (R : Rel G L ρ σ h) (ha : h.objs.size ≤ a) (hk : ∀ b o, b ≠ L → h.get? b = some o → h'.get? b = some o) (hn : NsR h' L ρ) (r : Rep h' a o) : Rel G L ρ (σ.upd a o) h' where
  keep b ob q := (R.after hk hn).keep b ob q
  obj b ob q := by
    by_cases hb : b = a
    · subst hb; simp at q; subst q; exact r
    · rw [St.upd_ne hb] at q; exact (R.after hk hn).obj b ob q
  new b ob q := by
    by_cases hb : b = a
    · subst hb; exact R.toRel0.G_none_of_ge ha
    · rw [St.upd_ne hb] at q; exact R.new b ob q
  ns := hn
  freshL := by
    have ne : L ≠ a := fun x => Nat.lt_irrefl _ (Nat.lt_of_lt_of_le (x ▸ R.ns.lt) ha)
    rw [St.upd_ne ne]; exact R.freshL
  offL := R.offL

theorem T_addList {x y : Addr} {xs ys : List MV} {k : MV → Nm → St → Prop} (hx : σ x = some (.list xs)) (hy : σ y = some (.list ys)) (hz : xs.length + ys.length ≤ 1000000)
    (h : ∀ r, σ r = none → k (.ref r) ρ (σ.upd r (.list (xs ++ ys)))) : TV c (binaryOp .Add (.ref x) (.ref y)) ρ σ k := fun G A s E Q hG hA hR hQ => by
  obtain ⟨vs, h1, v1⟩ := list_of_rep (hR.obj _ _ hx)
  obtain ⟨us, h2, v2⟩ := list_of_rep (hR.obj _ _ hy)
  obtain ⟨m, F, hF⟩ := hR.ns.fr
  refine lift (add_arrays F (news_allN s.heap c.L) h1 h2 (fun h' F' N' => ?_) ?_)
  · refine hQ (.ref s.heap.objs.size) _ ρ _ h' _ (h _ (hR.toRel0.none_of_ge (Nat.le_refl _))) rfl (hR.pushAfter (Nat.le_refl _) (keeps_of_news N' fun p hp => .tail _ hp) (hF h' F') ⟨vs ++ us, 0, ?_, v1.append v2⟩)
    simpa using (N' _ (.head _)).1
  · have := v1.length; have := v2.length
    simp only [List.size_toArray, sizeLine_eq]; omega
theorem add_sound {a b : MV} {u v : Value} {k : MV → St → Prop} (hu : VR a u) (hv : VR b v) (h : addK a b σ k) : TV c (binaryOp .Add u v) ρ σ (kE ρ k) := by
  unfold addK at h
  split at h <;> simp only [VR] at hu hv
  · obtain ⟨t, rfl⟩ := hu; obtain ⟨t', rfl⟩ := hv
    exact T_ofVal (v := .int _) ⟨rfl, h⟩ fun A s E Q _ hq => add_int (hq _ _ ⟨_, rfl⟩)
  · rename_i x y
    obtain ⟨t, rfl⟩ := hu; obtain ⟨t', rfl⟩ := hv
    refine T_ofVal (v := .bytes (x ++ y)) ⟨rfl, h.2⟩ fun A s E Q _ hq => KBy.add_bytes (by simpa using h.1) fun t' k => ?_
    rw [List.append_toArray]
    exact hq _ _ ⟨_, rfl⟩
  · obtain ⟨xs, ys, h1, h2, h3, h4⟩ := h
    subst hu; subst hv
    exact T_addList h1 h2 h3 fun r hr => ⟨rfl, h4 r hr⟩
  · exact h.elim
theorem bin_sound {op : Operator} {a b : MV} {u v : Value} {k : MV → St → Prop} (hu : VR a u) (hv : VR b v) (h : binK op a b σ k) : TV c (binaryOp op u v) ρ σ (kE ρ k) := by
  cases op with
  | Add => exact add_sound hu hv h
  | Sub =>
    obtain ⟨i, j, rfl, rfl, h⟩ := intK_ok h
    obtain ⟨t, rfl⟩ := hu; obtain ⟨t', rfl⟩ := hv
    exact T_ofVal (v := .int _) ⟨rfl, h⟩ fun A s E Q _ hq => sub_int (hq _ _ ⟨_, rfl⟩)
  | Mult =>
    obtain ⟨i, j, rfl, rfl, h⟩ := intK_ok h
    obtain ⟨t, rfl⟩ := hu; obtain ⟨t', rfl⟩ := hv
    exact T_ofVal (v := .int _) ⟨rfl, h.2⟩ fun A s E Q _ hq => mul_int (hq _ _ ⟨_, rfl⟩) (.of_left h.1)
  | Mod =>
    obtain ⟨i, j, rfl, rfl, h⟩ := intK_ok h
    obtain ⟨t, rfl⟩ := hu; obtain ⟨t', rfl⟩ := hv
    refine T_ofVal (v := .int (i % j)) ⟨rfl, h.2⟩ fun A s E Q _ hq => mod_int' (by omega) ?_
    rw [Int.fmod_eq_emod_of_nonneg _ (Int.le_of_lt h.1)]
    exact hq _ _ ⟨_, rfl⟩
  | LShift =>
    obtain ⟨i, j, rfl, rfl, h⟩ := intK_ok h
    obtain ⟨t, rfl⟩ := hu; obtain ⟨t', rfl⟩ := hv
    exact T_ofVal (v := .int _) ⟨rfl, h.2⟩ fun A s E Q _ hq => lshift_int_small h.1.1 h.1.2.1 h.1.2.2 (hq _ _ ⟨_, rfl⟩)
  | BitAnd =>
    obtain ⟨i, j, rfl, rfl, h⟩ := intK_ok h
    obtain ⟨t, rfl⟩ := hu; obtain ⟨t', rfl⟩ := hv
    exact T_ofVal (v := .int _) ⟨rfl, h⟩ fun A s E Q _ hq => and_int (hq _ _ ⟨_, rfl⟩)
  | _ => exact h.elim
end
end Mine

end
section
open PySem PySem.W PyProof.Rows
set_option maxHeartbeats 4000000
set_option linter.unusedVariables false
namespace MineK
open PySem.Challenge (pw_xm0629_01 rw_xm0629_01)

section
variable {prog : Program} {w : World} {A : Around} {E : Value → Shared → Prop} {s : Shared}

theorem contains_byte {l : List UInt8} {i : Int} {t u : Tok} {Q : Bool → Shared → Prop} (h0 : 0 ≤ i) (h1 : i < 256)
    (h : Q (l.any fun c => (c.toNat : Int) == i) s) : wpAny (model prog w) A (contains (.bytes l.toArray t) (.int i u)) Q E s := by
  refine contains_slot (typeIs_bytes s _ t) FB.slot_bytes_contains (wpAny_call_entry FB.slot_bytes_contains (typeIs_bytes s _ t) FB.entry_bytes_contains ?_ (FB.args_bytes_contains_2 _ _))
  have e : (l.toArray.contains i.toNat.toUInt8) = l.any fun c => (c.toNat : Int) == i := by
    rw [Bool.eq_iff_iff]
    simp only [List.contains_toArray, List.contains_iff_mem, List.any_eq_true, beq_iff_eq]
    constructor
    · intro hm; exact ⟨_, hm, byte_back h0 h1⟩
    · rintro ⟨c, hc, rfl⟩
      have : (c.toNat : Int).toNat.toUInt8 = c := by simp
      rw [this]; exact hc
  unfold Builtin.«bytes.__contains__» Builtin.Bytes.containsIn
  have hn : ¬ ((i < 0 || i ≥ 256) = true) := by simp; omega
  repeat (first | rw [if_neg hn] | rw [KBy.buffer_eq] | lk)
  exact ⟨_, rfl, by rw [e]; exact wpAny_truthy_bool h⟩

noncomputable def subB (x y : List UInt8) : Bool := (Builtin.Bytes.find? y.toArray x.toArray 0 y.toArray.size).isSome
theorem bytes_no_index (l : List UInt8) (t : Tok) : specialOf (.bytes l.toArray t) "__index__" = pure none := KBy.special_eq (by rw [typeLookup_type, builtinLookup_eq_fast]; kernel_rfl)
theorem contains_sub {x y : List UInt8} {t u : Tok} {Q : Bool → Shared → Prop} (hh : A.handled = none)
    (h : ∀ h' t', (∀ b o, s.heap.get? b = some o → h'.get? b = some o) → Q (subB x y) ⟨h', s.gens, s.drawn, t', s.os⟩) : wpAny (model prog w) A (contains (.bytes y.toArray t) (.bytes x.toArray u)) Q E s := by
  refine contains_slot (typeIs_bytes s _ t) FB.slot_bytes_contains (wpAny_call_entry FB.slot_bytes_contains (typeIs_bytes s _ t) FB.entry_bytes_contains ?_ (FB.args_bytes_contains_2 _ _))
  unfold Builtin.«bytes.__contains__» Builtin.Bytes.containsIn
  repeat (first | with_reducible refine wpAny_attempt ?_ | with_reducible (refine wpAny_raiseTypeError hh ?_ ?_) | rw [bytes_no_index] | rw [KBy.buffer_eq] | lk)
  · intro h' tk e he
    repeat lk
    exact ⟨_, rfl, wpAny_truthy_bool (h h' tk fun b o q => he.1 b o q)⟩
  · rw [sizeLine_eq]; decide +kernel
end

end MineK
namespace Mine
open MineK
open PySem.Challenge (pw_xm0629_01 rw_xm0629_01)
/-! ## Comparisons -/
noncomputable def isNoneB : MV → Bool
  | .none => true
  | _ => false
noncomputable def eqK (a b : MV) (σ : St) (k : Bool → St → Prop) : Prop :=
  match a, b with
  | .int i, .int j => k (i == j) σ
  | .bytes x, .bytes y => k (x == y) σ
  | _, _ => False
noncomputable def neqK (a b : MV) (σ : St) (k : Bool → St → Prop) : Prop :=
  match a, b with
  | .int i, .int j => k (i != j) σ
  | .bytes x, .bytes y => k (x != y) σ
  | _, _ => False
noncomputable def inK (a b : MV) (σ : St) (k : Bool → St → Prop) : Prop :=
  match a, b with
  | .int i, .bytes l => (0 ≤ i ∧ i < 256) ∧ k (l.any fun c => (c.toNat : Int) == i) σ
  | .bytes x, .bytes y => k (subB x y) σ
  | .int i, .ref t => ∃ ns : List Int, σ t = some (.tuple (ns.map .int)) ∧ k (ns.any (· == i)) σ
  | _, _ => False
noncomputable def ninK (a b : MV) (σ : St) (k : Bool → St → Prop) : Prop :=
  match a, b with
  | .int i, .ref t => ∃ ns : List Int, σ t = some (.tuple (ns.map .int)) ∧ k (!ns.any (· == i)) σ
  | _, _ => False
noncomputable def isK (b : MV) (p : Prop) : Prop :=
  match b with
  | .none => p
  | _ => False
noncomputable def cmpK (op : CmpOp) (a b : MV) (σ : St) (k : Bool → St → Prop) : Prop :=
  match op with
  | .Eq => eqK a b σ k
  | .NotEq => neqK a b σ k
  | .Lt => intK a b fun i j => k (decide (i < j)) σ
  | .LtE => intK a b fun i j => k (decide (i ≤ j)) σ
  | .Gt => intK a b fun i j => k (decide (i > j)) σ
  | .GtE => intK a b fun i j => k (decide (i ≥ j)) σ
  | .Is => isK b ((∀ u, a ≠ .other u) ∧ k (isNoneB a) σ)
  | .IsNot => isK b ((∀ u, a ≠ .other u) ∧ k (!isNoneB a) σ)
  | .In => inK a b σ k
  | .NotIn => ninK a b σ k
theorem isK_ok {b : MV} {p : Prop} (h : isK b p) : b = .none ∧ p := by
  unfold isK at h
  split at h
  · exact ⟨rfl, h⟩
  · exact h.elim

theorem intsAre_of : ∀ {ns : List Int} {vs : List Value}, VRs (ns.map .int) vs → IntsAre vs ns
  | [], [], _ => .nil
  | n :: ns, v :: vs, h => by
    obtain ⟨⟨t, rfl⟩, h2⟩ := h
    exact .cons n t (intsAre_of h2)
theorem tup_of_rep {h : Heap} {a : Addr} {xs : List MV} (r : Rep h a (.tuple xs)) : ∃ vs, IsTup h a vs.toArray ∧ VRs xs vs := by
  obtain ⟨vs, n, e, hv⟩ := r
  exact ⟨vs, ⟨_, e, rfl, n, rfl⟩, hv⟩

section
variable {c : Cx} {ρ : Nm} {σ : St}
noncomputable abbrev kBV (ρ : Nm) (k : Bool → St → Prop) : MV → Nm → St → Prop := fun v ρ' σ' => ρ' = ρ ∧ ∃ b, v = .bool b ∧ k b σ'
theorem T_ofCmp {t : Sem Value} {b : Bool} {k : Bool → St → Prop} (h : k b σ)
    (ht : ∀ (A : Around) (s : Shared) (E : Value → Shared → Prop) (Q : Value → Shared → Prop), AOk c.n A → Q (.bool b) s → PySem.wpAny (model pw_xm0629_01 c.w) A t Q E s) : TV c t ρ σ (kBV ρ k) :=
  fun G A s E Q hG hA hR hQ => lift (ht A s E Q hA (hQ (.bool b) (.bool b) ρ σ s.heap s.toks ⟨rfl, b, rfl, h⟩ rfl hR))
theorem none_of_VR {v : MV} {u : Value} (h : VR v u) (hno : ∀ u, v ≠ .other u) : (u == .none) = isNoneB v := by
  cases v with
  | none => cases h; rfl
  | int i => obtain ⟨t, rfl⟩ := h; rfl
  | bytes i => obtain ⟨t, rfl⟩ := h; rfl
  | str i => obtain ⟨t, rfl⟩ := h; rfl
  | bool b => cases h; rfl
  | ref b => cases h; rfl
  | other x => exact absurd rfl (hno x)
theorem eq_sound {a b : MV} {u v : Value} {k : Bool → St → Prop} (hu : VR a u) (hv : VR b v) (h : eqK a b σ k) : TV c (compareOp .Eq u v) ρ σ (kBV ρ k) := by
  unfold eqK at h
  split at h
  · obtain ⟨t, rfl⟩ := hu; obtain ⟨t', rfl⟩ := hv; exact T_ofCmp h fun A s E Q _ hq => eq_int hq
  · obtain ⟨t, rfl⟩ := hu; obtain ⟨t', rfl⟩ := hv; exact T_ofCmp h fun A s E Q _ hq => eq_bytes (by simpa using hq)
  · exact h.elim
theorem neq_sound {a b : MV} {u v : Value} {k : Bool → St → Prop} (hu : VR a u) (hv : VR b v) (h : neqK a b σ k) : TV c (compareOp .NotEq u v) ρ σ (kBV ρ k) := by
  unfold neqK at h
  split at h
  · obtain ⟨t, rfl⟩ := hu; obtain ⟨t', rfl⟩ := hv; exact T_ofCmp h fun A s E Q _ hq => ne_int hq
  · obtain ⟨t, rfl⟩ := hu; obtain ⟨t', rfl⟩ := hv; exact T_ofCmp h fun A s E Q _ hq => ne_bytes (by simpa using hq)
  · exact h.elim
theorem in_sound {a b : MV} {u v : Value} {k : Bool → St → Prop} (hu : VR a u) (hv : VR b v) (h : inK a b σ k) : TV c (compareOp .In u v) ρ σ (kBV ρ k) := by
  unfold inK at h
  split at h
  · obtain ⟨t, rfl⟩ := hu; obtain ⟨t', rfl⟩ := hv
    refine T_ofCmp h.2 fun A s E Q _ hq => ?_
    show PySem.wpAny _ _ (do return .bool (← contains _ _)) Q E s
    exact PySem.wpAny_bind (contains_byte h.1.1 h.1.2 (PySem.wpAny_pure hq))
  · obtain ⟨t, rfl⟩ := hu; obtain ⟨t', rfl⟩ := hv
    intro G A s E Q hG hA hR hQ
    show wpAny _ _ (do return .bool (← contains _ _)) Q E s
    exact wpAny_bind (lift (contains_sub hA.handled fun h' t' hk => wpAny_pure (hQ (.bool _) _ ρ σ h' t' ⟨rfl, _, rfl, h⟩ rfl (hR.grow hk))))
  · obtain ⟨ns, h1, h2⟩ := h
    obtain ⟨t, rfl⟩ := hu; cases hv
    intro G A s E Q hG hA hR hQ
    obtain ⟨vs, r1, r2⟩ := tup_of_rep (hR.obj _ _ h1)
    exact lift (in_tuple_ints r1 (intsAre_of (by simpa using r2)) (hQ (.bool _) _ ρ σ s.heap s.toks ⟨rfl, _, rfl, h2⟩ rfl hR))
  · exact h.elim
theorem nin_sound {a b : MV} {u v : Value} {k : Bool → St → Prop} (hu : VR a u) (hv : VR b v) (h : ninK a b σ k) : TV c (compareOp .NotIn u v) ρ σ (kBV ρ k) := by
  unfold ninK at h
  split at h
  · obtain ⟨ns, h1, h2⟩ := h
    obtain ⟨t, rfl⟩ := hu; cases hv
    intro G A s E Q hG hA hR hQ
    obtain ⟨vs, r1, r2⟩ := tup_of_rep (hR.obj _ _ h1)
    exact lift (notin_tuple_ints r1 (intsAre_of (by simpa using r2)) (hQ (.bool _) _ ρ σ s.heap s.toks ⟨rfl, _, rfl, h2⟩ rfl hR))
  · exact h.elim
theorem cmp_sound {op : CmpOp} {a b : MV} {u v : Value} {k : Bool → St → Prop} (hu : VR a u) (hv : VR b v) (h : cmpK op a b σ k) : TV c (compareOp op u v) ρ σ (kBV ρ k) := by
  cases op with
  | Eq => exact eq_sound hu hv h
  | NotEq => exact neq_sound hu hv h
  | Lt => obtain ⟨i, j, rfl, rfl, h⟩ := intK_ok h; obtain ⟨t, rfl⟩ := hu; obtain ⟨t', rfl⟩ := hv; exact T_ofCmp h fun A s E Q _ hq => lt_int hq
  | LtE => obtain ⟨i, j, rfl, rfl, h⟩ := intK_ok h; obtain ⟨t, rfl⟩ := hu; obtain ⟨t', rfl⟩ := hv; exact T_ofCmp h fun A s E Q _ hq => le_int hq
  | Gt => obtain ⟨i, j, rfl, rfl, h⟩ := intK_ok h; obtain ⟨t, rfl⟩ := hu; obtain ⟨t', rfl⟩ := hv; exact T_ofCmp h fun A s E Q _ hq => gt_int hq
  | GtE => obtain ⟨i, j, rfl, rfl, h⟩ := intK_ok h; obtain ⟨t, rfl⟩ := hu; obtain ⟨t', rfl⟩ := hv; exact T_ofCmp h fun A s E Q _ hq => ge_int hq
  | Is => obtain ⟨rfl, h⟩ := isK_ok h; cases hv; exact T_ofCmp h.2 fun A s E Q _ hq => is_none_gen (by rw [none_of_VR hu h.1]; exact hq)
  | IsNot => obtain ⟨rfl, h⟩ := isK_ok h; cases hv; exact T_ofCmp h.2 fun A s E Q _ hq => isnot_none_gen (by rw [none_of_VR hu h.1]; exact hq)
  | In => exact in_sound hu hv h
  | NotIn => exact nin_sound hu hv h

/-! truth -/
noncomputable def truthK (v : MV) (σ : St) (k : Bool → St → Prop) : Prop :=
  match v with
  | .bool b => k b σ
  | .none => k false σ
  | .int i => k (i != 0) σ
  | _ => False
theorem truth_sound {v : MV} {u : Value} {k : Bool → St → Prop} (hu : VR v u) (h : truthK v σ k) : TB c (truthy u) ρ σ (kB ρ k) := by
  unfold truthK at h
  split at h
  · cases hu; exact T_ofBool ⟨rfl, h⟩ fun A s E Q _ hq => wpAny_truthy_bool (hq s.toks)
  · cases hu; exact T_ofBool ⟨rfl, h⟩ fun A s E Q _ hq => PySem.wpAny_pure (hq s.toks)
  · obtain ⟨t, rfl⟩ := hu; exact T_ofBool ⟨rfl, h⟩ fun A s E Q _ hq => truthy_int (hq s.toks)
  · exact h.elim
end
end Mine

end
section
open PySem PySem.W PyProof.Rows PySem.Calls
set_option maxHeartbeats 4000000
set_option linter.unusedVariables false
namespace Mine
open PySem.Challenge (pw_xm0629_01 rw_xm0629_01)

/-! ## Instances: attributes and methods -/
structure ClsOk (K : Frag) (C : Addr) : Prop where
  ga : findIn K (.ref C) "__getattribute__" = some (some (.builtin "object.__getattribute__"))
  gk : findIn K (.ref C) "__getattr__" = some none
  sa : findIn K (.ref C) "__setattr__" = some (some (.builtin "object.__setattr__"))
  po : plainOver K C = true
  hd : hasDictIn K C = true
noncomputable def clss : List Addr := [53, 288, 351, 458, 661]
theorem clsOk (P : Params) : ∀ C ∈ clss, ClsOk (Kf pw_xm0629_01 P) C := by
  unfold clss
  simp only [List.forall_mem_cons, List.not_mem_nil, false_implies, implies_true, and_true]
  refine ⟨⟨?_, ?_, ?_, ?_, ?_⟩, ⟨?_, ?_, ?_, ?_, ?_⟩, ⟨?_, ?_, ?_, ?_, ?_⟩, ⟨?_, ?_, ?_, ?_, ?_⟩, ⟨?_, ?_, ?_, ?_, ?_⟩⟩ <;> kernel_rfl

noncomputable def fieldTab : List (Addr × List Str) := [
  (53, ["width", "registers", "upvalues", "local_names", "ccalls", "frames", "stack", "flush", "steps", "text"]),
  (288, ["flags", "width", "precision", "letter"]), (351, ["values", "limits"]), (458, ["kind", "value"]),
  (661, ["text", "source", "chunk", "limits", "kinds", "at", "sign", "line", "last_line", "buffer", "current", "ahead"])]
theorem fieldTab_ok (P : Params) : ∀ p ∈ fieldTab, ∀ x ∈ p.2, findIn (Kf pw_xm0629_01 P) (.ref p.1) x = some none := by
  unfold fieldTab
  simp only [List.forall_mem_cons, List.not_mem_nil, false_implies, implies_true, and_true]
  and_intros <;> kernel_rfl
noncomputable def methTab : List (Addr × List (Str × Addr)) := [
  (53, [("__init__", 36)]), (288, [("__init__", 229)]), (351, [("__init__", 320), ("value", 327), ("text", 341)]), (458, [("__init__", 455)]),
  (661, [("__init__", 476), ("next", 483), ("move", 518), ("keep", 525), ("keep_and_move", 532), ("keep_if", 539), ("clear", 546), ("end_line", 553), ("read", 560), ("skip_blank", 567), ("sign_behind", 574),
    ("skip_comment", 581), ("read_compared", 588), ("read_dots", 595), ("read_word", 602), ("read_numeral", 609), ("read_bracket", 616), ("read_level", 623), ("read_long", 630), ("read_string", 644), ("read_escape", 651), ("read_digits", 658)])]
theorem methTab_ok (P : Params) : ∀ p ∈ methTab, ∀ x ∈ p.2, findIn (Kf pw_xm0629_01 P) (.ref p.1) x.1 = some (some (.ref x.2)) ∧ typeIn (Kf pw_xm0629_01 P) (.ref x.2) = some (.type "function") := by
  unfold methTab
  simp only [List.forall_mem_cons, List.not_mem_nil, false_implies, implies_true, and_true]
  and_intros <;> kernel_rfl

noncomputable def FieldOf (C : Addr) (x : Str) : Prop := ∃ p ∈ fieldTab, p.1 = C ∧ x ∈ p.2
noncomputable def MethOf (C : Addr) (x : Str) (f : Addr) : Prop := ∃ p ∈ methTab, p.1 = C ∧ (x, f) ∈ p.2
theorem FieldOf.cls {C : Addr} {x : Str} (h : FieldOf C x) : C ∈ clss := by
  obtain ⟨p, hp, rfl, _⟩ := h
  have : ∀ p ∈ fieldTab, p.1 ∈ clss := by decide +kernel
  exact this p hp
theorem MethOf.cls {C : Addr} {x : Str} {f : Addr} (h : MethOf C x f) : C ∈ clss := by
  obtain ⟨p, hp, rfl, _⟩ := h
  have : ∀ p ∈ methTab, p.1 ∈ clss := by decide +kernel
  exact this p hp

theorem findL_putL (x : Str) (hsh : Int) (t : Tok) (v : Value) (y : Str) : ∀ es : List DictEntry, keysS es → findL y (putL x hsh (.str x t) v es) = if y = x then some v else findL y es
  | [], _ => by
    unfold putL findL
    by_cases e : y = x
    · subst e; simp [Value.isStr]
    · have : (x == y) = false := by simpa using fun q => e q.symm
      simp [e, Value.isStr, this]
  | ⟨h, k, u⟩ :: r, hk => by
    obtain ⟨n, t', hn⟩ := hk _ (.head _)
    dsimp only at hn
    subst hn
    have ih := findL_putL x hsh t v y r fun e he => hk e (.tail _ he)
    unfold putL
    by_cases e : n = x
    · subst e
      rw [if_pos (by simp [Value.isStr])]
      unfold findL
      by_cases e2 : y = n
      · subst e2; simp [Value.isStr]
      · have : (n == y) = false := by simpa using fun q => e2 q.symm
        simp [e2, Value.isStr, this, List.find?_cons]
    · have hne : (n == x) = false := by simpa using e
      rw [if_neg (by simp [Value.isStr, e])]
      unfold findL at ih ⊢
      simp only [List.find?_cons, Value.isStr]
      by_cases e2 : y = n
      · subst e2
        simp [e]
      · have : (n == y) = false := by simpa using fun q => e2 q.symm
        rw [this]
        exact ih
theorem keysS_putL {x : Str} {hsh : Int} {t : Tok} {v : Value} : ∀ {es : List DictEntry}, keysS es → keysS (putL x hsh (.str x t) v es)
  | [], _ => fun e he => by
    unfold putL at he
    cases List.mem_singleton.mp he
    exact ⟨_, _, rfl⟩
  | ⟨h, k, u⟩ :: r, hk => fun e he => by
    unfold putL at he
    split at he
    · rcases List.mem_cons.mp he with rfl | he
      · exact hk ⟨h, k, u⟩ (.head _)
      · exact hk e (.tail _ he)
    · rcases List.mem_cons.mp he with rfl | he
      · exact hk _ (.head _)
      · exact keysS_putL (fun e he => hk e (.tail _ he)) e he
theorem length_putL {x : Str} {hsh : Int} {key v : Value} : ∀ {es : List DictEntry}, (putL x hsh key v es).length = if (findL x es).isSome then es.length else es.length + 1
  | [] => rfl
  | e :: r => by
    have ih := length_putL (x := x) (hsh := hsh) (key := key) (v := v) (es := r)
    unfold putL findL
    unfold findL at ih
    simp only [List.find?_cons]
    by_cases q : e.key.isStr x = true
    · simp [q]
    · simp only [q, Bool.false_eq_true, if_false, List.length_cons]
      rw [ih]
      split <;> rfl
theorem length_put {x : Str} {v : MV} : ∀ {fs : Nm}, (put x v fs).length = if (look x fs).isSome then fs.length else fs.length + 1
  | [] => rfl
  | (y, u) :: r => by
    have ih := length_put (x := x) (v := v) (fs := r)
    unfold put look
    by_cases e : x = y
    · simp [e]
    · simp only [e, if_false, List.length_cons]
      rw [ih]
      split <;> rfl
theorem ORel.isSome {a : Option MV} {b : Option Value} (h : ORel a b) : a.isSome = b.isSome := by
  cases a <;> cases b <;> first | rfl | exact h.elim

theorem getL_of {es : List DictEntry} (hk : keysS es) (x : Str) : getL x es = some (findL x es) := by
  have hr : es.any (·.refKey) = false := by
    rw [Bool.eq_false_iff]
    intro q
    obtain ⟨e, he, q⟩ := List.any_eq_true.mp q
    obtain ⟨n, t, e2⟩ := hk e he
    unfold DictEntry.refKey at q
    rw [e2] at q
    cases q
  unfold getL findL
  cases e : List.find? (fun e => e.key.isStr x) es with
  | some en => rfl
  | none => dsimp only; rw [hr]; rfl

theorem inst_of {G : Fz} {L : Addr} {ρ : Nm} {σ : St} {h : Heap} {x C dx : Addr} {fs : Nm} (R : Rel G L ρ σ h) (hx : σ x = some (.inst C dx)) (hd : σ dx = some (.ns fs)) :
    ∃ es n, h.get? dx = some (dictOf es n) ∧ keysS es ∧ es.length ≤ fs.length ∧ (∀ y, ORel (look y fs) (findL y es)) ∧ InstAt h x ⟨.ref C, some dx, .plain, #[]⟩ C (some (dictOf es n)) ∧ (∀ y, lookIn y (dictOf es n) = some (findL y es)) := by
  have r := R.obj _ _ hx
  obtain ⟨es, n, ho, hk, hz, hm⟩ := R.obj _ _ hd
  exact ⟨es, n, ho, hk, hz, hm, ⟨r, rfl, rfl, ho⟩, fun y => getL_of hk y⟩

section
variable {c : Cx} {ρ : Nm} {σ : St}
theorem handed_of_VR {v : MV} {u : Value} (h : VR v u) (hno : ∀ u, v ≠ .other u) : handedIn u = true := by
  cases v with
  | none => cases h; rfl
  | int i => obtain ⟨t, rfl⟩ := h; rfl
  | bytes i => obtain ⟨t, rfl⟩ := h; rfl
  | str i => obtain ⟨t, rfl⟩ := h; rfl
  | bool b => cases h; rfl
  | ref b => cases h; rfl
  | other x => exact absurd rfl (hno x)
theorem T_getAttr {x C dx : Addr} {fs : Nm} {name : Str} {v : MV} {expr : Bool} {k : MV → Nm → St → Prop} (hx : σ x = some (.inst C dx)) (hd : σ dx = some (.ns fs)) (hf : FieldOf C name) (hv : look name fs = some v) (hno : ∀ u, v ≠ .other u)
    (h : k v ρ σ) : TV c (getAttr (.ref x) name expr) ρ σ k := fun G A s E Q hG hA hR hQ => by
  have X : c.K.In s.heap := c.W.Y.objs.keeps (hR.toRel0.stays hG)
  have Cl := clsOk c.w.params C hf.cls
  obtain ⟨p, hp, rfl, hp2⟩ := hf
  have ha := fieldTab_ok c.w.params p hp name hp2
  obtain ⟨es, n, ho, hk, hz, hm, I, hl⟩ := inst_of hR hx hd
  have q := hm name
  rw [hv] at q
  cases e : findL name es with
  | none => rw [e] at q; exact q.elim
  | some u =>
    rw [e] at q
    refine lift (get_value X I Cl.ga (findObj_own Cl.hd ha rfl (by rw [hl, e])) (handed_of_VR q hno) (hQ _ _ _ _ _ _ h q hR))

theorem T_setAttr {x C dx : Addr} {fs : Nm} {name : Str} {v : MV} {u : Value} {k : Nm → St → Prop} (hx : σ x = some (.inst C dx)) (hd : σ dx = some (.ns fs)) (hf : FieldOf C name) (hsz : (put name v fs).length ≤ 1000) (hv : VR v u)
    (h : k ρ (σ.upd dx (.ns (put name v fs)))) : TU c (setAttr (.ref x) name u) ρ σ k := fun G A s E Q hG hA hR hQ => by
  have X : c.K.In s.heap := c.W.Y.objs.keeps (hR.toRel0.stays hG)
  have Cl := clsOk c.w.params C hf.cls
  obtain ⟨p, hp, rfl, hp2⟩ := hf
  have ha := fieldTab_ok c.w.params p hp name hp2
  obtain ⟨es, n, ho, hk, hz, hm, I, hl⟩ := inst_of hR hx hd
  refine lift (set_plain X I Cl.sa ?_)
  refine osa_open (s := { s with toks := s.toks + 1 }) X I Cl.po (r := none) (by unfold takerIn; rw [ha]; rfl) fun b => ?_
  obtain ⟨cd, hc, hd'⟩ := any_some Cl.hd
  dsimp only
  refine PySem.wpAny_bind (PySem.wpAny_pure (PySem.wpAny_bind (PySem.wpAny_bind (wpAny_loadPart I.at_ (PySem.wpAny_bind ((looks_clsIn (h := s.heap) X hc _ _ _ _ (fun _ _ e => e) ?_)))))))
  rw [hd']
  refine PySem.wpAny_pure (a := some dx) (PySem.wpAny_bind (PySem.wpAny_pure (PySem.wpAny_bind ?_)))
  unfold nsSet
  refine PySem.wpAny_bind (PySem.wpAny_bind (wpAny_askSetting (PySem.wpAny_pure (PySem.wpAny_bind (wpAny_mkText (PySem.wpAny_bind (wpAny_loadPart ho ?_)))))))
  have hr : (!es.toArray.any (fun e => e.key.isStr name) && es.toArray.any (fun e => e.refKey)) = false := by
    have : es.any (·.refKey) = false := by
      rw [Bool.eq_false_iff]
      intro q
      obtain ⟨e, he, q⟩ := List.any_eq_true.mp q
      obtain ⟨n, t, e2⟩ := hk e he
      unfold DictEntry.refKey at q
      rw [e2] at q
      cases q
    simp only [List.any_toArray, this, Bool.and_false]
  dsimp only
  rw [aRefKeyMayBeTheName_at, hr]
  have hnew := Heap.get?_update_self (h := s.heap) (a := dx) (Obj.putName name (PyData.keyHash c.w.params name) (.str name (s.toks + 1)) u) ho (by rw [putName_dict]; rfl)
  rw [putName_dict] at hnew
  have hlen : (putL name (PyData.keyHash c.w.params name) (.str name (s.toks + 1)) u es).length ≤ (put name v fs).length := by
    rw [length_putL, length_put, (hm name).isSome]
    split <;> omega
  have hsmall : (putL name (PyData.keyHash c.w.params name) (.str name (s.toks + 1)) u es).length ≤ 1000 := Nat.le_trans hlen hsz
  refine wpAny_updatePart ho ?_
  refine PySem.wpAny_bind (wpAny_lookBehind hnew (pastItsLine_dict (by rw [List.size_toArray, sizeLine_eq]; omega)) ?_)
  refine PySem.wpAny_pure ?_
  refine hQ () () ρ _ _ _ h trivial (hR.turn hd (fun b hb => Heap.get?_update_ne _ _ _ _ hb) ⟨_, _, hnew, keysS_putL hk, hlen, fun y => ?_⟩)
  rw [look_put, findL_putL _ _ _ _ _ _ hk]
  by_cases e : y = name
  · simp only [e, if_true]; exact hv
  · simp only [e, if_false]; exact hm y

/-- the method of an object: the def and the object ahead of the arguments -/
theorem T_getMethod {x C dx f : Addr} {fs : Nm} {name : Str} {pl : Sem Bool} {V : Unit → (Value × List Value) → Prop} {k : Unit → Nm → St → Prop} (hx : σ x = some (.inst C dx)) (hd : σ dx = some (.ns fs)) (hf : MethOf C name f) (hv : look name fs = none)
    (h : k () ρ σ) : T (fun (_ : Unit) p => p = (.ref f, [.ref x])) c (getMethod (.ref x) name pl) ρ σ k := fun G A s E Q hG hA hR hQ => by
  have X : c.K.In s.heap := c.W.Y.objs.keeps (hR.toRel0.stays hG)
  have Cl := clsOk c.w.params C hf.cls
  obtain ⟨p, hp, rfl, hp2⟩ := hf
  obtain ⟨ha, ht⟩ := methTab_ok c.w.params p hp (name, f) hp2
  obtain ⟨es, n, ho, hk, hz, hm, I, hl⟩ := inst_of hR hx hd
  have q := hm name
  rw [hv] at q
  cases e : findL name es with
  | some u => rw [e] at q; exact q.elim
  | none =>
    refine lift (method_fn X I Cl.ga Cl.gk ha ht (by show (lookIn name (dictOf es n)).map _ = _; rw [hl, e]; rfl) (hQ () _ _ _ _ _ h rfl hR))
end
end Mine

end
section
open PySem PySem.W PyProof.Rows PySem.Calls
set_option maxHeartbeats 4000000
set_option linter.unusedVariables false
set_option linter.unusedSimpArgs false
namespace Mine
open PySem.Challenge (pw_xm0629_01 rw_xm0629_01)

/-! ## Calls -/
noncomputable def RetTo (Q : Value → Shared → Prop) (E : Value → Shared → Prop) : Result → Shared → Prop := fun r s' => match r with | .ok (.ret v) => Q v s' | .ok _ => False | .error e => E e s'
structure CALL (w : World) (h₀ : Heap) (n : Nat) (f : Value) (args : List MV) (σ : St) (k : MV → St → Prop) : Prop where
  run : ∀ (G : Fz) (A : Around) (s : Shared) (E : Value → Shared → Prop) (Q : Value → Shared → Prop) (us : List Value), GOk h₀ G → AOk n A → Rel0 G σ s.heap → VRs args us →
    (∀ v u σ' h' t', k v σ' → VR v u → Rel0 G σ' h' → Q u ⟨h', s.gens, s.drawn, t', s.os⟩) → codeAny (model pw_xm0629_01 w) A (.call f ⟨us, []⟩) (RetTo Q E) s

theorem CALL.mono {w : World} {h₀ : Heap} {n m : Nat} {f : Value} {args : List MV} {σ : St} {k k' : MV → St → Prop} (h : CALL w h₀ n f args σ k) (hm : n ≤ m) (hk : ∀ v σ', k v σ' → k' v σ') : CALL w h₀ m f args σ k' :=
  ⟨fun G A s E Q us hG hA hR hv hQ => h.run G A s E Q us hG (hA.mono hm) hR hv fun v u σ' h' t' q => hQ v u σ' h' t' (hk _ _ q)⟩

section
variable {c : Cx} {ρ : Nm} {σ : St}
theorem T_call {f : Value} {args : List MV} {us : List Value} {k : MV → St → Prop} (h : CALL c.w c.h₀ c.n f args σ k) (hv : VRs args us) : TV c (call f us) ρ σ (kE ρ k) :=
  fun G A s E Q hG hA hR hQ => wpAny_call (h.run (G.with c.L (s.heap.get? c.L)) A s E Q us (hG.with hR.offL) hA hR.freeze hv fun v u σ' h' t' hk hvu R' => hQ v u ρ σ' h' t' ⟨rfl, hk⟩ hvu (hR.thaw R'))
end

/-- a def's names -/
theorem look_zip : ∀ {xs : List Str} {vs : List MV} {us : List Value} {x : Str}, VRs vs us → ORel (look x (xs.zip vs)) ((xs.zip us).lookup x)
  | [], _, _, _, _ => trivial
  | _ :: _, [], [], _, _ => trivial
  | y :: xs, v :: vs, u :: us, x, h => by
    simp only [List.zip_cons_cons, look, List.lookup_cons]
    by_cases e : x = y
    · subst e; simp; exact h.1
    · have : (x == y) = false := by simpa using e
      simp only [e, if_false, this]
      exact look_zip h.2
theorem lookup_reverse_nodup {l : List (Str × Value)} (hn : (l.map (·.1)).Nodup) (x : Str) : l.reverse.lookup x = l.lookup x := by
  induction l with
  | nil => rfl
  | cons p r ih =>
    obtain ⟨y, v⟩ := p
    simp only [List.map_cons, List.nodup_cons] at hn
    rw [List.reverse_cons, List.lookup_append, ih hn.2, List.lookup_cons, List.lookup_cons, List.lookup_nil]
    by_cases e : x == y
    · rw [e]
      have hx : x = y := by simpa using e
      subst hx
      have : r.lookup x = none := by
        rw [List.lookup_eq_none_iff]
        intro p hp
        rw [bne_iff_ne]
        intro q
        exact hn.1 (List.mem_map.mpr ⟨p, hp, q.symm⟩)
      rw [this]; rfl
    · simp only [e]
      cases List.lookup x r <;> rfl
theorem zip_map_fst {xs : List Str} {us : List Value} (h : us.length = xs.length) : (xs.zip us).map (·.1) = xs := by
  rw [List.map_fst_zip (by omega)]

/-- a def of the text, called by place -/
theorem CALL_fn {w : World} {h₀ : Heap} (W : Wld w h₀) {n : Nat} {f : Addr} {d : Option Stmt} {name qual : Str} {dV pm cd : Value} {xs : List Str} {args : List MV} {σ : St} {k : MV → St → Prop}
    (hf : (Kf pw_xm0629_01 w.params).lookup f = some (fnO d name qual dV pm cd)) (hcd : codeIn (Kf pw_xm0629_01 w.params) cd qual = true)
    (hco : (fscope d).isCoroutine = false) (hge : (fscope d).isGenerator = false) (hki : (fscope d).kind = .function) (hce : ((fscope d).names.all fun x => x.2 != .cell) = true)
    (hxs : (xs.all fun x => (fscope d).names.lookup x == some .local) = true) (hnd : xs.Nodup) (hlen : args.length = xs.length)
    (hb : ∀ us : List Value, us.length = xs.length → bindArgs (fnOf name qual (fargs d) (fbody d) (fscope d) dV .none .none pm none cd .none) ⟨us, []⟩ = pure (xs.zip us))
    (h : ∀ L, TX ⟨w, h₀, W, n, L⟩ (execs (fbody d) (callEnv (fnOf name qual (fargs d) (fbody d) (fscope d) dV .none .none pm none cd .none) L f)) (xs.zip args) σ
      (fun fl _ σ' => match fl with | .ret v => k v σ' | _ => k .none σ')) : CALL w h₀ (n + 1) (.ref f) args σ k := by
  refine ⟨fun G A s E Q us hG hA hR hv hQ => ?_⟩
  have st := hR.stays hG
  have X : (Kf pw_xm0629_01 w.params).In s.heap := W.Y.objs.keeps st
  have hul : us.length = xs.length := hv.length.symm.trans hlen
  refine codeAny_call_def (fd := fnOf name qual (fargs d) (fbody d) (fscope d) dV .none .none pm none cd .none) (body := fbody d) (binds := xs.zip us) hA.depth (X _ _ hf) rfl (W.nolim.keeps st) (codeRec_of X hcd) rfl (BindsTo.of_eq (hb us hul))
    (fun x hx => by simpa using List.all_eq_true.mp hce x hx) (fun x hx => ?_) (fun h' hn hk X' => ?_) hco hge hki
  · have : x.1 ∈ xs := (List.of_mem_zip hx).1
    simpa using List.all_eq_true.mp hxs _ this
  · have R : Rel G s.heap.objs.size (xs.zip args) σ h' := by
      refine ⟨hR.grow hk, ⟨_, hn, fun x => ?_⟩, hR.none_of_ge (Nat.le_refl _), hR.G_none_of_ge (Nat.le_refl _)⟩
      rw [lookup_reverse_nodup (by rw [zip_map_fst hul]; exact hnd)]
      exact look_zip hv
    refine h s.heap.objs.size G _ ⟨h', s.gens, s.drawn, _, s.os⟩ _ _ hG ?_ R (fun fl f' ρ' σ' h'' t' hk' hfl R' => ?_)
    · refine ⟨?_, ?_, hA.handled⟩
      · show A.depth + 1 + 4 * n + 4 < _
        have := hA.1; omega
      · show A.units + 3 + 16 * n + 16 < _
        have := hA.2.1; omega
    · have R0 : Rel0 G σ' h'' := R'.toRel0
      cases fl with
      | ret v =>
        obtain ⟨u, rfl, hu⟩ := hfl
        exact hQ v u σ' h'' t' hk' hu R0
      | next => cases hfl; exact hQ .none .none σ' h'' t' hk' rfl R0
      | brk => cases hfl; exact hQ .none .none σ' h'' t' hk' rfl R0
      | cont => cases hfl; exact hQ .none .none σ' h'' t' hk' rfl R0

/-- a class of the text: a new object, then its __init__ -/
theorem under_create {n : Nat} {A : Around} {C : Addr} {rest : List Value} (h : AOk (n + 1) A) : AOk n (A.under (.builtin "type.__call__" ⟨.ref C :: rest, []⟩)) := by
  have hw : (Code.builtin "type.__call__" ⟨.ref C :: rest, []⟩).weight = 1 := by kernel_rfl
  have hu : (Code.builtin "type.__call__" ⟨.ref C :: rest, []⟩).cUnits ≤ 4 := by
    rw [show (Code.builtin "type.__call__" ⟨.ref C :: rest, []⟩).cUnits = 1 from by kernel_rfl]; decide
  refine ⟨?_, ?_, h.handled⟩
  · show A.depth + (Code.builtin "type.__call__" ⟨.ref C :: rest, []⟩).weight + 4 * n + 4 < _
    have := h.1; omega
  · show A.units + (Code.builtin "type.__call__" ⟨.ref C :: rest, []⟩).cUnits + 16 * n + 16 < _
    have := h.2.1; omega
noncomputable def makesTab : List (Addr × Addr) := [(53, 36), (288, 229), (351, 320), (458, 455), (661, 476)]
theorem makesTab_ok (P : Params) : ∀ p ∈ makesTab, makesIn (Kf pw_xm0629_01 P) p.1 = true ∧ findIn (Kf pw_xm0629_01 P) (.ref p.1) "__init__" = some (some (.ref p.2)) ∧ typeIn (Kf pw_xm0629_01 P) (.ref p.2) = some (.type "function") := by
  unfold makesTab
  simp only [List.forall_mem_cons, List.not_mem_nil, false_implies, implies_true, and_true]
  and_intros <;> kernel_rfl
theorem CALL_cls {w : World} {h₀ : Heap} (W : Wld w h₀) {n : Nat} {C fI : Addr} {args : List MV} {σ : St} {k : MV → St → Prop} (hC : (C, fI) ∈ makesTab)
    (h : ∀ x dx, σ x = none → σ dx = none → x ≠ dx → CALL w h₀ n (.ref fI) (.ref x :: args) ((σ.upd dx (.ns [])).upd x (.inst C dx)) (fun v σ' => v = .none ∧ k (.ref x) σ')) : CALL w h₀ (n + 1) (.ref C) args σ k := by
  refine ⟨fun G A s E Q us hG hA hR hv hQ => ?_⟩
  have st := hR.stays hG
  have X : (Kf pw_xm0629_01 w.params).In s.heap := W.Y.objs.keeps st
  obtain ⟨hm, hi, ht⟩ := makesTab_ok w.params _ hC
  obtain ⟨hh, g, d, t, os⟩ := s
  refine make_core (makes_of X hm) (looks_findIn X hi) (fun self => bind_fn X self ht) (.inl rfl) ?_
  have k1 : ∀ b o, hh.get? b = some o → (hh.push emptyDict).get? b = some o := fun b o e => Heap.get?_push_of_some _ e
  have k2 : ∀ b o, (hh.push emptyDict).get? b = some o → ((hh.push emptyDict).push (instObj C hh.objs.size)).get? b = some o := fun b o e => Heap.get?_push_of_some _ e
  have n1 : σ hh.objs.size = none := hR.none_of_ge (Nat.le_refl _)
  have R1 : Rel0 G (σ.upd hh.objs.size (.ns [])) (hh.push emptyDict) := hR.push (Nat.le_refl _) k1 ⟨[], 0, Heap.get?_push_size _ rfl, fun _ he => (nomatch he), Nat.le_refl _, fun _ => trivial⟩
  have sz : (hh.push emptyDict).objs.size = hh.objs.size + 1 := Heap.size_push ..
  have n2 : σ (hh.objs.size + 1) = none := hR.none_of_ge (Nat.le_succ _)
  have R2 : Rel0 G ((σ.upd hh.objs.size (.ns [])).upd (hh.objs.size + 1) (.inst C hh.objs.size)) ((hh.push emptyDict).push (instObj C hh.objs.size)) :=
    R1.push (by rw [sz]; exact Nat.le_refl _) k2 (by show Heap.get? _ _ = _; rw [← sz]; exact Heap.get?_push_size _ rfl)
  refine codeAny_mono ((h (hh.objs.size + 1) hh.objs.size n2 n1 (Nat.succ_ne_self _)).run G _ ⟨_, g, d, t, os⟩ E (fun v s' => v = .none ∧ Q (.ref (hh.objs.size + 1)) s') (.ref (hh.objs.size + 1) :: us) hG (under_create hA) R2 ⟨rfl, hv⟩ (fun v u σ' h' t' q hvu R' => ?_)) (fun r s' q => ?_)
  · obtain ⟨rfl, q⟩ := q
    cases hvu
    exact ⟨rfl, hQ _ _ σ' h' t' q rfl R'⟩
  · rcases r with e | (v | _ | _ | _) <;> exact q

/-! ### the arguments and the callee of a call -/
section
variable {c : Cx} {ρ : Nm} {σ : St} {env : Env}
noncomputable def noStar : Expr → Bool
  | .Starred .. => false
  | _ => true
theorem starEach_cons {e : Expr} {r : List Expr} (h : noStar e = true) : starEach (e :: r) env = (false, eval e env) :: starEach r env := by
  cases e <;> first | rfl | cases h
theorem backTo_cons {pos : Pos} {t : Sem Value} {r : List (Bool × Sem Value)} : backTo pos ((false, t) :: r) = (false, t) :: backTo pos r := rfl
theorem any_star : ∀ {es : List Expr} {pos : Pos}, es.all noStar = true → (backTo pos (starEach es env)).any (·.1) = false
  | [], _, _ => rfl
  | e :: r, pos, h => by
    rw [List.all_cons, Bool.and_eq_true] at h
    rw [starEach_cons h.1, backTo_cons, List.any_cons, any_star h.2]; rfl

theorem T_spliced_nil {k : List MV → Nm → St → Prop} (h : k [] ρ σ) : TL c (spliced []) ρ σ k := fun G A s E Q hG hA hR hQ => spliced_nil (hQ _ _ _ _ _ _ h trivial hR)
theorem T_spliced_cons {t : Sem Value} {r : List (Bool × Sem Value)} {k : List MV → Nm → St → Prop} (h : TV c t ρ σ fun v ρ' σ' => TL c (spliced r) ρ' σ' fun vs => k (v :: vs)) : TL c (spliced ((false, t) :: r)) ρ σ k :=
  fun G A s E Q hG hA hR hQ => spliced_cons (h G A s E _ hG hA hR fun v u ρ' σ' h' t' q hv R' => q G A ⟨h', s.gens, s.drawn, t', s.os⟩ E _ hG hA R' fun vs us ρ'' σ'' h'' t'' q2 hvs R'' => hQ _ _ _ _ _ _ q2 ⟨hv, hvs⟩ R'')
theorem T_evalArgs {f : Value} {es : List Expr} {pos : Pos} {k : List MV → Nm → St → Prop} (hs : es.all noStar = true) (h : TL c (spliced (backTo pos (starEach es env))) ρ σ k) :
    T (fun vs (a : Args) => VRs vs a.pos ∧ a.kw = []) c (evalArgs f true (backTo pos (starEach es env)) []) ρ σ k := fun G A s E Q hG hA hR hQ => by
  cases es with
  | nil =>
    have q := h G A s E (fun vs s' => Q ⟨vs, []⟩ s') hG hA hR fun vs us ρ' σ' h' t' q hv R' => hQ vs ⟨us, []⟩ _ _ _ _ q ⟨hv, rfl⟩ R'
    unfold evalArgs
    show wpAny _ A (spliced [] >>= _) Q E s
    refine wpAny_bind (wpAny_mono q (fun vs s' h' => ?_) fun _ _ x => x)
    refine wpAny_holding ?_
    exact wpAny_bind (wpAny_pure (wpAny_bind (wpAny_pure (wpAny_pure h'))))
  | cons e r =>
    rw [List.all_cons, Bool.and_eq_true] at hs
    rw [starEach_cons hs.1, backTo_cons] at h ⊢
    exact evalArgs_plain (h G A s E (fun vs s' => Q ⟨vs, []⟩ s') hG hA hR fun vs us ρ' σ' h' t' q hv R' => hQ vs ⟨us, []⟩ _ _ _ _ q ⟨hv, rfl⟩ R')

/-- what may be called by its place: defs and classes of the text -/
noncomputable def callTab : List Addr := [110, 117, 124, 131, 138, 145, 103, 166, 173, 187, 194, 201, 299, 306, 362, 369, 376, 385, 392, 399, 406, 420, 427, 434, 672, 679, 686, 691, 696, 96,
  36, 229, 320, 327, 341, 455, 476, 483, 518, 525, 532, 539, 546, 553, 560, 567, 574, 581, 588, 595, 602, 609, 616, 623, 630, 644, 651, 658, 53, 288, 351, 458, 661]
theorem callTab_ok (P : Params) : ∀ a ∈ callTab, keepIn (Kf pw_xm0629_01 P) (.ref a) = true := by
  unfold callTab
  simp only [List.forall_mem_cons, List.not_mem_nil, false_implies, implies_true, and_true]
  and_intros <;> kernel_rfl

theorem T_callWith_ref {f : Addr} {first : List Value} {firstV : List MV} {es : List Expr} {pos pos' : Pos} {k : MV → St → Prop} (hf : f ∈ callTab) (hs : es.all noStar = true) (hfv : VRs firstV first)
    (h : TL c (spliced (backTo pos' (starEach es env))) ρ σ fun vs ρ' σ' => ρ' = ρ ∧ CALL c.w c.h₀ c.n (.ref f) (firstV ++ vs) σ' k) : TV c (callWith pos (.ref f) first (backTo pos' (starEach es env)) []) ρ σ (kE ρ k) := fun G A s E Q hG hA hR hQ => by
  refine callWith_of (P := fun h => c.K.In h) (by rw [any_star hs]; rfl) (keeps_K (callTab_ok c.w.params f hf)) ?_
  refine T_evalArgs hs h G A s E _ hG hA hR fun vs a ρ' σ' h' t' q hv R' => ?_
  obtain ⟨rfl, q⟩ := q
  obtain ⟨pos0, kw⟩ := a
  obtain ⟨hv, e⟩ := hv
  dsimp only at hv e
  subst e
  exact ⟨c.W.Y.objs.keeps (R'.toRel0.stays hG), T_call q (hfv.append hv) G A _ E Q hG hA R' hQ⟩
theorem T_callWith_builtin {id : String} {first : List Value} {firstV : List MV} {es : List Expr} {pos pos' : Pos} {k : MV → Nm → St → Prop} (hs : es.all noStar = true) (hfv : VRs firstV first)
    (h : TL c (spliced (backTo pos' (starEach es env))) ρ σ fun vs ρ' σ' => ∀ us, VRs (firstV ++ vs) us → TV c (call (.builtin id) us) ρ' σ' k) : TV c (callWith pos (.builtin id) first (backTo pos' (starEach es env)) []) ρ σ k := fun G A s E Q hG hA hR hQ => by
  refine callWith_builtin (any_star hs) ?_
  refine T_evalArgs hs h G A s E _ hG hA hR fun vs a ρ' σ' h' t' q hv R' => ?_
  obtain ⟨pos0, kw⟩ := a
  obtain ⟨hv, e⟩ := hv
  dsimp only at hv e
  subst e
  exact q _ (hfv.append hv) G A _ E Q hG hA R' hQ
theorem T_callWith_type {id : String} {es : List Expr} {pos pos' : Pos} {k : MV → Nm → St → Prop} (hs : es.all noStar = true)
    (h : TL c (spliced (backTo pos' (starEach es env))) ρ σ fun vs ρ' σ' => ∀ us, VRs vs us → TV c (call (.type id) us) ρ' σ' k) : TV c (callWith pos (.type id) [] (backTo pos' (starEach es env)) []) ρ σ k := fun G A s E Q hG hA hR hQ => by
  unfold callWith
  refine wpAny_bind (wpAny_holding ?_)
  refine T_evalArgs hs h G A s E _ hG hA hR fun vs a ρ' σ' h' t' q hv R' => ?_
  obtain ⟨pos0, kw⟩ := a
  obtain ⟨hv, e⟩ := hv
  dsimp only at hv e
  subst e
  refine wpAny_bind (wpAny_standAt ?_)
  simp only [any_star hs, List.any_nil, Bool.or_false]
  refine wpAny_bind (wpAny_pure ?_)
  exact wpAny_bind (wpAny_mono (q _ hv G A _ E Q hG hA R' hQ) (fun r s₂ hr => wpAny_bind (wpAny_holding (wpAny_point (wpAny_pure hr)))) fun _ _ x => x)
end
end Mine

end
section
open PySem PySem.W PyProof.Rows PySem.Calls
set_option maxHeartbeats 4000000
set_option linter.unusedVariables false
set_option linter.unusedSimpArgs false
namespace Mine
open PySem.Challenge (pw_xm0629_01 rw_xm0629_01)

/-! ## Loops -/
noncomputable abbrev kX := Fl → Nm → St → Prop
noncomputable def whC (p : Nm → St → kX → Prop) (k : kX) : kX := fun fl ρ σ => match fl with
  | .next => p ρ σ k
  | .cont => p ρ σ k
  | .brk => k .next ρ σ
  | .ret v => k (.ret v) ρ σ
noncomputable def whT (body : Nm → St → kX → Prop) (K k : kX) : Bool → Nm → St → Prop := fun b ρ σ => (b = true → body ρ σ K) ∧ (b = false → k .next ρ σ)
noncomputable def whileN (tst : Nm → St → (Bool → Nm → St → Prop) → Prop) (body : Nm → St → kX → Prop) : Nat → Nm → St → kX → Prop
  | 0, _, _, _ => False
  | N + 1, ρ, σ, k => tst ρ σ (whT body (whC (whileN tst body N) k) k)

section
variable {c : Cx} {ρ : Nm} {σ : St} {env : Env}
theorem T_execs_nil {k : kX} (h : k .next ρ σ) : TX c (execs [] env) ρ σ k := fun G A s E Q hG hA hR hQ => wpAny_execs_nil (hQ .next .next ρ σ s.heap s.toks h rfl hR)
theorem T_execs_cons {st : Stmt} {r : List Stmt} {k : kX} (h : TX c (exec st env) ρ σ fun fl ρ' σ' => match fl with | .next => TX c (execs r env) ρ' σ' k | fl => k fl ρ' σ') : TX c (execs (st :: r) env) ρ σ k :=
  fun G A s E Q hG hA hR hQ => wpAny_execs_cons (h G A s E _ hG hA hR fun fl f ρ' σ' h' t' q hf R' => by
    cases fl with
    | next => cases hf; exact q G A ⟨h', s.gens, s.drawn, t', s.os⟩ E Q hG hA R' hQ
    | brk => cases hf; exact hQ .brk .brk _ _ _ _ q rfl R'
    | cont => cases hf; exact hQ .cont .cont _ _ _ _ q rfl R'
    | ret v => obtain ⟨u, rfl, hu⟩ := hf; exact hQ (.ret v) (.ret u) _ _ _ _ q ⟨u, rfl, hu⟩ R')

theorem under_loop {A : Around} {test : Expr} {body orelse : List Stmt} {env : Env} : A.under (.whileLoop test body orelse env) = A := Around.under_of_weight (by rfl)
theorem T_while {tst : Nm → St → (Bool → Nm → St → Prop) → Prop} {bd : Nm → St → kX → Prop} {test : Expr} {body : List Stmt} {pos : Pos}
    (ht : ∀ ρ σ k, tst ρ σ k → TB c (isTrue test env (eval test env)) ρ σ k) (hb : ∀ ρ σ k, bd ρ σ k → TX c (execs body env) ρ σ k) {N : Nat} {k : kX} (h : whileN tst bd N ρ σ k) : TX c (exec (.While test body [] pos) env) ρ σ k := fun G A s E Q hG hA hR hQ => by
  rw [exec_While]
  refine wpAny_bind (wpAny_standAt (wpAny_runOwn fun X' => ?_))
  have key : ∀ (N : Nat) (ρ : Nm) (σ : St) (h : Heap) (t : Nat), whileN tst bd N ρ σ k → Rel G c.L ρ σ h →
      codeAny (model pw_xm0629_01 c.w) A (.whileLoop test body [] env) (fun r s' => match r with | .ok f => Q f s' | .error e => X' e s') ⟨h, s.gens, s.drawn, t, s.os⟩ := by
    intro N
    induction N with
    | zero => intro ρ σ h t hN; exact hN.elim
    | succ N ih =>
      intro ρ σ h t hN R
      refine codeAny_of_tree rfl ?_
      rw [under_loop]
      show wpAny _ A ((whileTurn test body [] env).onRaise _) _ _ _
      refine wpAny_onRaise ?_
      unfold whileTurn
      refine wpAny_bind (ht ρ σ _ hN G A ⟨h, s.gens, s.drawn, t, s.os⟩ _ _ hG hA R fun b b' ρ₁ σ₁ h₁ t₁ q e R₁ => ?_)
      subst e
      cases b with
      | true =>
        rw [if_pos rfl]
        have q := q.1 rfl
        refine wpAny_bind (hb ρ₁ σ₁ _ q G A ⟨h₁, s.gens, s.drawn, t₁, s.os⟩ _ _ hG hA R₁ fun fl f ρ₂ σ₂ h₂ t₂ q₂ e₂ R₂ => ?_)
        cases fl with
        | next => cases e₂; exact wpAny_pure ⟨rfl, ih ρ₂ σ₂ h₂ t₂ q₂ R₂⟩
        | cont => cases e₂; exact wpAny_pure ⟨rfl, ih ρ₂ σ₂ h₂ t₂ q₂ R₂⟩
        | brk => cases e₂; exact wpAny_pure (hQ .next .next _ _ _ _ q₂ rfl R₂)
        | ret v => obtain ⟨u, rfl, hu⟩ := e₂; exact wpAny_pure (hQ (.ret v) (.ret u) _ _ _ _ q₂ ⟨u, rfl, hu⟩ R₂)
      | false =>
        rw [if_neg Bool.false_ne_true]
        have q := q.2 rfl
        refine wpAny_bind (wpAny_execs_nil (wpAny_pure ?_))
        exact hQ .next .next _ _ _ _ q rfl R₁
  exact key N ρ σ s.heap s.toks h hR

/-! for -/
noncomputable def bdC (body : Nm → St → kX → Prop) (K : kX) : Nm → St → Prop := fun ρ σ => body ρ σ K
noncomputable def putB (x : Str) : MV → Nm → St → (Nm → St → Prop) → Prop := fun v ρ σ k => k (put x v ρ) σ
noncomputable def forL (side : St → Prop) (bind : MV → Nm → St → (Nm → St → Prop) → Prop) (body : Nm → St → kX → Prop) : List MV → Nm → St → kX → Prop
  | [], ρ, σ, k => side σ ∧ k .next ρ σ
  | v :: vs, ρ, σ, k => side σ ∧ bind v ρ σ (bdC body (whC (forL side bind body vs) k))

/-- an iterator over known items -/
structure IterOk (w : World) (it : Addr) (items : List MV) (side : Heap → Prop) (P : Heap → Nat → Prop) : Prop where
  at_ : ∀ h h' j, P h j → h'.get? it = h.get? it → P h' j
  lives : ∀ h j, P h j → ∃ o, h.get? it = some o
  item : ∀ (A : Around) (s : Shared) (E : Value → Shared → Prop) (Q : Option Value → Shared → Prop) (j : Nat) (x : MV), P s.heap j → side s.heap → items[j]? = some x →
    (∀ u h' t', VR x u → P h' (j + 1) → Heap.SameBut it s.heap h' → Q (some u) ⟨h', s.gens, s.drawn, t', s.os⟩) → PySem.wpAny (model pw_xm0629_01 w) A (pyNext (.ref it)) Q E s
  stop : ∀ (A : Around) (s : Shared) (E : Value → Shared → Prop) (Q : Option Value → Shared → Prop) (j : Nat), A.handled = none → P s.heap j → side s.heap → items[j]? = none →
    (∀ h', Heap.ExtBut it s.heap h' → Q none ⟨h', s.gens, s.drawn, s.toks, s.os⟩) → PySem.wpAny (model pw_xm0629_01 w) A (pyNext (.ref it)) Q E s

theorem Rel.withIt {G : Fz} {L it : Addr} {ρ : Nm} {σ : St} {h : Heap} (R : Rel G L ρ σ h) (h1 : it ≠ L) (h2 : σ it = none) : Rel (G.with it (h.get? it)) L ρ σ h where
  keep b o q := by
    unfold Fz.with at q
    split at q
    · rename_i e; subst e; exact q
    · exact R.keep b o q
  obj := R.obj
  new b o q := by
    unfold Fz.with
    rw [if_neg fun e => by rw [e, h2] at q; cases q]
    exact R.new b o q
  ns := R.ns
  freshL := R.freshL
  offL := by unfold Fz.with; rw [if_neg (Ne.symm h1)]; exact R.offL
theorem Rel.dropIt {G : Fz} {L it : Addr} {o : Obj} {ρ : Nm} {σ : St} {h : Heap} (R : Rel (G.with it (some o)) L ρ σ h) (hG : G it = none) : Rel G L ρ σ h ∧ h.get? it = some o ∧ σ it = none ∧ it ≠ L := by
  have e1 : (G.with it (some o)) it = some o := by unfold Fz.with; rw [if_pos rfl]
  refine ⟨⟨⟨fun b x q => R.keep b x (Fz.with_le hG b x q), R.obj, fun b x q => ?_⟩, R.ns, R.freshL, ?_⟩, R.keep it o e1, ?_, fun e => ?_⟩
  · have := R.new b x q
    unfold Fz.with at this
    split at this
    · cases this
    · exact this
  · have := R.offL
    unfold Fz.with at this
    split at this
    · cases this
    · exact this
  · cases q : σ it with
    | none => rfl
    | some x => have := R.new it x q; rw [e1] at this; cases this
  · have := R.offL; rw [← e, e1] at this; cases this
theorem Rel.itTurn {G : Fz} {L it : Addr} {ρ : Nm} {σ : St} {h h' : Heap} (R : Rel G L ρ σ h) (hG : G it = none) (h1 : it ≠ L) (h2 : σ it = none) (hs : ∀ b o, b ≠ it → h.get? b = some o → h'.get? b = some o) : Rel G L ρ σ h' where
  keep b o q := hs b o (fun e => by rw [e, hG] at q; cases q) (R.keep b o q)
  obj b o q := by
    have z := R.obj b o q
    obtain ⟨oo, ho⟩ := z.lives
    exact z.at ((hs b oo (fun e => by rw [e, h2] at q; cases q) ho).trans ho.symm)
  new := R.new
  ns := by
    obtain ⟨m, ⟨o, es, ep, ho, r1⟩, r2⟩ := R.ns
    exact ⟨m, ⟨o, es, ep, hs L o (Ne.symm h1) ho, r1⟩, r2⟩
  freshL := R.freshL
  offL := R.offL

theorem under_for {A : Around} {target : Expr} {it : Value} {body orelse : List Stmt} {env : Env} : A.under (.forLoop target it body orelse env) = A := Around.under_of_weight (by rfl)
theorem under_block {A : Around} {body : List Stmt} {env : Env} : A.under (.block body env) = A := Around.under_of_weight (by rfl)

theorem forLoop_sound {x : Str} {tpos : Pos} {body : List Stmt} {items : List MV} {sideS : St → Prop} {sideH : Heap → Prop} {it : Addr} {P : Heap → Nat → Prop} (I : IterOk c.w it items sideH P)
    (hside : ∀ G ρ σ h, Rel G c.L ρ σ h → sideS σ → sideH h) {bd : Nm → St → kX → Prop} (hb : ∀ ρ σ k, bd ρ σ k → TX c (execs body env) ρ σ k)
    {bind : MV → Nm → St → (Nm → St → Prop) → Prop} (hbd : ∀ v u ρ σ k, VR v u → bind v ρ σ k → TU c (storeName env x u) ρ σ k)
    {G : Fz} {A : Around} {s : Shared} {Q : Flow → Shared → Prop} {X' : Value → Shared → Prop} {k : kX} (hG : GOk c.h₀ G) (hA : AOk c.n A) (hGi : G it = none)
    (hQ : ∀ b a ρ' σ' h' t', k b ρ' σ' → FR b a → Rel G c.L ρ' σ' h' → Q a ⟨h', s.gens, s.drawn, t', s.os⟩) :
    ∀ (vs : List MV) (j : Nat) (ρ : Nm) (σ : St) (h : Heap) (t : Nat), items.drop j = vs → forL sideS bind bd vs ρ σ k → Rel G c.L ρ σ h → P h j → it ≠ c.L → σ it = none →
      codeAny (model pw_xm0629_01 c.w) A (.forLoop (.Name x tpos) (.ref it) body [] env) (fun r s' => match r with | .ok f => Q f s' | .error e => X' e s') ⟨h, s.gens, s.drawn, t, s.os⟩ := by
  intro vs
  induction vs with
  | nil =>
    intro j ρ σ h t hd hN R hP n1 n2
    refine codeAny_of_tree rfl ?_
    rw [under_for]
    show wpAny _ A ((forTurn (.Name x tpos) (.ref it) body [] env).onRaise _) _ _ _
    refine wpAny_onRaise ?_
    unfold forTurn
    have hnone : items[j]? = none := by
      have := congrArg List.length hd
      rw [List.length_drop] at this
      exact List.getElem?_eq_none (by simp at this; omega)
    refine wpAny_bind (wpAny_standAt (wpAny_bind (wpAny_onRaise (lift (I.stop A ⟨h, s.gens, s.drawn, t, s.os⟩ _ _ j hA.handled hP (hside _ _ _ _ R hN.1) hnone fun h' hk => ?_)))))
    refine wpAny_pure ⟨rfl, ?_⟩
    refine codeAny_of_tree rfl ?_
    rw [under_block]
    show wpAny _ A ((do return Fin.done (← (execs [] env).onRaise _)) : Sem Fin) _ _ _
    refine wpAny_bind (wpAny_onRaise (wpAny_execs_nil (wpAny_pure ?_)))
    exact hQ .next .next ρ σ h' _ hN.2 rfl (R.itTurn hGi n1 n2 fun b o hb e => hk b o hb e)
  | cons v vs ih =>
    intro j ρ σ h t hd hN R hP n1 n2
    refine codeAny_of_tree rfl ?_
    rw [under_for]
    show wpAny _ A ((forTurn (.Name x tpos) (.ref it) body [] env).onRaise _) _ _ _
    refine wpAny_onRaise ?_
    unfold forTurn
    have hitem : items[j]? = some v := by
      have := congrArg (fun l => l[0]?) hd
      simpa using this
    have hdrop : items.drop (j + 1) = vs := by
      have := congrArg List.tail hd
      simpa using this
    refine wpAny_bind (wpAny_standAt (wpAny_bind (wpAny_onRaise (lift (I.item A ⟨h, s.gens, s.drawn, t, s.os⟩ _ _ j v hP (hside _ _ _ _ R hN.1) hitem fun u h' t' hu hP' hsb => ?_)))))
    dsimp only
    refine wpAny_bind (wpAny_pure ?_)
    have R' : Rel G c.L ρ σ h' := R.itTurn hGi n1 n2 fun b o hb e => (hsb.2 b hb).trans e
    obtain ⟨o, ho⟩ := I.lives _ _ hP'
    have Rw := R'.withIt n1 n2
    rw [ho] at Rw
    have hGw : GOk c.h₀ (G.with it (some o)) := hG.with hGi
    show wpAny _ A ((do standAt tpos; bindName env x u : Sem Unit) >>= _) _ _ _
    refine wpAny_bind (wpAny_bind (wpAny_standAt (wpAny_bindName ?_)))
    refine hbd v u ρ σ _ hu hN.2 (G.with it (some o)) A ⟨h', s.gens, s.drawn, t', s.os⟩ _ _ hGw hA Rw fun _ _ ρ₁ σ₁ h₁ t₁ q₁ _ R₁ => ?_
    refine wpAny_bind (hb ρ₁ σ₁ _ q₁ (G.with it (some o)) A ⟨h₁, s.gens, s.drawn, t₁, s.os⟩ _ _ hGw hA R₁ fun fl f ρ₂ σ₂ h₂ t₂ q₂ e₂ R₂ => ?_)
    obtain ⟨R₃, hi, n3, n4⟩ := R₂.dropIt hGi
    have hP₂ : P h₂ (j + 1) := I.at_ _ _ _ hP' (hi.trans ho.symm)
    cases fl with
    | next => cases e₂; exact wpAny_pure ⟨rfl, ih (j + 1) ρ₂ σ₂ h₂ t₂ hdrop q₂ R₃ hP₂ n4 n3⟩
    | cont => cases e₂; exact wpAny_pure ⟨rfl, ih (j + 1) ρ₂ σ₂ h₂ t₂ hdrop q₂ R₃ hP₂ n4 n3⟩
    | brk => cases e₂; exact wpAny_pure (hQ .next .next _ _ _ _ q₂ rfl R₃)
    | ret v => obtain ⟨u, rfl, hu⟩ := e₂; exact wpAny_pure (hQ (.ret v) (.ret u) _ _ _ _ q₂ ⟨u, rfl, hu⟩ R₃)

noncomputable def Iterable (c : Cx) (v : MV) (items : List MV) (sideS : St → Prop) : Prop :=
  ∀ (u : Value), VR v u → ∀ (G : Fz) (A : Around) (s : Shared) (E : Value → Shared → Prop) (Q : Value → Shared → Prop) (ρ : Nm) (σ : St), GOk c.h₀ G → AOk c.n A → Rel G c.L ρ σ s.heap → sideS σ →
    (∀ it h' (P : Heap → Nat → Prop) (sideH : Heap → Prop), s.heap.objs.size ≤ it → (∀ b o, s.heap.get? b = some o → h'.get? b = some o) → IterOk c.w it items sideH P →
      (∀ G ρ σ h, Rel G c.L ρ σ h → sideS σ → sideH h) → P h' 0 → Q (.ref it) ⟨h', s.gens, s.drawn, s.toks, s.os⟩) → PySem.wpAny (model pw_xm0629_01 c.w) A (pyIter u) Q E s

theorem T_For {x : Str} {tpos pos : Pos} {iter : Expr} {body : List Stmt} {bd : Nm → St → kX → Prop} {bind : MV → Nm → St → (Nm → St → Prop) → Prop} {k : kX}
    (hfs : ∀ x, foldedSetIterable iter env x = pure x) (hb : ∀ ρ σ k, bd ρ σ k → TX c (execs body env) ρ σ k) (hbd : ∀ v u ρ σ k, VR v u → bind v ρ σ k → TU c (storeName env x u) ρ σ k)
    (h : TV c (eval iter env) ρ σ fun v ρ' σ' => ∃ items sideS, Iterable c v items sideS ∧ forL sideS bind bd items ρ' σ' k) : TX c (exec (.For (.Name x tpos) iter body [] pos) env) ρ σ k := fun G A s E Q hG hA hR hQ => by
  show wpAny _ A (do
    standAt pos
    let x' ← foldedSetIterable iter env (← eval iter env)
    standAt iter.pos
    runOwn (.forLoop (.Name x tpos) (← holding [x'] (pyIter x')) body [] env) env) Q E s
  refine wpAny_bind (wpAny_standAt (wpAny_bind (h G A s E _ hG hA hR fun v u ρ' σ' h' t' q hv R => ?_)))
  obtain ⟨items, sideS, hI, hN⟩ := q
  rw [hfs]
  have hside : sideS σ' := by
    cases items with
    | nil => exact hN.1
    | cons _ _ => exact hN.1
  refine wpAny_bind (wpAny_pure (wpAny_bind (wpAny_standAt (wpAny_bind (wpAny_holding (lift (hI u hv G A ⟨h', s.gens, s.drawn, t', s.os⟩ E _ ρ' σ' hG hA R hside fun it h'' P sideH hge hk I hs hP => ?_)))))))
  have R' : Rel G c.L ρ' σ' h'' := R.grow hk
  refine wpAny_runOwn fun X' => ?_
  show codeAny _ A _ _ _
  refine forLoop_sound I hs hb hbd hG hA (R.toRel0.G_none_of_ge hge) hQ items 0 ρ' σ' h'' t' rfl hN R' hP ?_ (R.toRel0.none_of_ge hge)
  intro e
  exact Nat.lt_irrefl _ (Nat.lt_of_lt_of_le (e ▸ R.ns.lt) hge)

theorem iter_bytes {b : List UInt8} : Iterable c (.bytes b) (b.map fun x => .int x.toNat) (fun _ => True) := fun u hu G A s E Q ρ σ hG hA hR _ hQ => by
  obtain ⟨t, rfl⟩ := hu
  refine KBw.pyIter_bytes ?_
  refine hQ s.heap.objs.size _ (fun h j => KBw.IsBytesIter h s.heap.objs.size b.toArray t j) (fun _ => True) (Nat.le_refl _) (fun b o e => Heap.get?_push_of_some _ e) ?_ (fun _ _ _ _ _ _ => trivial) ⟨_, Heap.get?_push_size _ rfl, rfl, rfl⟩
  refine ⟨fun h h' j ⟨o, h1, h2⟩ e => ⟨o, e.trans h1, h2⟩, fun h j ⟨o, h1, _⟩ => ⟨o, h1⟩, fun A s E Q j x hP _ hx hq => ?_, fun A s E Q j hh hP _ hx hq => ?_⟩
  · rw [List.getElem?_map] at hx
    obtain ⟨y, hy, rfl⟩ := Option.map_eq_some_iff.mp hx
    exact KBw.next_item hP (by simpa using hy) fun h' hP' hs => hq _ h' _ ⟨_, rfl⟩ hP' hs
  · rw [List.getElem?_map] at hx
    have hx' : b[j]? = none := by simpa using hx
    exact KBw.next_end hh hP (by simpa using hx') fun h' hs => hq h' hs

theorem iter_list {a : Addr} {items : List MV} : Iterable c (.ref a) items (fun σ => σ a = some (.list items)) := fun u hu G A s E Q ρ σ hG hA hR hs hQ => by
  cases hu
  obtain ⟨vs, hl, hv⟩ := list_of_rep (hR.obj _ _ hs)
  refine wpAny_pyIter_list hl ?_
  refine hQ s.heap.objs.size _ (fun h j => h.IsListIter s.heap.objs.size a j) (fun h => ∃ vs, h.IsList a vs.toArray ∧ VRs items vs) (Nat.le_refl _) (fun b o e => Heap.get?_push_of_some _ e) ?_ (fun G ρ σ h R e => list_of_rep (R.obj _ _ e))
    ⟨_, Heap.get?_push_size _ rfl, rfl, rfl⟩
  refine ⟨fun h h' j ⟨o, h1, h2⟩ e => ⟨o, e.trans h1, h2⟩, fun h j ⟨o, h1, _⟩ => ⟨o, h1⟩, fun A s E Q j x hP hS hx hq => ?_, fun A s E Q j hh hP hS hx hq => ?_⟩
  · obtain ⟨us, hl', hv'⟩ := hS
    obtain ⟨u, h1, h2⟩ := hv'.get hx
    exact wpAny_pyNext_list_item hP hl' (by simpa using h1) fun h' hP' hs => hq u h' _ h2 hP' hs
  · obtain ⟨us, hl', hv'⟩ := hS
    have : us.length ≤ j := by rw [← hv'.length]; simpa using hx
    exact wpAny_pyNext_list_end hh hP hl' (by simpa using this) fun h' hs => hq h' hs

noncomputable def IsRangeObj (o : Obj) (n : Int) : Prop := ∃ t u v, o = { cls := .type "range", dict := none, data := .fields #[.int 0 t, .int n u, .int 1 v], slots := #[] }
theorem rangeSize_up (n : Nat) : Builtin.Range.rangeSize 0 (n : Int) 1 = n := by
  unfold Builtin.Range.rangeSize
  rw [if_pos (by decide)]
  split
  · rw [Int.ediv_one]; omega
  · omega
theorem small_up {n : Nat} (hn : n ≤ 1000) : Builtin.Range.small 0 (n : Int) 1 = true := by
  unfold Builtin.Range.small
  rw [rangeSize_up]
  unfold Builtin.Range.rangeFitsLong
  simp
  omega
theorem iter_range {a : Addr} {n : Nat} (hn : n ≤ 1000) : Iterable c (.ref a) ((List.range n).map fun (i : Nat) => MV.int (i : Int)) (fun σ => ∃ o, σ a = some (.raw o) ∧ IsRangeObj o n) := fun u hu G A s E Q ρ σ hG hA hR hs hQ => by
  cases hu
  obtain ⟨o, ho, t, u, v, rfl⟩ := hs
  have hr : IsRange s.heap a 0 n 1 t u v := hR.obj _ _ ho
  refine wpAny_pyIter_range hr (small_up hn) ?_
  rw [rangeSize_up]
  refine hQ s.heap.objs.size _ (fun h j => j ≤ n ∧ IsRangeIter h s.heap.objs.size (j : Int) ((n : Int) - j) 1) (fun h => True) (Nat.le_refl _) (fun b o e => Heap.get?_push_of_some _ e) ?_ (fun _ _ _ _ _ _ => trivial)
    ⟨Nat.zero_le _, by simpa using Heap.get?_push_size s.heap (o := { cls := .type "range_iterator", data := .fields #[rawInt 0, rawInt n, rawInt 1] }) rfl⟩
  refine ⟨fun h h' j ⟨h0, h1⟩ e => ⟨h0, e.trans h1⟩, fun h j ⟨_, h1⟩ => ⟨_, h1⟩, fun A s E Q j x hP hS hx hq => ?_, fun A s E Q j hh hP hS hx hq => ?_⟩
  · rw [List.getElem?_map] at hx
    obtain ⟨y, hy, rfl⟩ := Option.map_eq_some_iff.mp hx
    have hj : j < n := by
      have := (List.getElem?_eq_some_iff.mp hy).1
      simpa using this
    have hy' : y = j := by
      rw [List.getElem?_range hj] at hy; exact (Option.some.inj hy).symm
    subst hy'
    refine wpAny_pyNext_range_item hP.2 (by omega) fun h' hP' hs => hq _ h' _ ⟨_, rfl⟩ ⟨hj, ?_⟩ hs
    have e1 : ((y : Int) + 1) = ((y + 1 : Nat) : Int) := by omega
    have e2 : ((n : Int) - y - 1) = ((n : Int) - ((y + 1 : Nat) : Int)) := by omega
    rw [e1, e2] at hP'
    exact hP'
  · rw [List.getElem?_map] at hx
    have hj : n ≤ j := by
      have : (List.range n)[j]? = none := by simpa using hx
      simpa using this
    exact wpAny_pyNext_range_end hh hP.2 (by omega) fun h' hs => hq h' hs
theorem T_range {n : Nat} {u : Value} {k : MV → St → Prop} (hu : VR (.int n) u) (h : ∀ r o, σ r = none → IsRangeObj o n → k (.ref r) (σ.upd r (.raw o))) : TV c (call (.type "range") [u]) ρ σ (kE ρ k) := fun G A s E Q hG hA hR hQ => by
  obtain ⟨t, rfl⟩ := hu
  refine lift (call_range_1 ?_)
  refine hQ (.ref s.heap.objs.size) _ ρ _ _ _ ⟨rfl, h s.heap.objs.size _ (hR.toRel0.none_of_ge (Nat.le_refl _)) ⟨_, _, _, rfl⟩⟩ rfl (hR.push (Nat.le_refl _) (fun b o e => Heap.get?_push_of_some _ e) (Heap.get?_push_size _ rfl))
end
end Mine

end
section
open PySem PySem.W PyProof.Rows PySem.Calls
set_option maxHeartbeats 4000000
set_option linter.unusedVariables false
set_option linter.unusedSimpArgs false
namespace MineK
open Builtin Builtin.Bytes
theorem plainAttrs_bytearray : PlainAttrs "bytearray" :=
  ⟨⟨"bytearray.__getattribute__", by rw [typeLookup_type, builtinLookup_eq_fast]; kernel_rfl, by decide +kernel⟩, by rw [typeLookup_type, builtinLookup_eq_fast]; kernel_rfl⟩
theorem owner_bytearray : Manifest.owners.lookup (String.ofList ['y', 'a', 'r', 'r', 'a', 'e', 't', 'y', 'b'].reverse) = some Manifest.sig_bytearray := by kernel_rfl
theorem slot_bytearray_append : Slot "bytearray" "append" "bytearray.append" :=
  .of (owner := "bytearray") (n := "append") (by rw [typeLookup_type, builtinLookup_eq_fast]; kernel_rfl) (by decide +kernel) (by decide +kernel) (by decide +kernel)
    (by first | exact .inl (by decide +kernel) | exact .inr (by decide +kernel)) (by rw [isSubtype_type]; kernel_rfl)
theorem type_bytearray_append : typeOf (.builtin "bytearray.append") = pure (.type "method_descriptor") := by show builtinType _ = _; rw [builtinType_eq_fast]; kernel_rfl
theorem entry_bytearray_append : entryFor table "bytearray.append" = some Builtin.«bytearray.append» := entryFor_of_tree (by kernel_rfl)
theorem slot_bytearray_extend : Slot "bytearray" "extend" "bytearray.extend" :=
  .of (owner := "bytearray") (n := "extend") (by rw [typeLookup_type, builtinLookup_eq_fast]; kernel_rfl) (by decide +kernel) (by decide +kernel) (by decide +kernel)
    (by first | exact .inl (by decide +kernel) | exact .inr (by decide +kernel)) (by rw [isSubtype_type]; kernel_rfl)
theorem type_bytearray_extend : typeOf (.builtin "bytearray.extend") = pure (.type "method_descriptor") := by show builtinType _ = _; rw [builtinType_eq_fast]; kernel_rfl
theorem entry_bytearray_extend : entryFor table "bytearray.extend" = some Builtin.«bytearray.extend» := entryFor_of_tree (by kernel_rfl)
theorem slot_bytearray_len : Slot "bytearray" "__len__" "bytearray.__len__" :=
  .of (owner := "bytearray") (n := "__len__") (by rw [typeLookup_type, builtinLookup_eq_fast]; kernel_rfl) (by decide +kernel) (by decide +kernel) (by decide +kernel)
    (by first | exact .inl (by decide +kernel) | exact .inr (by decide +kernel)) (by rw [isSubtype_type]; kernel_rfl)
theorem entry_bytearray_len : entryFor table "bytearray.__len__" = some Builtin.«bytearray.__len__» := entryFor_of_tree (by kernel_rfl)
theorem slot_bytearray_getitem : Slot "bytearray" "__getitem__" "bytearray.__getitem__" :=
  .of (owner := "bytearray") (n := "__getitem__") (by rw [typeLookup_type, builtinLookup_eq_fast]; kernel_rfl) (by decide +kernel) (by decide +kernel) (by decide +kernel)
    (by first | exact .inl (by decide +kernel) | exact .inr (by decide +kernel)) (by rw [isSubtype_type]; kernel_rfl)
theorem entry_bytearray_getitem : entryFor table "bytearray.__getitem__" = some Builtin.«bytearray.__getitem__» := entryFor_of_tree (by kernel_rfl)
theorem args_bytearray_append (a b : Value) : argsOk "bytearray.append" ⟨[a, b], []⟩ := by
  unfold argsOk; rw [signature?_of (id := "bytearray.append") (n := ['d', 'n', 'e', 'p', 'p', 'a']) (o := ['y', 'a', 'r', 'r', 'a', 'e', 't', 'y', 'b']) (by kernel_rfl) owner_bytearray]; kernel_rfl
theorem args_bytearray_extend (a b : Value) : argsOk "bytearray.extend" ⟨[a, b], []⟩ := by
  unfold argsOk; rw [signature?_of (id := "bytearray.extend") (n := ['d', 'n', 'e', 't', 'x', 'e']) (o := ['y', 'a', 'r', 'r', 'a', 'e', 't', 'y', 'b']) (by kernel_rfl) owner_bytearray]; kernel_rfl
theorem args_bytearray_len (a : Value) : argsOk "bytearray.__len__" ⟨[a], []⟩ := by
  unfold argsOk; rw [signature?_of (id := "bytearray.__len__") (n := ['_', '_', 'n', 'e', 'l', '_', '_']) (o := ['y', 'a', 'r', 'r', 'a', 'e', 't', 'y', 'b']) (by kernel_rfl) owner_bytearray]; kernel_rfl
theorem args_bytearray_getitem (a b : Value) : argsOk "bytearray.__getitem__" ⟨[a, b], []⟩ := by
  unfold argsOk; rw [signature?_of (id := "bytearray.__getitem__") (n := ['_', '_', 'm', 'e', 't', 'i', 't', 'e', 'g', '_', '_']) (o := ['y', 'a', 'r', 'r', 'a', 'e', 't', 'y', 'b']) (by kernel_rfl) owner_bytearray]; kernel_rfl
theorem look_ba_buffer : typeLookup (.type "bytearray") "__buffer__" = pure (some (.builtin "bytearray.__buffer__")) := by rw [typeLookup_type, builtinLookup_eq_fast]; kernel_rfl
theorem sub_ba_ba : isSubtype (.type "bytearray") (.type "bytearray") = pure true := by rw [isSubtype_type]; kernel_rfl
theorem look_ba_release : typeLookup (.type "bytearray") "__release_buffer__" = pure (some (.builtin "bytearray.__release_buffer__")) := by rw [typeLookup_type, builtinLookup_eq_fast]; kernel_rfl
theorem look_ba_bytes : typeLookup (.type "bytearray") "__bytes__" = pure none := by rw [typeLookup_type, builtinLookup_eq_fast]; kernel_rfl
theorem look_ba_index : typeLookup (.type "bytearray") "__index__" = pure none := by rw [typeLookup_type, builtinLookup_eq_fast]; kernel_rfl
section
variable {prog : Program} {w : World} {A : Around} {E : Value → Shared → Prop} {s : Shared} {a : Addr} {b : Array UInt8}
noncomputable abbrev BA (h : Heap) (a : Addr) (b : Array UInt8) : Prop := h.get? a = some ⟨.type "bytearray", none, .bytearray b 0, #[]⟩
theorem own_ba {n : String} {v : String} {Q : Bool → Shared → Prop} (ho : BA s.heap a b) (hl : typeLookup (.type "bytearray") (n : Str) = pure (some (.builtin v))) (he : v.endsWith ("." ++ n) = true) (hd : v.dropRight (n.length + 1) = "bytearray")
    (h : Q true s) : wpAny (model prog w) A (slotIsOwn (.ref a) n) Q E s := by
  have hT : s.TypeIs (.ref a) "bytearray" := ⟨_, ho, rfl⟩
  unfold slotIsOwn
  refine wpAny_bind (wpAny_specialOf hT hl ?_)
  dsimp only
  refine bm_if_false (by rw [he]; rfl) ?_
  rw [hd]
  exact wpAny_isInstance hT sub_ba_ba h
theorem release_ba {Q : Bool → Shared → Prop} (ho : BA s.heap a b) (h : Q false s) : wpAny (model prog w) A (ownRelease (.ref a)) Q E s := by
  unfold ownRelease
  exact wpAny_bind (own_ba ho look_ba_release (by decide +kernel) (by decide +kernel) (wpAny_pure h))
theorem payload_ba {Q : Array UInt8 → Shared → Prop} (ho : BA s.heap a b) (h : Q b s) : wpAny (model prog w) A (payload (.ref a)) Q E s := by
  unfold payload payload?
  exact wpAny_bind (wpAny_bind (wpAny_load ho (wpAny_pure (wpAny_pure h))))
theorem buffer_ba {id : String} {full : Bool} {Q : Option (Array UInt8) → Shared → Prop} (ho : BA s.heap a b) (h : Q (some b) s) : wpAny (model prog w) A (buffer? id (.ref a) full) Q E s := by
  have hT : s.TypeIs (.ref a) "bytearray" := ⟨_, ho, rfl⟩
  unfold buffer?
  refine wpAny_bind (wpAny_specialOf hT look_ba_buffer ?_)
  dsimp only
  refine wpAny_bind (own_ba ho look_ba_buffer (by decide +kernel) (by decide +kernel) ?_)
  refine bm_if_false rfl ?_
  refine wpAny_bind (wpAny_specialOf hT look_ba_buffer ?_)
  refine wpAny_bind (release_ba ho ?_)
  refine bm_if_false rfl ?_
  exact wpAny_bind (payload_ba ho (wpAny_pure h))
theorem take_bytes {id : String} {t : Tok} : takeBufferQuiet? id (.bytes b t) 0 = pure (some (b, none)) := by
  unfold takeBufferQuiet? takeBuffer?
  rw [KBy.special_eq KBy.look_buffer, KBy.own_buffer]
  have : buffer? id (.bytes b t) (full := (0 : Int) == fullReadOnly) = pure (some b) := by
    unfold buffer?
    rw [KBy.special_eq KBy.look_buffer, KBy.own_buffer, KBy.own_release]
    kernel_rfl
  simp only [pure_bind, this]
  rfl
theorem len_ba {Q : Value → Shared → Prop} (ho : BA s.heap a b) (hz : b.size ≤ 16777216) (h : ∀ t k, Q (.int b.size t) { s with toks := k }) : wpAny (model prog w) A (call (.builtin "len") [.ref a]) Q E s := by
  have hT : s.TypeIs (.ref a) "bytearray" := ⟨_, ho, rfl⟩
  refine Calls.call_function_entry kind_len plain_len entry_len (args_len1 _) ?_
  unfold Builtin.«len»
  refine wpAny_bind (m := oneArg "len" _) (wpAny_pure ?_)
  refine wpAny_bind (m := callSpecial? (.ref a) (Str.ofString "__len__")) (wpAny_callSpecial?_slot (name := Str.ofString "__len__") hT slot_bytearray_len (wpAny_call_entry slot_bytearray_len hT entry_bytearray_len ?_ (args_bytearray_len _)))
  unfold Builtin.«bytearray.__len__»
  refine wpAny_bind (wpAny_of_eq (a := (Value.ref a, [])) rfl ?_)
  dsimp only
  refine wpAny_bind (payload_ba ho ?_)
  refine wpAny_bind (wpAny_mkInt (wpAny_pure ⟨_, rfl, ?_⟩))
  refine wpAny_bind (wpAny_holding (wpAny_pure ?_))
  refine wpAny_bind (wpAny_letGo ?_)
  show wpAny _ _ (if (b.size : Int) < 0 then _ else _) _ _ _
  rw [if_neg (by omega)]
  show wpAny _ _ (if (b.size : Int) ≥ 2 ^ 63 then _ else _) _ _ _
  rw [if_neg (by omega)]
  exact wpAny_bind (wpAny_mkInt (wpAny_pure ⟨_, rfl, h _ _⟩))
end
end MineK

namespace Mine
open MineK Builtin Builtin.Bytes
open PySem.Challenge (pw_xm0629_01 rw_xm0629_01)

section
variable {prog : Program} {w : World} {A : Around} {E : Value → Shared → Prop} {s : Shared}
/-- no codec on the stack: nothing is exported -/
theorem exported_no {a : Addr} {Q : Bool → Shared → Prop} (h : Q false s) : wpAny (model prog w) A (exported (.ref a)) Q E s := by
  unfold exported
  refine wpAny_stack fun l hl => wpAny_pure ?_
  generalize hb : List.any l _ = b
  obtain rfl : b = false := by
    rw [← hb, List.any_eq_false]
    intro x hx
    have d := hl x hx
    clear hb hx hl
    obtain ⟨c, p⟩ := x
    delta exported.match_1
    cases c with
    | builtin i g =>
      obtain ⟨args, kw⟩ := g
      have q : decIds.contains i = false := d
      have nn : ∀ z : String, decIds.contains z = true → i ≠ z := fun z hz e => by rw [e, hz] at q; cases q
      have q2 : decodersThatHold.contains i = false := by
        unfold decIds at q
        rw [List.contains_append, Bool.or_eq_false_iff] at q
        exact q.1
      refine ne_true_of_eq_false ((dif_neg (nn _ (by decide +kernel))).trans ((dif_neg (nn _ (by decide +kernel))).trans ((dif_neg (nn _ (by decide +kernel))).trans ((dif_neg (nn _ (by decide +kernel))).trans ((dif_neg (nn _ (by decide +kernel))).trans ?_)))))
      cases args with
      | nil => rfl
      | cons v r => exact Bool.and_eq_false_iff.mpr (.inr q2)
    | _ => exact Bool.false_ne_true
  exact h
theorem checkResize_no {a : Addr} {o : Obj} {b : Array UInt8} {Q : Unit → Shared → Prop} (ho : s.heap.get? a = some o) (hd : o.data = .bytearray b 0) (h : Q () s) : wpAny (model prog w) A (checkResize (.ref a)) Q E s := by
  unfold checkResize
  refine wpAny_bind ?_
  show wpAny _ _ (exported (.ref a) >>= fun x => _) _ _ s
  refine wpAny_bind (exported_no ?_)
  unfold exportsOf
  repeat (first | rw [hd] | (first | with_reducible refine Mine.wpAny_bind ?_ | with_reducible refine Mine.wpAny_pure ?_ | with_reducible refine Mine.wpAny_holding ?_ | with_reducible refine Mine.wpAny_onRaise ?_ | with_reducible refine Mine.wpAny_call ?_ | (with_reducible refine Mine.wpAny_ifF ?_ ?_; (first | rfl | kernel_rfl | assumption)) | (with_reducible refine Mine.wpAny_ifT ?_ ?_; (first | rfl | kernel_rfl | assumption)) | (with_reducible show Mine.wpAny _ _ _ _ _ _; dsimp only) | with_reducible refine Mine.lift ?_ | lk))
  exact h
theorem write_ba {a : Addr} {o : Obj} {b : Array UInt8} {f : Array UInt8 → Array UInt8} {Q : Unit → Shared → Prop} (ho : s.heap.get? a = some o) (hd : o = ⟨.type "bytearray", none, .bytearray b 0, #[]⟩) (hz : (f b).size ≤ 16777216)
    (h : ∀ h', h'.get? a = some ⟨.type "bytearray", none, .bytearray (f b) 0, #[]⟩ → (∀ x, x ≠ a → h'.get? x = s.heap.get? x) → Q () { s with heap := h' }) : wpAny (model prog w) A (write (.ref a) f) Q E s := by
  subst hd
  unfold write updateBytearray
  dsimp only
  refine wpAny_bind (wpAny_load ho ?_)
  dsimp only
  refine wpAny_bind (lift (PySem.wpAny_update ho ?_))
  have e : (s.heap.update a (Obj.mapBytearray f)).get? a = some ⟨.type "bytearray", none, .bytearray (f b) 0, #[]⟩ := Heap.get?_update_self _ ho rfl
  refine lift (wpAny_lookBehind e ?_ ?_)
  · show (if (f b).size > sizeLine then some "bytearray:memory" else none) = none
    exact if_neg (Nat.not_lt.mpr (by rw [sizeLine_eq]; exact hz))
  · exact h _ e fun x hx => Heap.get?_update_ne _ _ _ _ hx
end

section
variable {c : Cx} {ρ : Nm} {σ : St}
theorem Rel.barr {G : Fz} {h : Heap} {a : Addr} {b : List UInt8} (R : Rel0 G σ h) (e : σ a = some (.barr b)) : h.get? a = some ⟨.type "bytearray", none, .bytearray b.toArray 0, #[]⟩ := R.obj _ _ e
theorem VR_int {i j : Int} {t : Tok} (e : i = j) : VR (.int i) (.int j t) := ⟨t, by rw [e]⟩
theorem VR_bytes {x : List UInt8} {y : Array UInt8} {t : Tok} (e : x.toArray = y) : VR (.bytes x) (.bytes y t) := ⟨t, by rw [e]⟩
theorem T_ba_append {a : Addr} {b : List UInt8} {i : Int} {u : Value} {k : MV → Nm → St → Prop} (hx : σ a = some (.barr b)) (hu : VR (.int i) u) (h0 : 0 ≤ i) (h1 : i < 256) (hz : b.length + 1 ≤ 16777216)
    (h : k .none ρ (σ.upd a (.barr (b ++ [i.toNat.toUInt8])))) : TV c (call (.builtin "bytearray.append") [.ref a, u]) ρ σ k := fun G A s E Q hG hA hR hQ => by
  obtain ⟨t, rfl⟩ := hu
  have ho := Rel.barr hR.toRel0 hx
  refine wpAny_call_entry (by decide +kernel) slot_bytearray_append ⟨_, ho, rfl⟩ entry_bytearray_append ?_ (args_bytearray_append _ _)
  unfold Builtin.«bytearray.append» selfAndOne byteValue
  have hn : ¬ ((i < 0 || i ≥ 256) = true) := by simp; omega
  repeat (first | with_reducible refine checkResize_no ho rfl ?_ | with_reducible refine write_ba ho rfl ?_ ?_ | rw [if_neg hn] | (first | with_reducible refine Mine.wpAny_bind ?_ | with_reducible refine Mine.wpAny_pure ?_ | with_reducible refine Mine.wpAny_holding ?_ | with_reducible refine Mine.wpAny_onRaise ?_ | with_reducible refine Mine.wpAny_call ?_ | (with_reducible refine Mine.wpAny_ifF ?_ ?_; (first | rfl | kernel_rfl | assumption)) | (with_reducible refine Mine.wpAny_ifT ?_ ?_; (first | rfl | kernel_rfl | assumption)) | (with_reducible show Mine.wpAny _ _ _ _ _ _; dsimp only) | with_reducible refine Mine.lift ?_ | lk))
  · simpa using hz
  · intro h' e he
    repeat (first | with_reducible refine Mine.wpAny_bind ?_ | with_reducible refine Mine.wpAny_pure ?_ | with_reducible refine Mine.wpAny_holding ?_ | with_reducible refine Mine.wpAny_onRaise ?_ | with_reducible refine Mine.wpAny_call ?_ | (with_reducible refine Mine.wpAny_ifF ?_ ?_; (first | rfl | kernel_rfl | assumption)) | (with_reducible refine Mine.wpAny_ifT ?_ ?_; (first | rfl | kernel_rfl | assumption)) | (with_reducible show Mine.wpAny _ _ _ _ _ _; dsimp only) | with_reducible refine Mine.lift ?_ | lk)
    refine ⟨_, rfl, hQ .none .none ρ _ h' s.toks h rfl (hR.turn hx he ?_)⟩
    show h'.get? a = _
    rw [e]
    simp
theorem T_ba_extend {a : Addr} {b x : List UInt8} {u : Value} {k : MV → Nm → St → Prop} (hx : σ a = some (.barr b)) (hu : VR (.bytes x) u) (hz : b.length + x.length ≤ 16777216)
    (h : k .none ρ (σ.upd a (.barr (b ++ x)))) : TV c (call (.builtin "bytearray.extend") [.ref a, u]) ρ σ k := fun G A s E Q hG hA hR hQ => by
  obtain ⟨t, rfl⟩ := hu
  have ho := Rel.barr hR.toRel0 hx
  refine wpAny_call_entry (by decide +kernel) slot_bytearray_extend ⟨_, ho, rfl⟩ entry_bytearray_extend ?_ (args_bytearray_extend _ _)
  unfold Builtin.«bytearray.extend»
  refine wpAny_bind (lift (PySem.wpAny_of_eq (a := (Value.ref a, Value.bytes x.toArray t)) rfl ?_))
  dsimp only
  refine wpAny_bind (lift (PySem.wpAny_of_eq (KBy.special_eq KBy.look_buffer) ?_))
  refine wpAny_ifT rfl ?_
  refine wpAny_bind (wpAny_rule ?_)
  refine wpAny_bind (lift (payload_ba ho ?_))
  refine wpAny_bind (lift (PySem.wpAny_of_eq take_bytes ?_))
  dsimp only
  refine wpAny_ifT rfl ?_
  show wpAny _ _ ((do if !x.toArray.isEmpty then checkResize (.ref a)
                      write (.ref a) (· ++ x.toArray)
                      ret .none) : Sem Fin) _ _ _
  have fin : wpAny (model pw_xm0629_01 c.w) A.in1 ((do write (.ref a) (· ++ x.toArray); ret .none) : Sem Fin) (fun fin s' => ∃ v, fin = .done (.ret v) ∧ Q v s') E s := by
    refine wpAny_bind (write_ba ho rfl (by simpa using hz) fun h' e he => wpAny_pure ⟨_, rfl, ?_⟩)
    refine hQ .none .none ρ _ h' s.toks h rfl (hR.turn hx he ?_)
    show h'.get? a = _
    rw [e, List.append_toArray]
  cases hb : !x.toArray.isEmpty with
  | true => exact wpAny_ifT rfl (wpAny_bind (checkResize_no ho rfl fin))
  | false => exact wpAny_ifF rfl fin
/-- the length -/
theorem T_len_ba {a : Addr} {b : List UInt8} {k : MV → Nm → St → Prop} (hx : σ a = some (.barr b)) (hz : b.length ≤ 16777216) (h : k (.int b.length) ρ σ) : TV c (call (.builtin "len") [.ref a]) ρ σ k := fun G A s E Q hG hA hR hQ => by
  have ho := Rel.barr hR.toRel0 hx
  refine lift (len_ba ho (by simpa using hz) fun t k => hQ (.int b.length) _ ρ σ s.heap k h (VR_int (by simp)) hR)
theorem T_len_bytes {b : List UInt8} {u : Value} {k : MV → Nm → St → Prop} (hu : VR (.bytes b) u) (hz : b.length ≤ 16777216) (h : k (.int b.length) ρ σ) : TV c (call (.builtin "len") [u]) ρ σ k := fun G A s E Q hG hA hR hQ => by
  obtain ⟨t, rfl⟩ := hu
  refine lift (len_bytes (by simp; omega) ?_)
  exact hQ (.int b.length) _ ρ σ s.heap _ h (VR_int (by simp)) hR
theorem T_len_list {a : Addr} {xs : List MV} {k : MV → Nm → St → Prop} (hx : σ a = some (.list xs)) (hz : xs.length ≤ 16777216) (h : k (.int xs.length) ρ σ) : TV c (call (.builtin "len") [.ref a]) ρ σ k := fun G A s E Q hG hA hR hQ => by
  obtain ⟨vs, hl, hv⟩ := list_of_rep (hR.obj _ _ hx)
  have := hv.length
  refine lift (call_len_list hl (by simp; omega) ?_)
  exact hQ (.int xs.length) _ ρ σ s.heap _ h (VR_int (by simp [this])) hR
end
end Mine

end
section
open PySem PySem.W PyProof.Rows PySem.Calls
set_option maxHeartbeats 4000000
set_option linter.unusedVariables false
set_option linter.unusedSimpArgs false
namespace MineK
open Builtin Builtin.Bytes
section
variable {prog : Program} {w : World} {A : Around} {E : Value → Shared → Prop} {s : Shared}
theorem tail_of {value slice : PySem.Expr} {o i : Value} {T id : String} {vs : List Value} {Q : Value → Shared → Prop} (hT : s.TypeIs o T)
    (hl : typeLookup (.type T) "__getitem__" = pure (some (.builtin id))) (h : wpAny (model prog w) A (getItem o i) Q E s)
    (hs : subscripted slice false o i = operate vs (getItem o i)) : wpAny (model prog w) A (subscriptTail value slice o i) Q E s := by
  unfold subscriptTail
  refine wpAny_bind ?_
  rw [getitemInPython_of_ne hT.not_modules]
  refine wpAny_bind (wpAny_specialOf hT hl ?_)
  have fin : wpAny (model prog w) A (subscripted slice false o i) (fun r s₃ => wpAny (model prog w) A (letTemporaryGo value o r >>= fun _ => pure r) Q E s₃) E s := by
    rw [hs]
    exact wpAny_operating (wpAny_mono h (fun r s₃ h₃ => wpAny_bind (wpAny_letTemporaryGo (wpAny_pure h₃))) fun _ _ x => x)
  first
    | exact wpAny_pure (wpAny_bind fin)
    | exact wpAny_bind (wpAny_pure (wpAny_bind fin))
    | exact wpAny_bind fin
theorem picked_nat (b : List UInt8) (lo : Nat) (hi : Option Nat) : KBy.picked b.toArray (some (lo : Int)) (hi.map fun (n : Nat) => (n : Int)) = ((b.drop lo).take (hi.getD b.length - lo)).toArray := by
  rw [KBc.picked_eq]
  congr 1
  have e : Option.elim (some (lo : Int)) 0 (clipAt b.toArray.size) = min lo b.length := by simp [clipAt_nat]
  rw [e]
  have e2 : Option.elim (hi.map fun (n : Nat) => (n : Int)) b.toArray.size (clipAt b.toArray.size) = min (hi.getD b.length) b.length := by
    cases hi with
    | none => simp
    | some n => simp [clipAt_nat]
  rw [e2]
  apply List.ext_getElem?
  intro i
  simp only [List.getElem?_take, List.getElem?_drop]
  by_cases h1 : i < min (hi.getD b.length) b.length - min lo b.length
  · rw [if_pos h1, if_pos (by omega)]
    congr 1; omega
  · rw [if_neg h1]
    split
    · symm
      apply List.getElem?_eq_none
      omega
    · rfl
theorem picked_zero (b : Array UInt8) (hi : Option Int) : KBy.picked b none hi = KBy.picked b (some ((0 : Nat) : Int)) hi := by
  rw [KBc.picked_eq, KBc.picked_eq]
  have : Option.elim (some ((0 : Nat) : Int)) 0 (clipAt b.size) = 0 := by show clipAt _ _ = 0; rw [clipAt_nat]; omega
  rw [this]; rfl
theorem ba_getitem {a sl : Addr} {b : Array UInt8} {l u : Value} {lo hi : Option Int} {Q : Value → Shared → Prop} (ho : BA s.heap a b) (hs : s.heap.IsSliceOf sl l u .none) (pl : IsPart l lo) (pu : IsPart u hi) (hz : b.size ≤ 16777216)
    (h : Q (.ref s.heap.objs.size) { s with heap := s.heap.push { cls := .type "bytearray", data := .bytearray (KBy.picked b lo hi) } }) : wpAny (model prog w) A (getItem (.ref a) (.ref sl)) Q E s := by
  have hT : s.TypeIs (.ref a) "bytearray" := ⟨_, ho, rfl⟩
  obtain ⟨o, hso, hc, hd⟩ := hs
  have hTs : s.TypeIs (.ref sl) "slice" := ⟨o, hso, hc⟩
  refine wpAny_getItem_slot hT (by decide) slot_bytearray_getitem (wpAny_call_entry slot_bytearray_getitem hT entry_bytearray_getitem ?_ (args_bytearray_getitem _ _))
  unfold Builtin.«bytearray.__getitem__»
  refine wpAny_bind (wpAny_of_eq (a := (Value.ref a, [Value.ref sl])) rfl ?_)
  dsimp only
  refine wpAny_bind ?_
  unfold subscript?
  refine wpAny_bind (wpAny_specialOf hTs slice_no_index (wpAny_pure ?_))
  dsimp only
  refine wpAny_bind (wpAny_typeOf hTs ?_)
  refine bm_if_false rfl ?_
  refine wpAny_bind ?_
  unfold sliceParts
  refine wpAny_bind (wpAny_field (x := .none) hso hd rfl ?_)
  kby_none
  refine wpAny_ite (KBy.ite_no (show ¬ ((Value.none == rawInt 0) = true) from Bool.false_ne_true) ?_)
  refine wpAny_bind (wpAny_field (x := l) hso hd rfl ?_)
  have go : wpAny (model prog w) A.in1 (sliceIndices (rawPart lo) (rawPart hi) (rawPart none) b.size) (fun r s' => r = sliceBounds lo hi none b.size ∧ s' = s) (fun _ _ => False) s :=
    wpAny_of_eq (sliceIndices_raw lo hi none b.size (fun e => nomatch e)) ⟨rfl, rfl⟩
  cases pl <;> cases pu <;> (first
    | (kby_none; (refine wpAny_bind (wpAny_field (x := .none) hso hd rfl ?_)); kby_none)
    | (kby_none; (refine wpAny_bind (wpAny_field (x := .int _ _) hso hd rfl ?_)); kby_int)
    | (kby_int; (refine wpAny_bind (wpAny_field (x := .none) hso hd rfl ?_)); kby_none)
    | (kby_int; (refine wpAny_bind (wpAny_field (x := .int _ _) hso hd rfl ?_)); kby_int)) <;> refine wpAny_pure ?_
  all_goals
    refine wpAny_bind (payload_ba ho ?_)
    refine wpAny_bind (wpAny_mono go (fun r s' hr => ?_) fun _ _ e => e.elim)
    obtain ⟨hr1, hr2⟩ := hr
    subst hr1 hr2
    unfold newBytearray
    refine wpAny_bind (wpAny_newObj_type (wpAny_pure ⟨_, rfl, h⟩) ?_)
    exact Nat.le_trans (KBc.size_picked_le b _ _) (by rw [sizeLine_eq]; exact hz)
end
end MineK

namespace Mine
open MineK
open PySem.Challenge (pw_xm0629_01 rw_xm0629_01)
section
variable {c : Cx} {ρ : Nm} {σ : St} {env : Env}
/-- subscripts: what the tail computes -/
noncomputable def isSl : Expr → Bool
  | .Slice .. => true
  | _ => false
theorem subd_item {slice : Expr} (h : isSl slice = false) (o i : Value) : subscripted slice false o i = operate [o, i] (getItem o i) := by
  cases slice <;> first | rfl | cases h
noncomputable def itemK (o i : MV) (σ : St) (k : MV → Prop) : Prop :=
  match o, i with
  | .bytes b, .int i => b.length ≤ 16777216 ∧ (0 ≤ i ∧ i < b.length) ∧ k (.int (b.getD i.toNat 0).toNat)
  | .ref a, .int i => (0 ≤ i ∧ i < 1000000) ∧ ∃ xs v, σ a = some (.list xs) ∧ xs[i.toNat]? = some v ∧ k v
  | _, _ => False
theorem T_item {value slice : Expr} {o i : MV} {u v : Value} {k : MV → Nm → St → Prop} (hs : isSl slice = false) (ho : VR o u) (hi : VR i v) (h : itemK o i σ fun r => k r ρ σ) : TV c (subscriptTail value slice u v) ρ σ k := fun G A s E Q hG hA hR hQ => by
  unfold itemK at h
  split at h
  · obtain ⟨t, rfl⟩ := ho; obtain ⟨t', rfl⟩ := hi
    refine lift (tail_of (typeIs_bytes _ _ _) FB.slot_bytes_getitem.lookup (getItem_bytes (by omega) h.2.1.1 h.2.1.2 ?_) (subd_item hs _ _))
    exact hQ _ _ ρ σ s.heap _ h.2.2 ⟨_, rfl⟩ hR
  · obtain ⟨h0, xs, x, hx, hv, hk⟩ := h
    cases ho; obtain ⟨t', rfl⟩ := hi
    obtain ⟨vs, hl, hvs⟩ := list_of_rep (hR.obj _ _ hx)
    obtain ⟨y, hy, hvy⟩ := hvs.get hv
    refine lift (tail_of hl.typeIs PySem.slot_list_getitem.lookup (wpAny_getItem_list hl h0.1 (by omega) (by simpa using hy) ?_) (subd_item hs _ _))
    exact hQ _ _ ρ σ s.heap _ hk hvy hR
  · exact h.elim
theorem T_Subscript {value slice : Expr} {pos : Pos} {k : MV → Nm → St → Prop} (hs : isSl slice = false)
    (h : TV c (eval value env) ρ σ fun o ρ' σ' => TV c (eval slice env) ρ' σ' fun i ρ'' σ'' => itemK o i σ'' fun r => k r ρ'' σ'') : TV c (eval (.Subscript value slice pos) env) ρ σ k := fun G A s E Q hG hA hR hQ => by
  rw [eval_Subscript]
  refine wpAny_bind (h G A s E _ hG hA hR fun o u ρ' σ' h' t' q hu R => ?_)
  refine wpAny_bind (wpAny_holding (q G A ⟨h', s.gens, s.drawn, t', s.os⟩ E _ hG hA R fun i v ρ'' σ'' h'' t'' q' hv R' => ?_))
  refine wpAny_bind (wpAny_standAt ?_)
  exact T_item hs hu hv q' G A ⟨h'', s.gens, s.drawn, t'', s.os⟩ E Q hG hA R' hQ
/-! slices -/
noncomputable def partN : MV → Option (Option Nat)
  | .none => some none
  | .int i => if 0 ≤ i then some (some i.toNat) else none
  | _ => none
theorem part_of {m : MV} {u : Value} {r : Option Nat} (hv : VR m u) (h : partN m = some r) : IsPart u (r.map fun (n : Nat) => (n : Int)) := by
  unfold partN at h
  split at h
  · cases h; cases hv; exact .none
  · split at h
    · rename_i h0
      cases h; obtain ⟨t, rfl⟩ := hv
      show IsPart _ (some ((_ : Nat) : Int))
      rw [Int.toNat_of_nonneg h0]
      exact .int _ _
    · cases h
  · cases h
noncomputable def cut {α : Type} (b : List α) (lo hi : Option Nat) : List α := (b.drop (lo.getD 0)).take (hi.getD b.length - lo.getD 0)
theorem picked_cut (b : List UInt8) (lo hi : Option Nat) : KBy.picked b.toArray (lo.map fun (n : Nat) => (n : Int)) (hi.map fun (n : Nat) => (n : Int)) = (cut b lo hi).toArray := by
  cases lo with
  | none => rw [Option.map_none, picked_zero, picked_nat]; rfl
  | some n => rw [Option.map_some, picked_nat]; rfl
noncomputable def sliceK (o l u : MV) (σ : St) (k : MV → St → Prop) : Prop :=
  ∃ lo hi, partN l = some lo ∧ partN u = some hi ∧ match o with
  | .bytes b => b.length ≤ 16777216 ∧ k (.bytes (cut b lo hi)) σ
  | .ref a => (∃ b, σ a = some (.barr b) ∧ b.length ≤ 16777216 ∧ ∀ r, σ r = none → k (.ref r) (σ.upd r (.barr (cut b lo hi))))
  | _ => False
theorem T_partOpt {e : Option Expr} {k : MV → Nm → St → Prop} (h : match e with | none => k .none ρ σ | some e => TV c (eval e env) ρ σ k) : TV c (valueOrNone (evalOpt e env)) ρ σ k := by
  cases e with
  | none => exact T_pure (V := VR) (b := MV.none) rfl h
  | some e => exact h
theorem T_SubSlice {value : Expr} {lower upper : Option Expr} {p pos : Pos} {k : MV → Nm → St → Prop}
    (h : TV c (eval value env) ρ σ fun o ρ' σ' => TV c (valueOrNone (evalOpt lower env)) ρ' σ' fun l ρ₁ σ₁ => TV c (valueOrNone (evalOpt upper env)) ρ₁ σ₁ fun u ρ₂ σ₂ => sliceK o l u σ₂ fun r σ₃ => k r ρ₂ σ₃) :
    TV c (eval (.Subscript value (.Slice lower upper none p) pos) env) ρ σ k := fun G A s E Q hG hA hR hQ => by
  rw [eval_Subscript, arm_eval_Slice]
  refine wpAny_bind (h G A s E _ hG hA hR fun o uo ρ' σ' h' t' q hu R => ?_)
  refine wpAny_bind (wpAny_holding (wpAny_bind (q G A ⟨h', s.gens, s.drawn, t', s.os⟩ E _ hG hA R fun l ul ρ₁ σ₁ h₁ t₁ q₁ hl R₁ => ?_)))
  refine wpAny_bind (wpAny_holding (q₁ G A ⟨h₁, s.gens, s.drawn, t₁, s.os⟩ E _ hG hA R₁ fun m um ρ₂ σ₂ h₂ t₂ q₂ hm R₂ => ?_))
  refine wpAny_bind (wpAny_holding (wpAny_pure ?_))
  refine lift (wpAny_newObj_type ?_)
  refine wpAny_bind (wpAny_standAt (lift ?_))
  obtain ⟨lo, hi, pl, pu, q₂⟩ := q₂
  have k1 : ∀ b o, h₂.get? b = some o → (h₂.push { cls := .type "slice", data := .fields #[ul, um, .none] }).get? b = some o := fun b o e => Heap.get?_push_of_some _ e
  have hsl : (h₂.push { cls := .type "slice", data := .fields #[ul, um, .none] }).IsSliceOf h₂.objs.size ul um .none := Heap.IsSliceOf.new _ _ _ _
  have R₃ := R₂.grow k1
  split at q₂
  · rename_i b
    obtain ⟨t, rfl⟩ := hu
    refine tail_of (vs := [.ref h₂.objs.size, _]) (typeIs_bytes _ _ _) FB.slot_bytes_getitem.lookup (getItem_meets (typeIs_bytes _ _ _) (by decide) FB.slot_bytes_getitem FB.entry_bytes_getitem (FB.args_bytes_getitem_2 _ _) (KBc.meets_slice2 b.toArray t _ (part_of hl pl) (part_of hm pu))
      ⟨hsl, ?_, fun t' k' => ?_⟩) rfl
    · exact Nat.le_trans (KBc.size_picked_le _ _ _) (by rw [sizeLine_eq]; simpa using q₂.1)
    · rw [picked_cut]
      exact hQ _ _ ρ₂ σ₂ _ k' q₂.2 ⟨_, rfl⟩ R₃
  · rename_i a
    cases hu
    obtain ⟨b, hb, hz, q₂⟩ := q₂
    have ho := Rel.barr R₃.toRel0 hb
    refine tail_of (vs := [.ref h₂.objs.size, _]) ⟨_, ho, rfl⟩ slot_bytearray_getitem.lookup (ba_getitem ho hsl (part_of hl pl) (part_of hm pu) (by simpa using hz) ?_) rfl
    have hn := R₃.toRel0.none_of_ge (Nat.le_refl _)
    refine hQ _ _ ρ₂ _ _ t₂ (q₂ _ hn) rfl (R₃.push (Nat.le_refl _) (fun b o e => Heap.get?_push_of_some _ e) ?_)
    show Heap.get? _ _ = _
    rw [picked_cut]
    exact Heap.get?_push_size _ rfl
  · exact q₂.elim
end
end Mine

end
section
open PySem PySem.W PyProof.Rows PySem.Calls
set_option maxHeartbeats 4000000
set_option linter.unusedVariables false
set_option linter.unusedSimpArgs false
namespace MineK
open Builtin Builtin.Bytes
section
variable {prog : Program} {w : World} {A : Around} {E : Value → Shared → Prop} {s : Shared}
theorem ba_new {a : Addr} {b : Array UInt8} {Q : Value → Shared → Prop} (ho : BA s.heap a b) (hz : b.size ≤ sizeLine)
    (hQ : ∀ t k, Q (.bytes b t) { s with toks := k }) :
    codeAny (model prog w) A (.call (.builtin "bytes.__new__") ⟨[.type "bytes", .ref a], []⟩) (wants Q E) s := by
  refine codeAny_of_tree ?_
  show wpAny _ A.in1 (do checkBuiltinCall "bytes.__new__" ⟨[.type "bytes", .ref a], []⟩; again (.builtin "bytes.__new__" ⟨[.type "bytes", .ref a], []⟩)) _ _ s
  refine wpAny_bind (wpAny_of_eq (F.bm_newCall _) (wpAny_pure ⟨plainId_quiet F.bm_plain _, codeAny_builtin F.bm_entry ?_⟩))
  rw [Around.under_plainId F.bm_plain _]
  have hT : s.TypeIs (.ref a) "bytearray" := ⟨_, ho, rfl⟩
  unfold Builtin.«bytes.__new__»
  refine wpAny_bind (wpAny_of_eq (a := true) rfl ?_)
  refine bm_if_false rfl ?_
  refine wpAny_bind (wpAny_of_eq F.bm_sub ?_)
  refine bm_if_false rfl ?_
  refine wpAny_bind (wpAny_of_eq (F.bm_bind _) ?_)
  refine wpAny_bind (wpAny_of_eq (a := ()) rfl ?_)
  refine wpAny_bind (wpAny_of_eq (a := ()) rfl ?_)
  refine bm_if_false rfl ?_
  refine wpAny_bind (wpAny_specialOf hT look_ba_bytes ?_)
  refine wpAny_bind (wpAny_bind ?_)
  show wpAny _ _ (load a >>= _) _ _ _
  refine wpAny_bind (wpAny_load ho ?_)
  refine wpAny_pure (wpAny_pure ?_)
  refine bm_if_false rfl ?_
  refine wpAny_bind (wpAny_specialOf hT look_ba_index ?_)
  refine bm_if_true rfl ?_
  first
    | show wpAny _ _ (Builtin.Bytes.buffer? "bytes.__new__" (.ref a) true >>= _) _ _ _
    | (refine wpAny_bind ?_; show wpAny _ _ (Builtin.Bytes.buffer? "bytes.__new__" (.ref a) true >>= _) _ _ _)
  refine wpAny_bind (buffer_ba ho ?_)
  dsimp only
  refine wpAny_bind (wpAny_rule ?_)
  refine wpAny_bind (wpAny_mkBytes ?_ hz)
  show wpAny _ _ (if (Value.type "bytes" == Value.type "bytes") = true then _ else _) _ _ _
  refine bm_if_true (by decide) ?_
  first
    | exact wpAny_pure (hQ _ _)
    | exact wpAny_bind (wpAny_pure (wpAny_pure (hQ _ _)))
theorem call_bytes_ba {a : Addr} {b : Array UInt8} {Q : Value → Shared → Prop} (ho : BA s.heap a b) (hz : b.size ≤ sizeLine)
    (hQ : ∀ t k, Q (.bytes b t) { s with toks := k }) : wpAny (model prog w) A (call (.type "bytes") [.ref a]) Q E s := by
  refine callType_codes (Q₁ := fun obj s₁ => s₁.TypeIs obj "bytes" ∧ Q obj s₁) F.bm_called (F.bm_typeCall _) F.entry_object_init
    (ba_new ho hz fun t k => ⟨PySem.W.typeIs_bytes _ _ _, hQ t k⟩) fun obj s₁ h₁ => ?_
  exact ⟨h₁.1, F.args_object_init_2 obj _, object_init_meets F.bm_called.init.lookup F.bm_called.made (by decide) prog w A.in1 _ s₁ ⟨h₁.1, rfl, h₁.2⟩⟩
open Mine (VRs MV) in
theorem ext_loop {b : Array UInt8} {t : Tok} {S I : Addr} {res : Value} {R : Result → Shared → Prop} (hh : A.handled = none) (hSI : S ≠ I) : ∀ (l : List UInt8) (j : Nat) (s : Shared) (acc : List Value) (c : Nat), b.toList.drop j = l → KBw.IsBytesIter s.heap I b t j →
    s.heap.get? S = some { cls := .type "list", dict := none, data := .seq acc.toArray c, slots := #[] } → acc.length + l.length ≤ 1000000 →
    (∀ h' k vs c', VRs (l.map fun (x : UInt8) => MV.int x.toNat) vs → h'.get? S = some { cls := .type "list", dict := none, data := .seq (acc ++ vs).toArray c', slots := #[] } → (∀ x o, x ≠ S → x ≠ I → s.heap.get? x = some o → h'.get? x = some o) → R (.ok (.ret res)) { s with heap := h', toks := k }) →
    codeAny (model prog w) A (.builtin "list.extend.loop" ⟨[.ref S, .ref I, res], []⟩) R s := by
  intro l
  induction l with
  | nil =>
    intro j s acc c hd hit hS hz hR
    refine codeAny_builtin F.entry_extend_loop ?_
    rw [Around.under_plainId F.plain_extend_loop _]
    show wpAny _ A.in1 (pyNext (.ref I) >>= _) _ _ s
    have hn : b[j]? = none := by
      have := congrArg List.length hd
      rw [List.length_drop] at this
      exact Array.getElem?_eq_none (by simp at this; omega)
    refine wpAny_bind (KBw.next_end hh hit hn fun h' hs => ?_)
    refine wpAny_pure (hR h' s.toks [] c trivial ?_ fun x o h1 h2 e => hs x o h2 e)
    rw [List.append_nil]; exact hs S _ hSI hS
  | cons y l ih =>
    intro j s acc c hd hit hS hz hR
    refine codeAny_builtin F.entry_extend_loop ?_
    rw [Around.under_plainId F.plain_extend_loop _]
    show wpAny _ A.in1 (pyNext (.ref I) >>= _) _ _ s
    have hy : b[j]? = some y := by
      have := congrArg (fun l => l[0]?) hd
      simpa using this
    have hd' : b.toList.drop (j + 1) = l := by
      have := congrArg List.tail hd
      simpa using this
    refine wpAny_bind (KBw.next_item hit hy fun h' hit' hs => ?_)
    have hS' := (hs.2 S hSI).trans hS
    show wpAny _ A.in1 (updateSeq S (·.push _) >>= _) _ _ _
    simp only [List.length_cons] at hz
    have hnew : (h'.update S (Obj.mapSeq (·.push (.int y.toNat s.toks)))).get? S = some { cls := .type "list", dict := none, data := .seq (acc ++ [Value.int y.toNat s.toks]).toArray (c + 1), slots := #[] } := by
      rw [Heap.get?_update_self _ hS' (by rw [Obj.mapSeq_push_plain]; rfl), Obj.mapSeq_push_plain, List.push_toArray]
    refine wpAny_bind (wpAny_updateSeq hS' rfl (wpAny_pure ⟨plainId_quiet F.plain_extend_loop _, ih (j + 1) _ (acc ++ [Value.int y.toNat s.toks]) (c + 1) hd' ?_ hnew ?_ fun h'' k vs c' hv hS'' hk => ?_⟩) ?_ ?_)
    · obtain ⟨o, h1, h2⟩ := hit'
      exact ⟨o, (Heap.get?_update_ne _ _ _ _ (Ne.symm hSI)).trans h1, h2⟩
    · simp only [List.length_append, List.length_cons, List.length_nil]; omega
    · refine hR h'' k (Value.int y.toNat s.toks :: vs) c' ⟨⟨_, rfl⟩, hv⟩ (by rw [hS'', List.append_assoc]; rfl) fun x o h1 h2 e => hk x o h1 h2 ?_
      exact (Heap.get?_update_ne _ _ _ _ h1).trans ((hs.2 x h2).trans e)
    · rw [List.size_toArray, sizeLine_eq]; omega
    · rw [Array.size_push, List.size_toArray, sizeLine_eq]; omega
open Mine (VRs MV) in
theorem ext_bytes {b : List UInt8} {t : Tok} {S : Addr} {acc : List Value} {c : Nat} {Q : Value → Shared → Prop} (hh : A.handled = none) (hS : s.heap.get? S = some { cls := .type "list", dict := none, data := .seq acc.toArray c, slots := #[] }) (hz : acc.length + b.length ≤ 1000000)
    (h : ∀ h' k vs c', VRs (b.map fun (x : UInt8) => MV.int x.toNat) vs → h'.get? S = some { cls := .type "list", dict := none, data := .seq (acc ++ vs).toArray c', slots := #[] } → (∀ x o, x ≠ S → s.heap.get? x = some o → h'.get? x = some o) → Q .none { s with heap := h', toks := k }) :
    wpAny (model prog w) A (call (.builtin "list.extend") [.ref S, .bytes b.toArray t]) Q E s := by
  refine wpAny_call (codeAny_call_builtin PySem.F.slot_list_extend.plain PySem.F.entry_list_extend (PySem.F.slot_list_extend.check _ _ _ _ _ _ _ _ ⟨_, hS, rfl⟩ (PySem.F.args_list_extend_2 _ _) ?_))
  have hSI : S ≠ s.heap.objs.size := Nat.ne_of_lt (Heap.lt_size hS)
  show wpAny _ _ (Builtin.List.listExtendWith (.ref S) (.bytes b.toArray t) .none) _ _ s
  unfold Builtin.List.listExtendWith
  refine wpAny_bind (wpAny_typeOf (T := "bytes") (v := .bytes b.toArray t) rfl ?_)
  have h1 : Builtin.List.listSameRef (.ref S) (.bytes b.toArray t) = false := rfl
  have h2 : (Value.type "bytes" == Value.type "list") = false := by decide
  have h3 : (Value.type "bytes" == Value.type "tuple") = false := by decide
  simp only [h1, h2, h3, Bool.or_false, Bool.false_eq_true, if_false]
  refine wpAny_bind (KBw.pyIter_bytes ?_)
  refine wpAny_bind (wpAny_holding ?_)
  unfold Builtin.List.listLengthHint
  refine wpAny_bind (wpAny_specialOf (T := "bytes") (v := .bytes b.toArray t) rfl FB.slot_bytes_len.lookup ?_)
  wp_delta
  refine wpAny_bind (wpAny_isInstance (T := "bytes") (v := .bytes b.toArray t) (b := true) rfl (by rw [isSubtype_type]; kernel_rfl) ?_)
  show wpAny _ _ (typeOf (Value.bytes b.toArray t) >>= _) _ _ _
  refine wpAny_bind (wpAny_typeOf (T := "bytes") (v := .bytes b.toArray t) rfl ?_)
  refine wpAny_pure ?_
  rw [if_neg (by decide)]
  have hS₁ : (s.heap.push { cls := .type "bytes_iterator", data := .fields #[.bytes b.toArray t, .int 0 0] }).get? S = some { cls := .type "list", dict := none, data := .seq acc.toArray c, slots := #[] } := Heap.get?_push_of_some _ hS
  refine wpAny_pure ⟨plainId_quiet F.plain_extend_loop _, ext_loop (b := b.toArray) (t := t) hh hSI b 0 { s with heap := s.heap.push { cls := .type "bytes_iterator", data := .fields #[.bytes b.toArray t, .int 0 0] } } acc c rfl ⟨_, Heap.get?_push_size _ rfl, rfl, rfl⟩ hS₁ hz fun h' k vs c' hv hS' hk => ?_⟩
  exact h h' k vs c' hv hS' fun x o hx e => hk x o hx (Nat.ne_of_lt (Heap.lt_size e)) (Heap.get?_push_of_some _ e)
end
end MineK
namespace Mine
open MineK
open PySem.Challenge (pw_xm0629_01 rw_xm0629_01)
section
variable {c : Cx} {ρ : Nm} {σ : St} {env : Env}
theorem Rel.turnG {G : Fz} {L : Addr} {ρ : List (Str × MV)} {σ : St} {h h' : Heap} {a : Addr} {o o' : MObj} (R : Rel G L ρ σ h) (e : σ a = some o) (hs : ∀ b x, b ≠ a → h.get? b = some x → h'.get? b = some x) (r : Rep h' a o') : Rel G L ρ (σ.upd a o') h' where
  keep b ob q := hs b ob (fun x => by have := R.new a o e; rw [← x, q] at this; cases this) (R.keep b ob q)
  obj b ob q := by
    by_cases hb : b = a
    · subst hb; simp at q; subst q; exact r
    · rw [St.upd_ne hb] at q
      have z := R.obj b ob q
      obtain ⟨oo, ho⟩ := z.lives
      exact z.at ((hs _ _ hb ho).trans ho.symm)
  new b ob q := by
    by_cases hb : b = a
    · subst hb; exact R.new b o e
    · rw [St.upd_ne hb] at q; exact R.new b ob q
  ns := by
    obtain ⟨m, ⟨o₁, es, ep, ho, r1⟩, r2⟩ := R.ns
    exact ⟨m, ⟨o₁, es, ep, hs L o₁ (fun x => by have := R.freshL; rw [x, e] at this; cases this) ho, r1⟩, r2⟩
  freshL := by rw [St.upd_ne fun x => by have := R.freshL; rw [x, e] at this; cases this]; exact R.freshL
  offL := R.offL
theorem T_bytes_ba {a : Addr} {b : List UInt8} {k : MV → Nm → St → Prop} (hx : σ a = some (.barr b)) (hz : b.length ≤ 16777216) (h : k (.bytes b) ρ σ) : TV c (call (.type "bytes") [.ref a]) ρ σ k := fun G A s E Q hG hA hR hQ => by
  have ho := Rel.barr hR.toRel0 hx
  exact lift (call_bytes_ba ho (by rw [sizeLine_eq]; simpa using hz) fun t k => hQ (.bytes b) _ ρ σ s.heap k h ⟨t, rfl⟩ hR)
noncomputable def bytesOf (ns : List Int) : List UInt8 := ns.map fun n => n.toNat.toUInt8
theorem T_bytes_ints {a : Addr} {ns : List Int} {k : MV → Nm → St → Prop} (hx : σ a = some (.list (ns.map .int))) (hr : ∀ n ∈ ns, 0 ≤ n ∧ n < 256) (hz : ns.length ≤ 16777216) (h : k (.bytes (bytesOf ns)) ρ σ) : TV c (call (.type "bytes") [.ref a]) ρ σ k := fun G A s E Q hG hA hR hQ => by
  obtain ⟨vs, hl, hv⟩ := list_of_rep (hR.obj _ _ hx)
  have hi := intsAre_of hv
  refine lift (call_bytes_ints hl hi hr (by rw [hi.length, sizeLine_eq]; exact hz) hA.handled fun h' t k hk => ?_)
  exact hQ (.bytes (bytesOf ns)) _ ρ σ h' k h ⟨t, rfl⟩ (hR.grow hk)
theorem T_list_append {a : Addr} {xs : List MV} {x : MV} {u : Value} {k : MV → Nm → St → Prop} (hx : σ a = some (.list xs)) (hu : VR x u) (hz : xs.length ≤ 1000000)
    (h : k .none ρ (σ.upd a (.list (xs ++ [x])))) : TV c (call (.builtin "list.append") [.ref a, u]) ρ σ k := fun G A s E Q hG hA hR hQ => by
  obtain ⟨vs, hl, hv⟩ := list_of_rep (hR.obj _ _ hx)
  have := hv.length
  obtain ⟨vs, n, e, hv⟩ := hR.obj _ _ hx
  have hlen := hv.length
  refine lift (wpAny_list_append_plain ⟨n, e⟩ (fun h' ⟨n', e'⟩ hs => ?_) (by rw [List.size_toArray, sizeLine_eq]; omega))
  refine hQ .none .none ρ _ h' s.toks h rfl (hR.turn hx (fun y hy => hs.2 y hy) ⟨vs ++ [u], n', ?_, hv.append ⟨hu, trivial⟩⟩)
  rw [e', List.push_toArray]
theorem T_list_extend_bytes {a : Addr} {xs : List MV} {b : List UInt8} {u : Value} {k : MV → Nm → St → Prop} (hx : σ a = some (.list xs)) (hu : VR (.bytes b) u) (hz : xs.length + b.length ≤ 1000000)
    (h : k .none ρ (σ.upd a (.list (xs ++ b.map fun (x : UInt8) => MV.int x.toNat)))) : TV c (call (.builtin "list.extend") [.ref a, u]) ρ σ k := fun G A s E Q hG hA hR hQ => by
  obtain ⟨t, rfl⟩ := hu
  obtain ⟨vs, n, e, hv⟩ := hR.obj _ _ hx
  have hlen := hv.length
  refine lift (ext_bytes hA.handled e (by omega) fun h' k' us c' hus e' hk => ?_)
  exact hQ .none .none ρ _ h' k' h rfl (hR.turnG hx (fun x o hx e => hk x o hx e) ⟨vs ++ us, c', e', hv.append hus⟩)
theorem T_list_extend_list {a y : Addr} {xs ys : List MV} {k : MV → Nm → St → Prop} (hx : σ a = some (.list xs)) (hy : σ y = some (.list ys)) (hz : xs.length + ys.length ≤ 1000000)
    (h : k .none ρ (σ.upd a (.list (xs ++ ys)))) : TV c (call (.builtin "list.extend") [.ref a, .ref y]) ρ σ k := fun G A s E Q hG hA hR hQ => by
  obtain ⟨vs, n, e, hv⟩ := hR.obj _ _ hx
  obtain ⟨us, n2, e2, hv2⟩ := hR.obj _ _ hy
  have l1 := hv.length
  have l2 := hv2.length
  refine lift (call_meets PySem.F.slot_list_extend ⟨_, e, rfl⟩ PySem.F.entry_list_extend (PySem.F.args_list_extend_2 _ _) (PySem.AutoSeq1.list_extend_list_list_0 a vs.toArray n y us.toArray n2 ?_ ?_ ?_) ⟨e, e2, ?_⟩)
  · simp [Builtin.List.listTooLong, sizeLine_eq]; omega
  · rw [List.size_toArray, sizeLine_eq]; omega
  · rw [List.size_toArray, List.size_toArray, sizeLine_eq]; omega
  · obtain ⟨n', hn⟩ : ∃ n', Obj.mapSeq (fun x => x ++ us.toArray) { cls := .type "list", dict := none, data := .seq vs.toArray n, slots := #[] } = { cls := .type "list", dict := none, data := .seq (vs ++ us).toArray n', slots := #[] } := by
      simp [Obj.mapSeq]
    refine hQ .none .none ρ _ _ s.toks h rfl (hR.turn hx (fun b hb => Heap.get?_update_ne _ _ _ _ hb) ⟨vs ++ us, n', ?_, hv.append hv2⟩)
    rw [Heap.get?_update_self _ e (by rw [hn]; rfl), hn]
end
end Mine

end
section
open PySem PySem.W PyProof.Rows PySem.Calls
set_option maxHeartbeats 4000000
set_option linter.unusedVariables false
set_option linter.unusedSimpArgs false
namespace MineK
open Builtin Builtin.Bytes
theorem look_ba_new : typeLookup (.type "bytearray") "__new__" = pure (some (.builtin "bytearray.__new__")) := by rw [typeLookup_type, builtinLookup_eq_fast]; kernel_rfl
theorem mro_ba : mroOf (.type "bytearray") = pure [.type "bytearray", .type "object"] := by rw [mroOf_type]; kernel_rfl
theorem slot_ba_init : Slot "bytearray" "__init__" "bytearray.__init__" :=
  .of (owner := "bytearray") (n := "__init__") (by rw [typeLookup_type, builtinLookup_eq_fast]; kernel_rfl) (by decide +kernel) (by decide +kernel) (by decide +kernel)
    (by first | exact .inl (by decide +kernel) | exact .inr (by decide +kernel)) (by rw [isSubtype_type]; kernel_rfl)
theorem entry_ba_init : entryFor table "bytearray.__init__" = some Builtin.«bytearray.__init__» := entryFor_of_tree (by kernel_rfl)
theorem called_ba : TypeCalled "bytearray" "bytearray.__new__" "bytearray.__init__" :=
  ⟨by decide +kernel, by decide +kernel, ⟨_, _, mro_ba⟩, madeBy_type mro_ba look_ba_new (by decide +kernel), by decide +kernel, by rw [isSubtype_type]; kernel_rfl, slot_ba_init⟩
theorem typeCall_ba : checkTypeCall "bytearray" ⟨[], []⟩ = pure () := by kernel_rfl
theorem newCall_ba : checkBuiltinCall "bytearray.__new__" ⟨[.type "bytearray"], []⟩ = pure () := by kernel_rfl
theorem entry_ba_new : entryFor table "bytearray.__new__" = some Builtin.«list.__new__» := entryFor_alias (id' := "list.__new__") (by rw [fastTable_eq_tree]; kernel_rfl) (by decide +kernel) (by decide +kernel) (by rw [fastTable_eq_tree]; kernel_rfl)
theorem plain_ba_new : plainId "bytearray.__new__" = true := by decide +kernel
theorem args_ba_init (a : Value) : argsOk "bytearray.__init__" ⟨[a], []⟩ := by
  unfold argsOk; rw [signature?_of (id := "bytearray.__init__") (n := ['_', '_', 't', 'i', 'n', 'i', '_', '_']) (o := ['y', 'a', 'r', 'r', 'a', 'e', 't', 'y', 'b']) (by kernel_rfl) owner_bytearray]; kernel_rfl
theorem bind_ba : Builtin.Bytes.bindOptional "bytearray.__init__" "bytearray" ["source", "encoding", "errors"] [] [] = pure [none, none, none] := by kernel_rfl
theorem owner_ba_new : ("bytearray.__new__".splitOn ".__new__").headD "" = "bytearray" := by first | (simp +decide [String.splitOn, String.splitOnAux]; done) | decide +kernel
section
variable {prog : Program} {w : World} {A : Around} {E : Value → Shared → Prop} {s : Shared}
theorem code_ba_new {Q₁ : Value → Shared → Prop}
    (h : Q₁ (.ref s.heap.objs.size) { s with heap := s.heap.push { cls := .type "bytearray", data := .bytearray #[] } }) :
    codeAny (model prog w) A (.call (.builtin "bytearray.__new__") ⟨[.type "bytearray"], []⟩) (wants Q₁ E) s := by
  refine codeAny_of_tree ?_
  show wpAny _ A.in1 (do checkBuiltinCall "bytearray.__new__" ⟨[.type "bytearray"], []⟩; again (.builtin "bytearray.__new__" ⟨[.type "bytearray"], []⟩)) _ _ s
  refine wpAny_bind (wpAny_of_eq newCall_ba (wpAny_pure ⟨plainId_quiet plain_ba_new _, codeAny_builtin_stack entry_ba_new rfl fun p st => ?_⟩))
  rw [Around.under_plainId plain_ba_new _]
  have hsub := sub_ba_ba
  have hown := owner_ba_new
  obtain ⟨hp, g, d, tk, os⟩ := s
  simp only [hown]
  wp_walk
  exact h
end
end MineK
namespace Mine
open MineK Builtin Builtin.Bytes
open PySem.Challenge (pw_xm0629_01 rw_xm0629_01)
section
variable {prog : Program} {w : World} {A : Around} {E : Value → Shared → Prop} {s : Shared}
theorem orExp_no {a : Addr} {o : Obj} {b : Array UInt8} {Q : Bool → Shared → Prop} (ho : s.heap.get? a = some o) (hd : o.data = .bytearray b 0) (h : Q false s) :
    wpAny (model prog w) A (exported (.ref a) <||> (do return (← exportsOf (.ref a)) > 0)) Q E s := by
  show wpAny _ _ (exported (.ref a) >>= fun x => _) _ _ s
  refine wpAny_bind (exported_no ?_)
  unfold exportsOf
  repeat (first | rw [hd] | (first | with_reducible refine Mine.wpAny_bind ?_ | with_reducible refine Mine.wpAny_pure ?_ | with_reducible refine Mine.wpAny_holding ?_ | with_reducible refine Mine.wpAny_onRaise ?_ | with_reducible refine Mine.wpAny_call ?_ | (with_reducible refine Mine.wpAny_ifF ?_ ?_; (first | rfl | kernel_rfl | assumption)) | (with_reducible refine Mine.wpAny_ifT ?_ ?_; (first | rfl | kernel_rfl | assumption)) | (with_reducible show Mine.wpAny _ _ _ _ _ _; dsimp only) | with_reducible refine Mine.lift ?_ | lk))
  exact h
theorem init_ba {a : Addr} {Q : Value → Shared → Prop} (ho : BA s.heap a #[]) (h : ∀ h', BA h' a #[] → (∀ x, x ≠ a → h'.get? x = s.heap.get? x) → Q .none { s with heap := h' }) :
    wpAny (model prog w) A (Builtin.«bytearray.__init__» ⟨[.ref a], []⟩) (fun fin s' => ∃ v, fin = .done (.ret v) ∧ Q v s') E s := by
  unfold Builtin.«bytearray.__init__»
  refine wpAny_bind (lift (release_ba ho ?_))
  refine wpAny_ifF rfl ?_
  refine wpAny_bind (lift (PySem.wpAny_of_eq bind_ba ?_))
  dsimp only
  refine wpAny_bind (lift (PySem.wpAny_of_eq (a := ()) rfl ?_))
  refine wpAny_bind (lift (PySem.wpAny_of_eq (a := ()) rfl ?_))
  refine wpAny_bind (orExp_no ho rfl ?_)
  refine wpAny_ifF rfl ?_
  refine wpAny_bind (write_ba ho rfl (Nat.zero_le _) fun h' e he => ?_)
  show wpAny _ _ ((pure () : Sem Unit) >>= fun _ => ret .none) _ _ _
  exact wpAny_bind (wpAny_pure (wpAny_pure ⟨_, rfl, h h' e he⟩))
theorem codeAny_builtin {id : String} {args : Args} {b : Builtin} {R : Result → Shared → Prop} (hd : decIds.contains id = false) (hb : entryFor table id = some b)
    (h : wpAny (model prog w) (A.under (.builtin id args)) (b args)
      (fun fin s' => match fin with | .done f => R (.ok f) s' | .again c' => c'.quiet = true ∧ codeAny (model prog w) A c' R s') (fun e s' => R (.error e) s') s) : codeAny (model prog w) A (.builtin id args) R s := by
  refine codeAny_of_tree hd ?_
  show wpAny _ _ (match entryFor table id with | some b => b args | none => unsupported ((withoutEnding? id "#data").getD id)) _ _ s
  rw [hb]; exact h
theorem call_ba {Q : Value → Shared → Prop} (h : ∀ h', BA h' s.heap.objs.size #[] → (∀ b o, s.heap.get? b = some o → h'.get? b = some o) → Q (.ref s.heap.objs.size) { s with heap := h' }) :
    wpAny (model prog w) A (call (.type "bytearray") []) Q E s := by
  have h1 := called_ba.notType
  have h2 := called_ba.canCreate
  obtain ⟨mc, ml, hmro⟩ := called_ba.mro
  have hmade := called_ba.made
  have hsub := called_ba.sub
  refine wpAny_call (codeAny_of_tree rfl (lift ?_))
  show PySem.wpAny _ _ (callAny (.type "bytearray") _) _ _ _
  refine PySem.wpAny_pure ⟨Code.quiet_builtin _ (by decide +kernel), codeAny_builtin (by decide +kernel) F.entry_type_call ?_⟩
  unfold Builtin.«type.__call__»
  repeat (first | simp only [h1, h2, hmro, hmade, hsub, Bool.false_eq_true, if_false] | (first | with_reducible refine Mine.wpAny_bind ?_ | with_reducible refine Mine.wpAny_pure ?_ | with_reducible refine Mine.wpAny_holding ?_ | with_reducible refine Mine.wpAny_onRaise ?_ | with_reducible refine Mine.wpAny_call ?_ | (with_reducible refine Mine.wpAny_ifF ?_ ?_; (first | rfl | kernel_rfl | assumption)) | (with_reducible refine Mine.wpAny_ifT ?_ ?_; (first | rfl | kernel_rfl | assumption)) | (with_reducible show Mine.wpAny _ _ _ _ _ _; dsimp only) | with_reducible refine Mine.lift ?_ | lk))
  refine codeAny_mono (liftC (code_ba_new (E := E) (Q₁ := fun v s' => v = .ref s.heap.objs.size ∧ s' = { s with heap := s.heap.push { cls := .type "bytearray", data := .bytearray #[] } }) ⟨rfl, rfl⟩)) fun r s' hr => ?_
  rcases r with e | (v | _ | _ | _) <;> first | exact hr | exact hr.elim | skip
  obtain ⟨rfl, rfl⟩ := hr
  have ho : BA (s.heap.push { cls := .type "bytearray", data := .bytearray #[] }) s.heap.objs.size #[] := Heap.get?_push_size _ rfl
  have hT : Shared.TypeIs { s with heap := s.heap.push { cls := .type "bytearray", data := .bytearray #[] } } (.ref s.heap.objs.size) "bytearray" := ⟨_, ho, rfl⟩
  dsimp only
  refine wpAny_bind (lift (wpAny_isInstance hT sub_ba_ba ?_))
  refine wpAny_ifF rfl ?_
  refine wpAny_bind (wpAny_holding ?_)
  unfold callSpecial?
  refine wpAny_bind (lift (wpAny_specialOf hT slot_ba_init.lookup ?_))
  dsimp only
  rw [slot_ba_init.bind]
  refine wpAny_holding (wpAny_bind (wpAny_pure (wpAny_bind ?_)))
  refine wpAny_call_entry (by decide +kernel) slot_ba_init hT entry_ba_init ?_ (args_ba_init _)
  refine init_ba ho fun h' ho' hk => wpAny_pure ?_
  refine wpAny_ifF rfl (wpAny_pure ?_)
  exact h h' ho' fun b o e => (hk b (Nat.ne_of_lt (Heap.lt_size e))).trans (Heap.get?_push_of_some _ e)
end
section
variable {c : Cx} {ρ : Nm} {σ : St} {env : Env}
theorem T_ba_new {k : MV → Nm → St → Prop} (h : ∀ r, σ r = none → k (.ref r) ρ (σ.upd r (.barr []))) : TV c (call (.type "bytearray") []) ρ σ k := fun G A s E Q hG hA hR hQ =>
  call_ba fun h' ho hk => hQ (.ref s.heap.objs.size) _ ρ _ h' s.toks (h _ (hR.toRel0.none_of_ge (Nat.le_refl _))) rfl (hR.push (Nat.le_refl _) hk ho)
theorem T_isinstance_bytes {b : List UInt8} {u : Value} {k : MV → Nm → St → Prop} (hu : VR (.bytes b) u) (h : k (.bool true) ρ σ) : TV c (call (.builtin "isinstance") [u, .type "bytes"]) ρ σ k := fun G A s E Q hG hA hR hQ => by
  obtain ⟨t, rfl⟩ := hu
  refine lift (call_isinstance_yes (Tx := "bytes") (typeIs_bytes _ _ _) ?_ F.bm_sub (hQ (.bool true) _ ρ σ s.heap s.toks h rfl hR))
  first | rfl | kernel_rfl
theorem T_ord {x : Str} {n : Nat} {u : Value} {k : MV → Nm → St → Prop} (hu : VR (.str x) u) (hx : x = ⟨#[n]⟩) (h : k (.int n) ρ σ) : TV c (call (.builtin "ord") [u]) ρ σ k := fun G A s E Q hG hA hR hQ => by
  obtain ⟨t, rfl⟩ := hu
  subst hx
  exact lift (P.ord_of_char (hQ (.int n) _ ρ σ s.heap _ h ⟨_, rfl⟩ hR))
end
end Mine

end
section
open PySem PySem.W PyProof.Rows PySem.Calls
set_option maxHeartbeats 4000000
set_option linter.unusedVariables false
set_option linter.unusedSimpArgs false
namespace MineK
open Builtin Builtin.Bytes
theorem slot_bytes_find : Slot "bytes" "find" "bytes.find" :=
  .of (owner := "bytes") (n := "find") (by rw [typeLookup_type, builtinLookup_eq_fast]; kernel_rfl) (by decide +kernel) (by decide +kernel) (by decide +kernel)
    (by first | exact .inl (by decide +kernel) | exact .inr (by decide +kernel)) (by rw [isSubtype_type]; kernel_rfl)
theorem type_bytes_find : typeOf (.builtin "bytes.find") = pure (.type "method_descriptor") := by show builtinType _ = _; rw [builtinType_eq_fast]; kernel_rfl
theorem entry_bytes_find : entryFor table "bytes.find" = some Builtin.«bytes.find» := entryFor_of_tree (by kernel_rfl)
theorem args_bytes_find (a b : Value) : argsOk "bytes.find" ⟨[a, b], []⟩ := by
  unfold argsOk; rw [signature?_of (id := "bytes.find") (n := ['d', 'n', 'i', 'f']) (o := ['s', 'e', 't', 'y', 'b']) (by kernel_rfl) FB.owner_bytes]; kernel_rfl
/-- where x stands in y; -1 if nowhere -/
noncomputable def findI (x y : List UInt8) : Int := match (if (y.length : Int) - 0 < x.length then none else find? y.toArray x.toArray 0 y.length) with
  | some i => (i : Int)
  | none => -1
section
variable {prog : Program} {w : World} {A : Around} {E : Value → Shared → Prop} {s : Shared}
theorem find_bytes {x y : List UInt8} {t u : Tok} {Q : Value → Shared → Prop} (h : ∀ t k, Q (.int (findI x y) t) { s with toks := k }) :
    wpAny (model prog w) A (call (.builtin "bytes.find") [.bytes y.toArray t, .bytes x.toArray u]) Q E s := by
  refine wpAny_call_entry slot_bytes_find (typeIs_bytes _ _ _) entry_bytes_find ?_ (args_bytes_find _ _)
  unfold Builtin.«bytes.find» searchM searchArgs
  refine wpAny_bind ?_
  refine wpAny_bind (wpAny_of_eq (a := (Value.bytes y.toArray t, [Value.bytes x.toArray u])) (by first | rfl | kernel_rfl) ?_)
  dsimp only
  refine wpAny_bind (wpAny_of_eq (a := none) rfl ?_)
  refine wpAny_bind (wpAny_of_eq (a := none) rfl ?_)
  refine wpAny_bind (wpAny_of_eq (KBy.buffer_eq (t := u)) ?_)
  dsimp only
  refine wpAny_bind (wpAny_pure ?_)
  refine wpAny_bind (wpAny_of_eq (a := y.toArray) rfl ?_)
  refine wpAny_pure ?_
  have hw : window y.toArray.size none none = (0, (y.length : Int)) := by
    unfold window
    simp
    omega
  rw [hw]
  dsimp only
  have key : ∀ (r : Option Nat), (match (if (y.length : Int) - 0 < x.length then none else find? y.toArray x.toArray 0 y.length) with | some i => (i : Int) | none => -1) = findI x y := fun _ => rfl
  by_cases hlt : (y.length : Int) - 0 < x.toArray.size
  · rw [if_pos hlt]
    have e : findI x y = -1 := by unfold findI; rw [if_pos (by simpa using hlt)]
    refine wpAny_bind (wpAny_rule (bm_if_false rfl (wpAny_bind (wpAny_mkInt (wpAny_pure ⟨_, rfl, ?_⟩)))))
    rw [← e]; exact h _ _
  · rw [if_neg hlt]
    have e : findI x y = match find? y.toArray x.toArray 0 y.length with | some i => (i : Int) | none => -1 := by unfold findI; rw [if_neg (by simpa using hlt)]
    show wpAny _ _ (match find? y.toArray x.toArray 0 ((y.length : Int)).toNat with | some i => retInt i | none => _) _ _ _
    rw [Int.toNat_natCast]
    cases hf : find? y.toArray x.toArray 0 y.length with
    | some i =>
      rw [hf] at e
      refine wpAny_bind (wpAny_mkInt (wpAny_pure ⟨_, rfl, ?_⟩))
      have := h s.toks (s.toks + 1); rw [e] at this; exact this
    | none =>
      rw [hf] at e
      refine wpAny_bind (wpAny_rule (bm_if_false rfl (wpAny_bind (wpAny_mkInt (wpAny_pure ⟨_, rfl, ?_⟩)))))
      have := h s.toks (s.toks + 1); rw [e] at this; exact this
end
end MineK

end
section
open PySem PySem.W PyProof.Rows PySem.Calls
set_option maxHeartbeats 4000000
set_option linter.unusedVariables false
set_option linter.unusedSimpArgs false
namespace Mine
open MineK
open PySem.Challenge (pw_xm0629_01 rw_xm0629_01)
noncomputable abbrev bK (w : World) := bytesKind pw_xm0629_01 w
/-- a dict with bytes as keys -/
noncomputable def IsKD (w : World) (o : Obj) (f : List UInt8 → Option MV) (n : Nat) : Prop := ∃ kvs, o.IsDictOf (bK w) kvs ∧ kvs.length ≤ n ∧ ∀ k, ORel (f k) (valueAt kvs k)
theorem valueAt_stored {K : Type} [DecidableEq K] (k : K) (v : Value) (x : K) : ∀ kvs : List (K × Value), valueAt (stored kvs k v) x = if x = k then some v else valueAt kvs x := by
  intro kvs
  have map_case : ∀ l : List (K × Value), valueAt (l.map fun kv => if kv.1 = k then (kv.1, v) else kv) x = if x = k ∧ l.any (fun kv => kv.1 = k) = true then some v else valueAt l x := by
    intro l
    induction l with
    | nil => simp [valueAt]
    | cons p r ih =>
      obtain ⟨y, u⟩ := p
      unfold valueAt at ih ⊢
      simp only [List.map_cons, List.find?_cons, List.any_cons]
      by_cases h1 : y = k
      · subst h1
        by_cases h2 : y = x
        · subst h2; simp
        · have h3 : ¬ x = y := fun e => h2 e.symm
          simp only [if_true, h2, decide_false, h3, false_and, if_false]
          rw [ih]; simp [h3]
      · simp only [h1, if_false, decide_false, Bool.false_or]
        by_cases h2 : y = x
        · subst h2; simp [h1]
        · simp only [h2, decide_false]; exact ih
  unfold stored
  split
  · rename_i h
    rw [map_case]
    simp only [h, and_true]
  · rename_i h
    unfold valueAt
    rw [List.find?_append]
    by_cases e : x = k
    · subst e
      have : kvs.find? (fun kv => decide (kv.1 = x)) = none := by
        rw [List.find?_eq_none]
        intro y hy hq
        exact h (List.any_eq_true.mpr ⟨y, hy, hq⟩)
      rw [this]; simp
    · have e' : ¬ k = x := fun q => e q.symm
      simp [e, e']
section
variable {c : Cx} {ρ : Nm} {σ : St} {env : Env}
theorem lt_main {w : World} {h₀ : Heap} (W : Wld w h₀) {G : Fz} {σ : St} {h : Heap} (R : Rel0 G σ h) (g : GOk h₀ G) : h.objs.size ≠ sysModules := by
  obtain ⟨o, es, ep, ho, _⟩ := W.main
  have := Heap.lt_size (R.stays g _ _ ho)
  intro e
  rw [e] at this
  exact absurd this (by decide)
theorem T_dict_new {k : MV → St → Prop} {pos : Pos} (h : ∀ r o, σ r = none → r ≠ sysModules → IsKD c.w o (fun _ => none) 0 → k (.ref r) (σ.upd r (.raw o))) : TV c (eval (.Dict [] [] pos) env) ρ σ (kE ρ k) := fun G A s E Q hG hA hR hQ => by
  refine lift (wpAny_Dict_empty ?_)
  refine hQ (.ref s.heap.objs.size) _ ρ _ _ s.toks ⟨rfl, h _ { cls := .type "dict", data := .dict #[] } (hR.toRel0.none_of_ge (Nat.le_refl _)) (lt_main c.W hR.toRel0 hG) ⟨[], ?_, Nat.le_refl _, fun _ => trivial⟩⟩ rfl
    (hR.push (Nat.le_refl _) (fun b o e => Heap.get?_push_of_some _ e) (Heap.get?_push_size _ rfl))
  refine ⟨#[], _, ?_, rfl, ?_, .nil, List.nodup_nil⟩
  · first | rfl | exact ⟨rfl, rfl⟩ | (unfold Obj.ExactDict; simp)
  · intro e he; simp at he
theorem T_dict_set {d : Addr} {o : Obj} {f : List UInt8 → Option MV} {n : Nat} {b : List UInt8} {x : MV} {u v : Value} {k : Nm → St → Prop} (hd : σ d = some (.raw o)) (ho : IsKD c.w o f n) (hn : n ≤ 1000) (hb : VR (.bytes b) u) (hx : VR x v)
    (h : ∀ o', IsKD c.w o' (fun y => if y = b then some x else f y) (n + 1) → k ρ (σ.upd d (.raw o'))) : TU c (setItem (.ref d) u v) ρ σ k := fun G A s E Q hG hA hR hQ => by
  obtain ⟨t, rfl⟩ := hb
  obtain ⟨kvs, hkv, hl, hf⟩ := ho
  have hdd : s.heap.DictOf (bK c.w) d kvs := Heap.dictOf_iff.mpr ⟨o, hR.obj _ _ hd, hkv⟩
  refine lift (wpAny_setItem_pairs (knd := bK c.w) (k := b) (by show PySem.W.isBytes b (Value.bytes b.toArray t) = true; simp [PySem.W.isBytes]) hdd (fun h' hd' hs => ?_) (by rw [sizeLine_eq]; omega))
  obtain ⟨o', ho', hk'⟩ := Heap.dictOf_iff.mp hd'
  refine hQ () () ρ _ h' _ (h o' ⟨_, hk', Nat.le_trans (stored_length_le _ _ _) (by omega), fun y => ?_⟩) trivial (hR.turn hd (fun y hy => hs.2 y hy) ho')
  rw [valueAt_stored]
  by_cases e : y = b
  · simp only [e, if_true]; exact hx
  · simp only [e, if_false]; exact hf y
theorem T_dict_get {d : Addr} {o : Obj} {f : List UInt8 → Option MV} {n : Nat} {b : List UInt8} {u : Value} {k : MV → Nm → St → Prop} (hd : σ d = some (.raw o)) (hne : d ≠ sysModules) (ho : IsKD c.w o f n) (hb : VR (.bytes b) u)
    (h : k ((f b).getD .none) ρ σ) : TV c (call (.builtin "dict.get") [.ref d, u]) ρ σ k := fun G A s E Q hG hA hR hQ => by
  obtain ⟨t, rfl⟩ := hb
  obtain ⟨kvs, hkv, hl, hf⟩ := ho
  have hdd : s.heap.DictOf (bK c.w) d kvs := Heap.dictOf_iff.mpr ⟨o, hR.obj _ _ hd, hkv⟩
  refine lift (call_meetsIn PySem.F.slot_dict_get hdd.mapOf.typeIs PySem.F.entry_dict_get (PySem.F.args_dict_get_2 _ _) (meets_dict_get (bK c.w) d (k := b) (by show PySem.W.isBytes b (Value.bytes b.toArray t) = true; simp [PySem.W.isBytes]) (by simpa using hne)) ⟨_, hdd.mapOf, ?_⟩)
  refine hQ _ _ ρ σ s.heap _ h ?_ hR
  have q := hf b
  cases e : f b with
  | none =>
    rw [e] at q
    cases e2 : valueAt kvs b with
    | none => rfl
    | some y => rw [e2] at q; exact q.elim
  | some x =>
    rw [e] at q
    cases e2 : valueAt kvs b with
    | none => rw [e2] at q; exact q.elim
    | some y => rw [e2] at q; exact q
end
end Mine

end
section
open PySem PySem.W PyProof.Rows PySem.Calls
set_option maxHeartbeats 4000000
set_option linter.unusedVariables false
set_option linter.unusedSimpArgs false
namespace Mine
open MineK
open PySem.Challenge (pw_xm0629_01 rw_xm0629_01)

/-! ## The small interpreter of expressions -/
section
variable {α β γ δ : Type} {V' : δ → γ → Prop} {c : Cx} {ρ : Nm} {σ : St} {env : Env}
theorem TE_bind {m : Sem Value} {f : Value → Sem γ} {k1 : MV → St → Prop} {k' : δ → Nm → St → Prop} (h : TV c m ρ σ (kE ρ k1)) (hf : ∀ v u σ', k1 v σ' → VR v u → T V' c (f u) ρ σ' k') : T V' c (m >>= f) ρ σ k' :=
  T_bind (h.mono fun v ρ' σ' q u hu => by obtain ⟨rfl, q⟩ := q; exact hf v u σ' q hu)
theorem TB_bind {m : Sem Bool} {f : Bool → Sem γ} {k1 : Bool → St → Prop} {k' : δ → Nm → St → Prop} (h : TB c m ρ σ (kB ρ k1)) (hf : ∀ b σ', k1 b σ' → T V' c (f b) ρ σ' k') : T V' c (m >>= f) ρ σ k' :=
  T_bind (h.mono fun v ρ' σ' q u hu => by obtain ⟨rfl, q⟩ := q; cases hu; exact hf v σ' q)
theorem TC_bind {m : Sem Value} {f : Value → Sem γ} {k1 : Bool → St → Prop} {k' : δ → Nm → St → Prop} (h : TV c m ρ σ (kBV ρ k1)) (hf : ∀ b σ', k1 b σ' → T V' c (f (.bool b)) ρ σ' k') : T V' c (m >>= f) ρ σ k' :=
  T_bind (h.mono fun v ρ' σ' q u hu => by obtain ⟨rfl, b, rfl, q⟩ := q; cases hu; exact hf b σ' q)

noncomputable def constK (cst : Const) (σ : St) (k : MV → St → Prop) : Prop :=
  match cst with
  | .none => k .none σ
  | .bool b => k (.bool b) σ
  | .int i => k (.int i) σ
  | .bytes b => k (.bytes b) σ
  | .str x => k (.str x) σ
  | _ => False
theorem const_sound {cst : Const} {k : MV → St → Prop} (h : constK cst σ k) : TV c (constValue env cst) ρ σ (kE ρ k) := by
  unfold constK at h
  split at h
  · exact T_pure (V := VR) (b := MV.none) rfl ⟨rfl, h⟩
  · exact T_pure (V := VR) (b := MV.bool _) rfl ⟨rfl, h⟩
  · exact T_mkInt ⟨rfl, h⟩
  · rename_i b
    intro G A s E Q hG hA hR hQ
    exact fun _ _ _ _ => hQ (.bytes b) (.bytes b.toArray s.toks) ρ σ s.heap (s.toks + 1) ⟨rfl, h⟩ ⟨_, rfl⟩ hR
  · rename_i x
    intro G A s E Q hG hA hR hQ
    exact fun _ _ _ _ => hQ (.str x) (.str x s.toks) ρ σ s.heap (s.toks + 1) ⟨rfl, h⟩ ⟨_, rfl⟩ hR
  · exact h.elim
noncomputable def unK (op : UnaryOp) (v : MV) (σ : St) (k : MV → St → Prop) : Prop :=
  match op, v with
  | .USub, .int i => k (.int (-i)) σ
  | _, _ => False
theorem un_sound {op : UnaryOp} {v : MV} {u : Value} {k : MV → St → Prop} (hu : VR v u) (h : unK op v σ k) : TV c (unaryOp op u) ρ σ (kE ρ k) := by
  unfold unK at h
  split at h
  · obtain ⟨t, rfl⟩ := hu
    exact T_ofVal (v := .int _) ⟨rfl, h⟩ fun A s E Q _ hq => neg_int (hq _ _ ⟨_, rfl⟩)
  · exact h.elim

/-! names -/
noncomputable def mvOf : Value → Option MV
  | .none => some .none
  | .bool b => some (.bool b)
  | .int i _ => some (.int i)
  | .bytes b _ => some (.bytes b.toList)
  | .ref a => some (.ref a)
  | _ => none
theorem mvOf_ok {u : Value} {v : MV} (h : mvOf u = some v) : VR v u := by
  cases u <;> simp only [mvOf] at h <;> first | (cases h; first | rfl | exact ⟨_, rfl⟩ | exact ⟨_, by simp⟩) | cases h
noncomputable def btab : List (Str × Value) := [("len", .builtin "len"), ("bytes", .type "bytes"), ("bytearray", .type "bytearray"), ("range", .type "range"), ("list", .type "list"), ("isinstance", .builtin "isinstance"), ("ord", .builtin "ord"), ("enumerate", .type "enumerate")]
noncomputable def nameK (env : Env) (x : Str) (ρ : Nm) (σ : St) (k : MV → St → Prop) : Prop :=
  match x == ("__debug__" : Str), env.kindOf x with
  | false, some .local => match look x ρ with
    | some v => k v σ
    | none => False
  | false, some .globalImplicit => match gl.lookup x with
    | some u => match mvOf u with
      | some v => k v σ
      | none => False
    | none => match btab.lookup x with
      | some u => k (.other u) σ
      | none => False
  | _, _ => False
/-- a frame of a def of the text -/
structure EnvOk (c : Cx) (env : Env) : Prop where
  locals : env.locals = c.L
  globals : env.globals = mainGlobals
  builtins : env.builtins = builtinsNs
  kind : env.scope.kind = .function
theorem btab_ok : ∀ p ∈ btab, bootBuiltins p.1 = some p.2 ∧ p.1 ≠ ("__name__" : Str) ∧ p.1 ∈ freeNames := by
  unfold btab
  simp only [List.forall_mem_cons, List.not_mem_nil, false_implies, implies_true, and_true]
  refine ⟨⟨by kernel_rfl, by decide +kernel, by decide +kernel⟩, ⟨by kernel_rfl, by decide +kernel, by decide +kernel⟩, ⟨by kernel_rfl, by decide +kernel, by decide +kernel⟩, ⟨by kernel_rfl, by decide +kernel, by decide +kernel⟩,
    ⟨by kernel_rfl, by decide +kernel, by decide +kernel⟩, ⟨by kernel_rfl, by decide +kernel, by decide +kernel⟩, ⟨by kernel_rfl, by decide +kernel, by decide +kernel⟩, ⟨by kernel_rfl, by decide +kernel, by decide +kernel⟩⟩
theorem mem_of_lookup {x : Str} {u : Value} : ∀ {l : List (Str × Value)}, l.lookup x = some u → (x, u) ∈ l
  | (y, z) :: r, h => by
    rw [List.lookup_cons] at h
    by_cases e : x == y
    · rw [e] at h; cases h; cases (beq_iff_eq.mp e); exact .head _
    · simp only [e] at h; exact .tail _ (mem_of_lookup h)
theorem name_sound (hE : EnvOk c env) {x : Str} {pos : Pos} {k : MV → St → Prop} (h : nameK env x ρ σ k) : TV c (eval (.Name x pos) env) ρ σ (kE ρ k) := by
  unfold nameK at h
  split at h
  · rename_i hd hk
    split at h
    · rename_i v hv
      exact T_Name_local hE.locals hE.kind hk hd hv ⟨rfl, h⟩
    · exact h.elim
  · rename_i hd hk
    split at h
    · rename_i u hu
      split at h
      · rename_i v hv
        exact T_Name_global hE.globals hE.kind hk hd hu (mvOf_ok hv) ⟨rfl, h⟩
      · exact h.elim
    · split at h
      · rename_i u hu
        obtain ⟨h1, h2, h3⟩ := btab_ok _ (mem_of_lookup hu)
        exact T_Name_builtin hE.globals hE.builtins hE.kind hk hd h2 (c.W.free _ h3) h1 ⟨rfl, h⟩
      · exact h.elim
  · exact h.elim

/-! attributes and methods, by tables -/
noncomputable def fieldB (C : Addr) (x : Str) : Bool := match fieldTab.lookup C with | some l => l.contains x | none => false
theorem fieldB_ok {C : Addr} {x : Str} (h : fieldB C x = true) : FieldOf C x := by
  unfold fieldB at h
  split at h
  · rename_i l hl
    have hm : ∀ {t : List (Addr × List Str)}, t.lookup C = some l → (C, l) ∈ t := by
      intro t
      induction t with
      | nil => intro e; cases e
      | cons p r ih =>
        obtain ⟨y, z⟩ := p
        intro e
        rw [List.lookup_cons] at e
        by_cases q : C == y
        · rw [q] at e; cases e; cases (beq_iff_eq.mp q); exact .head _
        · simp only [q] at e; exact .tail _ (ih e)
    exact ⟨(C, l), hm hl, rfl, by simpa using h⟩
  · cases h
noncomputable def methN (C : Addr) (x : Str) : Option Addr := match methTab.lookup C with | some l => l.lookup x | none => none
theorem lookup_mem {α β : Type} [BEq α] [LawfulBEq α] {x : α} {u : β} : ∀ {l : List (α × β)}, l.lookup x = some u → (x, u) ∈ l
  | [], h => by cases h
  | (y, z) :: r, h => by
    rw [List.lookup_cons] at h
    by_cases e : x == y
    · rw [e] at h; cases h; cases (beq_iff_eq.mp e); exact .head _
    · simp only [e] at h; exact .tail _ (lookup_mem h)
theorem methN_ok {C f : Addr} {x : Str} (h : methN C x = some f) : MethOf C x f := by
  unfold methN at h
  split at h
  · rename_i l hl; exact ⟨_, lookup_mem hl, rfl, lookup_mem h⟩
  · cases h
noncomputable def isOther : MV → Bool
  | .other _ => true
  | _ => false
theorem not_other {v : MV} (h : isOther v = false) : ∀ u, v ≠ .other u := fun u e => by subst e; cases h
noncomputable def attrK (o : MV) (x : Str) (σ : St) (k : MV → St → Prop) : Prop :=
  match o with
  | .ref a => ∃ ob, σ a = some ob ∧ match ob with
    | .inst C dx => ∃ ob2, σ dx = some ob2 ∧ match ob2, fieldB C x with
      | .ns fs, true => match look x fs with
        | some v => match isOther v with
          | false => k v σ
          | true => False
        | none => False
      | _, _ => False
    | _ => False
  | _ => False
theorem attr_sound {o : MV} {u : Value} {x : Str} {k : MV → St → Prop} {expr : Bool} (hu : VR o u) (h : attrK o x σ k) : TV c (getAttr u x expr) ρ σ (kE ρ k) := by
  unfold attrK at h
  split at h
  · cases hu
    obtain ⟨ob, h1, h⟩ := h
    split at h
    · obtain ⟨ob2, h2, h⟩ := h
      split at h
      · rename_i hf
        split at h
        · rename_i v hv
          split at h
          · rename_i hno
            exact T_getAttr h1 h2 (fieldB_ok hf) hv (not_other hno) ⟨rfl, h⟩
          · exact h.elim
        · exact h.elim
      · exact h.elim
    · exact h.elim
  · exact h.elim
noncomputable def plainBase : Expr → Bool
  | .Call .. => false
  | _ => true
theorem base_eq {o : Expr} {attr : Str} {whole : Sem Value} (h : plainBase o = true) : attributeBase o attr env whole = whole := by
  cases o <;> first | rfl | cases h

/-! built-in functions, types and methods -/
noncomputable def bi1K (id : String) (a : MV) (σ : St) (k : MV → St → Prop) : Prop :=
  match a with
  | .bytes b => if id = "len" then b.length ≤ 16777216 ∧ k (.int b.length) σ else False
  | .ref a => if id = "len" then (∃ ob, σ a = some ob ∧ match ob with
    | .barr b => b.length ≤ 16777216 ∧ k (.int b.length) σ
    | .list xs => xs.length ≤ 16777216 ∧ k (.int xs.length) σ
    | _ => False) else False
  | .str x => if id = "ord" then ∃ n, x = ⟨#[n]⟩ ∧ k (.int n) σ else False
  | _ => False
noncomputable def extK (a : Addr) (v : MV) (σ : St) (k : MV → St → Prop) : Prop :=
  match v with
  | .bytes b => ∃ ob, σ a = some ob ∧ match ob with
    | .list xs => xs.length + b.length ≤ 1000000 ∧ k .none (σ.upd a (.list (xs ++ b.map fun (x : UInt8) => MV.int x.toNat)))
    | _ => False
  | .ref y => ∃ ob, σ a = some ob ∧ ∃ ob2, σ y = some ob2 ∧ match ob with
    | .list xs => match ob2 with
      | .list ys => xs.length + ys.length ≤ 1000000 ∧ k .none (σ.upd a (.list (xs ++ ys)))
      | _ => False
    | _ => False
  | _ => False
noncomputable def baK (a : Addr) (v : MV) (σ : St) (k : MV → St → Prop) : Prop :=
  match v with
  | .int i => ∃ ob, σ a = some ob ∧ match ob with
    | .barr b => ((0 ≤ i ∧ i < 256) ∧ b.length + 1 ≤ 16777216) ∧ k .none (σ.upd a (.barr (b ++ [i.toNat.toUInt8])))
    | _ => False
  | _ => False
noncomputable def baeK (a : Addr) (v : MV) (σ : St) (k : MV → St → Prop) : Prop :=
  match v with
  | .bytes x => ∃ ob, σ a = some ob ∧ match ob with
    | .barr b => b.length + x.length ≤ 16777216 ∧ k .none (σ.upd a (.barr (b ++ x)))
    | _ => False
  | _ => False
noncomputable def bgK (w : World) (d : Addr) (v : MV) (σ : St) (k : MV → St → Prop) : Prop :=
  match v with
  | .bytes b => ∃ o f n, (σ d = some (.raw o) ∧ d ≠ sysModules ∧ IsKD w o f n) ∧ k ((f b).getD .none) σ
  | _ => False
noncomputable def biRK (w : World) (id : String) (a : Addr) (v : MV) (σ : St) (k : MV → St → Prop) : Prop :=
  if id = "list.append" then (∃ ob, σ a = some ob ∧ match ob with
    | .list xs => xs.length ≤ 1000000 ∧ k .none (σ.upd a (.list (xs ++ [v])))
    | _ => False)
  else if id = "list.extend" then extK a v σ k
  else if id = "bytearray.append" then baK a v σ k
  else if id = "bytearray.extend" then baeK a v σ k
  else if id = "dict.get" then bgK w a v σ k
  else False
noncomputable def biBK (id : String) (y : List UInt8) (v : MV) (σ : St) (k : MV → St → Prop) : Prop :=
  match v with
  | .bytes x => if id = "bytes.find" then k (.int (findI x y)) σ else False
  | .other (.type t) => if id = "isinstance" then (if t = "bytes" then k (.bool true) σ else False) else False
  | _ => False
noncomputable def bi2K (w : World) (id : String) (a b : MV) (σ : St) (k : MV → St → Prop) : Prop :=
  match a with
  | .bytes y => biBK id y b σ k
  | .ref a => biRK w id a b σ k
  | _ => False
noncomputable def biK (w : World) (id : String) (vs : List MV) (σ : St) (k : MV → St → Prop) : Prop :=
  match vs with
  | [a] => bi1K id a σ k
  | [a, b] => bi2K w id a b σ k
  | _ => False
theorem VRs_1 {x : MV} {us : List Value} (h : VRs [x] us) : ∃ u, us = [u] ∧ VR x u := by
  match us, h with
  | [u], h => exact ⟨u, rfl, h.1⟩
theorem VRs_2 {x y : MV} {us : List Value} (h : VRs [x, y] us) : ∃ u v, us = [u, v] ∧ VR x u ∧ VR y v := by
  match us, h with
  | [u, v], h => exact ⟨u, v, rfl, h.1, h.2.1⟩
theorem T_find {x y : List UInt8} {u v : Value} {k : MV → Nm → St → Prop} (hu : VR (.bytes y) u) (hv : VR (.bytes x) v) (h : k (.int (findI x y)) ρ σ) : TV c (call (.builtin "bytes.find") [u, v]) ρ σ k := fun G A s E Q hG hA hR hQ => by
  obtain ⟨t, rfl⟩ := hu; obtain ⟨t', rfl⟩ := hv
  exact lift (find_bytes fun t k => hQ (.int (findI x y)) _ ρ σ s.heap k h ⟨t, rfl⟩ hR)
theorem bi1_sound {id : String} {a : MV} {u : Value} {k : MV → St → Prop} (hu : VR a u) (h : bi1K id a σ k) : TV c (call (.builtin id) [u]) ρ σ (kE ρ k) := by
  unfold bi1K at h
  split at h
  · split at h
    · rename_i e; subst e; exact T_len_bytes hu h.1 ⟨rfl, h.2⟩
    · exact h.elim
  · split at h
    · rename_i e; subst e
      cases hu
      obtain ⟨ob, h1, h⟩ := h
      split at h
      · exact T_len_ba h1 h.1 ⟨rfl, h.2⟩
      · exact T_len_list h1 h.1 ⟨rfl, h.2⟩
      · exact h.elim
    · exact h.elim
  · split at h
    · rename_i e; subst e
      obtain ⟨n, hx, h⟩ := h
      exact T_ord hu hx ⟨rfl, h⟩
    · exact h.elim
  · exact h.elim
theorem biR_sound {id : String} {a : Addr} {v : MV} {u : Value} {k : MV → St → Prop} (hw : VR v u) (h : biRK c.w id a v σ k) : TV c (call (.builtin id) [.ref a, u]) ρ σ (kE ρ k) := by
  unfold biRK at h
  split at h
  · rename_i e; subst e
    obtain ⟨ob, h1, h⟩ := h
    split at h
    · exact T_list_append h1 hw h.1 ⟨rfl, h.2⟩
    · exact h.elim
  split at h
  · rename_i e; subst e
    unfold extK at h
    split at h
    · obtain ⟨ob, h1, h⟩ := h
      split at h
      · exact T_list_extend_bytes h1 hw h.1 ⟨rfl, h.2⟩
      · exact h.elim
    · cases hw
      obtain ⟨ob, h1, ob2, h2, h⟩ := h
      split at h
      · split at h
        · exact T_list_extend_list h1 h2 h.1 ⟨rfl, h.2⟩
        · exact h.elim
      · exact h.elim
    · exact h.elim
  split at h
  · rename_i e; subst e
    unfold baK at h
    split at h
    · obtain ⟨ob, h1, h⟩ := h
      split at h
      · exact T_ba_append h1 hw h.1.1.1 h.1.1.2 h.1.2 ⟨rfl, h.2⟩
      · exact h.elim
    · exact h.elim
  split at h
  · rename_i e; subst e
    unfold baeK at h
    split at h
    · obtain ⟨ob, h1, h⟩ := h
      split at h
      · exact T_ba_extend h1 hw h.1 ⟨rfl, h.2⟩
      · exact h.elim
    · exact h.elim
  split at h
  · rename_i e; subst e
    unfold bgK at h
    split at h
    · obtain ⟨o, f, n, ⟨h1, h2, h3⟩, h⟩ := h
      exact T_dict_get h1 h2 h3 hw ⟨rfl, h⟩
    · exact h.elim
  · exact h.elim
theorem biB_sound {id : String} {y : List UInt8} {v : MV} {u u' : Value} {k : MV → St → Prop} (hu : VR (.bytes y) u) (hw : VR v u') (h : biBK id y v σ k) : TV c (call (.builtin id) [u, u']) ρ σ (kE ρ k) := by
  unfold biBK at h
  split at h
  · split at h
    · rename_i e; subst e; exact T_find hu hw ⟨rfl, h⟩
    · exact h.elim
  · split at h
    · rename_i e; subst e
      split at h
      · rename_i e; subst e
        cases hw
        exact T_isinstance_bytes hu ⟨rfl, h⟩
      · exact h.elim
    · exact h.elim
  · exact h.elim
theorem bi_sound {id : String} {vs : List MV} {us : List Value} {k : MV → St → Prop} (hv : VRs vs us) (h : biK c.w id vs σ k) : TV c (call (.builtin id) us) ρ σ (kE ρ k) := by
  unfold biK at h
  split at h
  · obtain ⟨u, rfl, hu⟩ := VRs_1 hv
    exact bi1_sound hu h
  · obtain ⟨u, v, rfl, hu, hw⟩ := VRs_2 hv
    unfold bi2K at h
    split at h
    · exact biB_sound hu hw h
    · cases hu; exact biR_sound hw h
    · exact h.elim
  · exact h.elim
noncomputable def tyK (id : String) (vs : List MV) (σ : St) (k : MV → St → Prop) : Prop :=
  match id, vs with
  | "bytes", [.ref a] => ∃ ob, σ a = some ob ∧ match ob with
    | .barr b => b.length ≤ 16777216 ∧ k (.bytes b) σ
    | .list xs => ∃ ns : List Int, (xs = ns.map .int ∧ (∀ n ∈ ns, 0 ≤ n ∧ n < 256) ∧ ns.length ≤ 16777216) ∧ k (.bytes (bytesOf ns)) σ
    | _ => False
  | "bytearray", [] => ∀ r, σ r = none → k (.ref r) (σ.upd r (.barr []))
  | "range", [.int i] => 0 ≤ i ∧ ∀ r o, σ r = none → IsRangeObj o i → k (.ref r) (σ.upd r (.raw o))
  | _, _ => False
theorem ty_sound {id : String} {vs : List MV} {us : List Value} {k : MV → St → Prop} (hv : VRs vs us) (h : tyK id vs σ k) : TV c (call (.type id) us) ρ σ (kE ρ k) := by
  unfold tyK at h
  split at h
  · obtain ⟨u, rfl, hu⟩ := VRs_1 hv
    cases hu
    obtain ⟨ob, h1, h⟩ := h
    split at h
    · exact T_bytes_ba h1 h.1 ⟨rfl, h.2⟩
    · obtain ⟨ns, ⟨rfl, h2, h3⟩, h⟩ := h
      exact T_bytes_ints h1 h2 h3 ⟨rfl, h⟩
    · exact h.elim
  · match us, hv with
    | [], _ => exact T_ba_new fun r hr => ⟨rfl, h r hr⟩
  · obtain ⟨u, rfl, hu⟩ := VRs_1 hv
    obtain ⟨h0, h⟩ := h
    rename_i i
    obtain ⟨n, rfl⟩ := Int.eq_ofNat_of_zero_le h0
    exact T_range hu fun r o hr ho => h r o hr ho
  · exact h.elim
end
end Mine

end
section
open PySem PySem.W PyProof.Rows PySem.Calls
set_option maxHeartbeats 4000000
set_option linter.unusedVariables false
set_option linter.unusedSimpArgs false
namespace Mine
open MineK
open PySem.Challenge (pw_xm0629_01 rw_xm0629_01)

noncomputable abbrev kV := MV → St → Prop
noncomputable abbrev EvT := Expr → Nm → St → kV → Prop
noncomputable abbrev TstT := Expr → Nm → St → (Bool → St → Prop) → Prop
noncomputable abbrev kL := List MV → St → Prop
noncomputable abbrev kB1 := Bool → St → Prop
noncomputable def consC (v : MV) (k : kL) : kL := fun vs σ => k (v :: vs) σ
noncomputable def evsC (p : St → kL → Prop) (k : kL) : kV := fun v σ => p σ (consC v k)
noncomputable def evs (ev : EvT) : List Expr → Nm → St → kL → Prop
  | [], ρ, σ, k => k [] σ
  | e :: r, ρ, σ, k => ev e ρ σ (evsC (evs ev r ρ) k)
noncomputable def cmpC (op : CmpOp) (a : MV) (k : kB1) : kV := fun b σ => cmpK op a b σ k
noncomputable def cmpsD (p : St → Prop) (k : kB1) : kB1 := fun r σ => (r = true → p σ) ∧ (r = false → k false σ)
noncomputable def cmpsC (op : CmpOp) (a : MV) (p : MV → St → Prop) (k : kB1) : kV := fun b σ => cmpK op a b σ (cmpsD (p b) k)
noncomputable def cmps (ev : EvT) : MV → List CmpOp → List Expr → Nm → St → kB1 → Prop
  | a, [op], [e], ρ, σ, k => ev e ρ σ (cmpC op a k)
  | a, op :: op' :: ops, e :: e' :: es, ρ, σ, k => ev e ρ σ (cmpsC op a (fun b σ2 => cmps ev b (op' :: ops) (e' :: es) ρ σ2 k) k)
  | _, _, _, _, _, _ => False
noncomputable def tstsC (op : BoolOp) (p : St → kB1 → Prop) (k : kB1) : kB1 := fun b σ => match op with
  | .And => (b = false → k false σ) ∧ (b = true → p σ k)
  | .Or => (b = true → k true σ) ∧ (b = false → p σ k)
noncomputable def tsts (tst : TstT) (op : BoolOp) : List Expr → Nm → St → kB1 → Prop
  | [], ρ, σ, k => k (op == .And) σ
  | x :: r, ρ, σ, k => tst x ρ σ (tstsC op (tsts tst op r ρ) k)
noncomputable def boolsD (op : BoolOp) (v : MV) (p : St → kV → Prop) (k : kV) : kB1 := fun b σ => match op with
  | .And => (b = false → k v σ) ∧ (b = true → p σ k)
  | .Or => (b = true → k v σ) ∧ (b = false → p σ k)
noncomputable def boolsC (op : BoolOp) (p : St → kV → Prop) (k : kV) : kV := fun v σ => truthK v σ (boolsD op v p k)
noncomputable def bools (ev : EvT) (op : BoolOp) : List Expr → Nm → St → kV → Prop
  | [], _, _, _ => False
  | [x], ρ, σ, k => ev x ρ σ k
  | x :: y :: r, ρ, σ, k => ev x ρ σ (boolsC op (bools ev op (y :: r) ρ) k)
noncomputable def optE (ev : EvT) : Option Expr → Nm → St → kV → Prop
  | none, _, σ, k => k .none σ
  | some e, ρ, σ, k => ev e ρ σ k
noncomputable def lmeth : List (Str × String) := [("append", "list.append"), ("extend", "list.extend")]
noncomputable def bmeth : List (Str × String) := [("append", "bytearray.append"), ("extend", "bytearray.extend")]
noncomputable def mcC (c : Cx) (f a : Addr) (k : kV) : kL := fun vs σ => CALL c.w c.h₀ c.n (.ref f) (.ref a :: vs) σ k
noncomputable def clC (c : Cx) (f : Addr) (k : kV) : kL := fun vs σ => CALL c.w c.h₀ c.n (.ref f) vs σ k
noncomputable def biC (w : World) (id : String) (o : MV) (k : kV) : kL := fun vs σ => biK w id (o :: vs) σ k
noncomputable def bi0C (w : World) (id : String) (k : kV) : kL := fun vs σ => biK w id vs σ k
noncomputable def tyC (id : String) (k : kV) : kL := fun vs σ => tyK id vs σ k
noncomputable def methK (c : Cx) (ev : EvT) (ov : MV) (x : Str) (args : List Expr) (ρ : Nm) (σ : St) (k : kV) : Prop :=
  match ov with
  | .ref a => ∃ ob, σ a = some ob ∧ match ob with
    | .inst C dx => match methN C x with
      | some f => ∃ ob2, σ dx = some ob2 ∧ match ob2 with
        | .ns fs => match look x fs, callTab.contains f with
          | none, true => evs ev args ρ σ (mcC c f a k)
          | _, _ => False
        | _ => False
      | none => False
    | .list _ => match lmeth.lookup x with
      | some id => evs ev args ρ σ (biC c.w id (.ref a) k)
      | none => False
    | .barr _ => match bmeth.lookup x with
      | some id => evs ev args ρ σ (biC c.w id (.ref a) k)
      | none => False
    | .raw o => (∃ f n, IsKD c.w o f n) ∧ match x == ("get" : Str) with
      | true => evs ev args ρ σ (biC c.w "dict.get" (.ref a) k)
      | false => False
    | _ => False
  | .bytes b => match x == ("find" : Str) with
    | true => evs ev args ρ σ (biC c.w "bytes.find" (.bytes b) k)
    | false => False
  | _ => False
noncomputable def calleeK (c : Cx) (ev : EvT) (f : MV) (args : List Expr) (ρ : Nm) (σ : St) (k : kV) : Prop :=
  match f with
  | .ref a => match callTab.contains a with
    | true => evs ev args ρ σ (clC c a k)
    | false => False
  | .other (.builtin id) => evs ev args ρ σ (bi0C c.w id k)
  | .other (.type id) => evs ev args ρ σ (tyC id k)
  | _ => False
noncomputable def plainTest : Expr → Bool
  | .Name .. | .Attribute .. | .Call .. | .Subscript .. | .Constant .. => true
  | _ => false
structure EvF where
  ev : EvT
  tst : TstT
noncomputable def slC3 (o l : MV) (k : kV) : kV := fun u σ => sliceK o l u σ k
noncomputable def slC2 (r : EvF) (o : MV) (hi : Option Expr) (ρ : Nm) (k : kV) : kV := fun l σ => optE r.ev hi ρ σ (slC3 o l k)
noncomputable def slC1 (r : EvF) (lo hi : Option Expr) (ρ : Nm) (k : kV) : kV := fun o σ => optE r.ev lo ρ σ (slC2 r o hi ρ k)
noncomputable def itC2 (o : MV) (k : kV) : kV := fun iv σ => itemK o iv σ fun x => k x σ
noncomputable def itC1 (r : EvF) (i : Expr) (ρ : Nm) (k : kV) : kV := fun o σ => r.ev i ρ σ (itC2 o k)
noncomputable def subE (r : EvF) (v i : Expr) (ρ : Nm) (σ : St) (k : kV) : Prop :=
  match i with
  | .Slice lo hi st _ => match st with
    | none => r.ev v ρ σ (slC1 r lo hi ρ k)
    | some _ => False
  | i => match isSl i with
    | false => r.ev v ρ σ (itC1 r i ρ k)
    | true => False
noncomputable def methC (c : Cx) (r : EvF) (x : Str) (args : List Expr) (ρ : Nm) (k : kV) : kV := fun ov σ => methK c r.ev ov x args ρ σ k
noncomputable def calC (c : Cx) (r : EvF) (args : List Expr) (ρ : Nm) (k : kV) : kV := fun f σ => calleeK c r.ev f args ρ σ k
noncomputable def callE (c : Cx) (env : Env) (r : EvF) (f : Expr) (args : List Expr) (pos : Pos) (ρ : Nm) (σ : St) (k : kV) : Prop :=
  match f with
  | .Attribute o x apos => match plainBase o && (args.all noStar && (apos.endLine == pos.line && decide (args.length < 30))) with
    | true => r.ev o ρ σ (methC c r x args ρ k)
    | false => False
  | .Name x _ => match args.all noStar with
    | true => nameK env x ρ σ (calC c r args ρ k)
    | false => False
  | _ => False
noncomputable def binC2 (op : Operator) (u : MV) (k : kV) : kV := fun v σ => binK op u v σ k
noncomputable def binC1 (r : EvF) (op : Operator) (b : Expr) (ρ : Nm) (k : kV) : kV := fun u σ => r.ev b ρ σ (binC2 op u k)
noncomputable def unC (op : UnaryOp) (k : kV) : kV := fun v σ => unK op v σ k
noncomputable def iteC (r : EvF) (a b : Expr) (ρ : Nm) (k : kV) : kB1 := fun q σ => (q = true → r.ev a ρ σ k) ∧ (q = false → r.ev b ρ σ k)
noncomputable def boolC (k : kV) : kB1 := fun b σ => k (.bool b) σ
noncomputable def cmC (r : EvF) (ops : List CmpOp) (es : List Expr) (ρ : Nm) (k : kB1) : kV := fun u σ => cmps r.ev u ops es ρ σ k
noncomputable def attC (x : Str) (k : kV) : kV := fun u σ => attrK u x σ k
noncomputable def tupC (k : kV) : kL := fun vs σ => vs.length ≤ 1000 ∧ ∀ a, σ a = none → k (.ref a) (σ.upd a (.tuple vs))
noncomputable def lstC (k : kV) : kL := fun vs σ => vs.length ≤ 1000 ∧ ∀ a, σ a = none → k (.ref a) (σ.upd a (.list vs))
noncomputable def notC (k : kB1) : kB1 := fun b σ => k (!b) σ
noncomputable def truC (k : kB1) : kV := fun v σ => truthK v σ k
noncomputable def evStep (c : Cx) (env : Env) (r : EvF) (e : Expr) (ρ : Nm) (σ : St) (k : kV) : Prop :=
  match e with
  | .Constant cst _ _ => constK cst σ k
  | .Name x _ => nameK env x ρ σ k
  | .BinOp a op b _ => r.ev a ρ σ (binC1 r op b ρ k)
  | .UnaryOp op x _ => r.ev x ρ σ (unC op k)
  | .IfExp t a b _ => r.tst t ρ σ (iteC r a b ρ k)
  | .Compare a ops es _ => match lastMarks ops es with
    | false => r.ev a ρ σ (cmC r ops es ρ (boolC k))
    | true => False
  | .BoolOp op xs _ => bools r.ev op xs ρ σ k
  | .Attribute o x _ => match plainBase o with
    | true => r.ev o ρ σ (attC x k)
    | false => False
  | .Subscript v i _ => subE r v i ρ σ k
  | .Tuple xs _ _ => match xs.all noStar with
    | true => evs r.ev xs ρ σ (tupC k)
    | false => False
  | .List xs _ => match xs.all noStar with
    | true => evs r.ev xs ρ σ (lstC k)
    | false => False
  | .Dict ks vs _ => match ks, vs with
    | [], [] => ∀ a o, σ a = none → a ≠ sysModules → IsKD c.w o (fun _ => none) 0 → k (.ref a) (σ.upd a (.raw o))
    | _, _ => False
  | .Call f args kws pos => match kws with
    | [] => callE c env r f args pos ρ σ k
    | _ => False
  | _ => False
noncomputable def tstStep (r : EvF) (e : Expr) (ρ : Nm) (σ : St) (k : kB1) : Prop :=
  match e with
  | .UnaryOp op x _ => match op with
    | .Not => r.tst x ρ σ (notC k)
    | _ => False
  | .BoolOp op xs _ => tsts r.tst op xs ρ σ k
  | .Compare a ops es _ => match lastMarks ops es with
    | false => r.ev a ρ σ (cmC r ops es ρ k)
    | true => False
  | e => match plainTest e with
    | true => r.ev e ρ σ (truC k)
    | false => False
noncomputable def evF (c : Cx) (env : Env) : Nat → EvF
  | 0 => ⟨fun _ _ _ _ => False, fun _ _ _ _ => False⟩
  | n + 1 => ⟨evStep c env (evF c env n), tstStep (evF c env n)⟩

section
variable {c : Cx} {ρ : Nm} {σ : St} {env : Env}
noncomputable def EvOk (c : Cx) (env : Env) (ev : EvT) : Prop := ∀ e ρ σ k, ev e ρ σ k → TV c (eval e env) ρ σ (kE ρ k)
noncomputable def TstOk (c : Cx) (env : Env) (tst : TstT) : Prop := ∀ e ρ σ k, tst e ρ σ k → TB c (isTrue e env (eval e env)) ρ σ (kB ρ k)
theorem TH {α β : Type} {V : β → α → Prop} {vs : List Value} {t : Sem α} {k : β → Nm → St → Prop} (h : T V c t ρ σ k) : T V c (holding vs t) ρ σ k := T_holding h
theorem cmps_val {ev : EvT} (he : EvOk c env ev) {pos : Pos} {k : Bool → St → Prop} : ∀ {ops : List CmpOp} {es : List Expr} {a : MV} {u : Value} {σ : St}, VR a u → cmps ev a ops es ρ σ k → TV c (compareChain pos u ops (evalEach es env)) ρ σ (kBV ρ k)
  | [op], [e], a, u, σ, hu, h => by
    show TV c (holding [u] (eval e env) >>= fun rv => standAt pos >>= fun _ => operate [u, rv] (compareOp op u rv)) ρ σ _
    exact TE_bind (T_holding (he _ _ _ _ h)) fun b v σ1 q hv => T_at (T_operate (cmp_sound hu hv q))
  | op :: op' :: ops, e :: e' :: es, a, u, σ, hu, h => by
    show TV c (holding [u] (eval e env) >>= fun rv => standAt pos >>= fun _ => holding [u, rv] (compareOp op u rv) >>= fun c' => release [u, rv] [c'] >>= fun _ => holding [c', rv] (truthy c') >>= fun b => if b = true then compareChain pos rv (op' :: ops) (evalEach (e' :: es) env) else pure c') ρ σ _
    refine TE_bind (T_holding (he _ _ _ _ h)) fun b v σ1 q hv => T_at (TC_bind (T_holding (cmp_sound hu hv q)) fun r σ2 q2 => T_release ?_)
    refine TB_bind (k1 := fun b σ' => b = r ∧ σ' = σ2) (T_holding (truth_sound (v := .bool r) rfl ⟨rfl, rfl⟩)) fun b' σ3 q3 => ?_
    obtain ⟨rfl, rfl⟩ := q3
    cases b' with
    | true => rw [if_pos rfl]; exact cmps_val he hv (q2.1 rfl)
    | false => rw [if_neg Bool.false_ne_true]; exact T_pure (V := VR) (b := MV.bool false) rfl ⟨rfl, _, rfl, q2.2 rfl⟩
  | [], _, _, _, _, _, h => h.elim
  | [_], [], _, _, _, _, h => h.elim
  | [_], _ :: _ :: _, _, _, _, _, h => h.elim
  | _ :: _ :: _, [], _, _, _, _, h => h.elim
  | _ :: _ :: _, [_], _, _, _, _, h => h.elim
theorem cmps_tst {ev : EvT} (he : EvOk c env ev) {pos : Pos} {k : Bool → St → Prop} : ∀ {ops : List CmpOp} {es : List Expr} {a : MV} {u : Value} {σ : St}, VR a u → cmps ev a ops es ρ σ k → TB c (testChain pos u ops (evalEach es env)) ρ σ (kB ρ k)
  | [op], [e], a, u, σ, hu, h => by
    show TB c (holding [u] (eval e env) >>= fun rv => standAt pos >>= fun _ => operate [u, rv] (compareOp op u rv) >>= fun c' => holding [c'] (truthy c')) ρ σ _
    exact TE_bind (T_holding (he _ _ _ _ h)) fun b v σ1 q hv => T_at (TC_bind (T_operate (cmp_sound hu hv q)) fun r σ2 q2 => T_holding (truth_sound (v := .bool r) rfl q2))
  | op :: op' :: ops, e :: e' :: es, a, u, σ, hu, h => by
    show TB c (holding [u] (eval e env) >>= fun rv => standAt pos >>= fun _ => holding [u, rv] (compareOp op u rv) >>= fun c' => release [u, rv] [c'] >>= fun _ => holding [c', rv] (truthy c') >>= fun b => if b = true then testChain pos rv (op' :: ops) (evalEach (e' :: es) env) else pure false) ρ σ _
    refine TE_bind (T_holding (he _ _ _ _ h)) fun b v σ1 q hv => T_at (TC_bind (T_holding (cmp_sound hu hv q)) fun r σ2 q2 => T_release ?_)
    refine TB_bind (k1 := fun b σ' => b = r ∧ σ' = σ2) (T_holding (truth_sound (v := .bool r) rfl ⟨rfl, rfl⟩)) fun b' σ3 q3 => ?_
    obtain ⟨rfl, rfl⟩ := q3
    cases b' with
    | true => rw [if_pos rfl]; exact cmps_tst he hv (q2.1 rfl)
    | false => rw [if_neg Bool.false_ne_true]; exact T_pure (V := fun a b => a = b) (b := false) rfl ⟨rfl, q2.2 rfl⟩
  | [], _, _, _, _, _, h => h.elim
  | [_], [], _, _, _, _, h => h.elim
  | [_], _ :: _ :: _, _, _, _, _, h => h.elim
  | _ :: _ :: _, [], _, _, _, _, h => h.elim
  | _ :: _ :: _, [_], _, _, _, _, h => h.elim
theorem marked_id {ops : List CmpOp} {es : List Expr} {ts : List (Sem Value)} (h : lastMarks ops es = false) : markedEach ops es ts = ts := markedEach_of_false ops es ts h
theorem tsts_ok {tst : TstT} (ht : TstOk c env tst) {k : Bool → St → Prop} : ∀ {op : BoolOp} {xs : List Expr} {σ : St}, tsts tst op xs ρ σ k → TB c (allTrue op xs env) ρ σ (kB ρ k)
  | op, [], σ, h => T_pure (V := fun a b => a = b) rfl ⟨rfl, h⟩
  | op, x :: r, σ, h => by
    rw [arm_allTrue_cons]
    refine TB_bind (ht _ _ _ _ h) fun b σ1 q => ?_
    cases op <;> cases b <;> dsimp only [tstsC] at q ⊢
    · exact T_pure (V := fun a b => a = b) rfl ⟨rfl, q.1 rfl⟩
    · exact tsts_ok ht (q.2 rfl)
    · exact tsts_ok ht (q.2 rfl)
    · exact T_pure (V := fun a b => a = b) rfl ⟨rfl, q.1 rfl⟩
noncomputable def boolTail (pos : Pos) (op : BoolOp) (t : Bool) (v : Value) (rest : List (Sem Value)) : Sem Value :=
  match op, t with
  | .And, false | .Or, true => pure v
  | _, _ => boolOp pos op rest
theorem bools_ok {ev : EvT} (he : EvOk c env ev) {pos : Pos} {k : kV} : ∀ {op : BoolOp} {xs : List Expr} {σ : St}, bools ev op xs ρ σ k → TV c (boolOp pos op (evalEach xs env)) ρ σ (kE ρ k)
  | op, [], σ, h => h.elim
  | op, [x], σ, h => he _ _ _ _ h
  | op, x :: y :: r, σ, h => by
    show TV c (eval x env >>= fun v => standAt pos >>= fun _ => holding [v] (truthy v) >>= fun t => boolTail pos op t v (evalEach (y :: r) env)) ρ σ _
    refine TE_bind (he _ _ _ _ h) fun v u σ1 q hu => T_at (TB_bind (T_holding (truth_sound hu q)) fun b σ2 q2 => ?_)
    cases op <;> cases b <;> dsimp only [boolTail, boolsD] at q2 ⊢
    · exact T_pure hu ⟨rfl, q2.1 rfl⟩
    · exact bools_ok he (q2.2 rfl)
    · exact bools_ok he (q2.2 rfl)
    · exact T_pure hu ⟨rfl, q2.1 rfl⟩
theorem evs_ok {ev : EvT} (he : EvOk c env ev) {pos : Pos} : ∀ {xs : List Expr} {σ : St} {k : List MV → St → Prop}, xs.all noStar = true → evs ev xs ρ σ k → TL c (spliced (backTo pos (starEach xs env))) ρ σ fun vs ρ' σ' => ρ' = ρ ∧ k vs σ'
  | [], σ, k, hs, h => T_spliced_nil ⟨rfl, h⟩
  | x :: r, σ, k, hs, h => by
    rw [List.all_cons, Bool.and_eq_true] at hs
    rw [starEach_cons hs.1, backTo_cons]
    refine T_spliced_cons ((he _ _ _ _ h).mono fun v ρ' σ' q => ?_)
    obtain ⟨e, q⟩ := q
    rw [e]
    exact evs_ok he hs.2 q
theorem optE_ok {ev : EvT} (he : EvOk c env ev) {e : Option Expr} {k : kV} (h : optE ev e ρ σ k) : TV c (valueOrNone (evalOpt e env)) ρ σ (kE ρ k) := by
  cases e with
  | none => exact T_pure (V := VR) (b := MV.none) rfl ⟨rfl, h⟩
  | some e => exact he _ _ _ _ h

theorem T_letgo {V : MV → Value → Prop} {base : Expr} {o r : Value} {t : Sem Value} {k : MV → Nm → St → Prop} (h : T V c t ρ σ k) : T V c (letTemporaryGo base o r >>= fun _ => t) ρ σ k :=
  fun G A s E Q hG hA hR hQ => wpAny_bind (lift (wpAny_letTemporaryGo (h G A s E Q hG hA hR hQ)))
theorem T_newTuple {vs : List MV} {us : List Value} {k : kV} (hv : VRs vs us) (hz : vs.length ≤ 1000) (h : ∀ a, σ a = none → k (.ref a) (σ.upd a (.tuple vs))) : TV c (newTuple us) ρ σ (kE ρ k) := fun G A s E Q hG hA hR hQ => by
  have := hv.length
  refine lift (wpAny_newObj_type ?_)
  exact hQ (.ref s.heap.objs.size) _ ρ _ _ s.toks ⟨rfl, h _ (hR.toRel0.none_of_ge (Nat.le_refl _))⟩ rfl (hR.push (Nat.le_refl _) (fun b o e => Heap.get?_push_of_some _ e) ⟨us, _, Heap.get?_push_size _ rfl, hv⟩)
theorem T_newList {vs : List MV} {us : List Value} {k : kV} (hv : VRs vs us) (hz : vs.length ≤ 1000) (h : ∀ a, σ a = none → k (.ref a) (σ.upd a (.list vs))) : TV c (newList us) ρ σ (kE ρ k) := fun G A s E Q hG hA hR hQ => by
  have := hv.length
  refine lift (wpAny_newObj_type ?_)
  exact hQ (.ref s.heap.objs.size) _ ρ _ _ s.toks ⟨rfl, h _ (hR.toRel0.none_of_ge (Nat.le_refl _))⟩ rfl (hR.push (Nat.le_refl _) (fun b o e => Heap.get?_push_of_some _ e) ⟨us, _, Heap.get?_push_size _ rfl, hv⟩)
end
end Mine

end
section
open PySem PySem.W PyProof.Rows PySem.Calls
set_option maxHeartbeats 4000000
set_option linter.unusedVariables false
set_option linter.unusedSimpArgs false
namespace Mine
open MineK
open PySem.Challenge (pw_xm0629_01 rw_xm0629_01)
section
variable {c : Cx} {ρ : Nm} {σ : St} {env : Env}
theorem toE {t : Sem Value} {k : kV} {k1 : MV → Nm → St → Prop} (h : TV c t ρ σ k1) (hk : ∀ v ρ' σ', k1 v ρ' σ' → ρ' = ρ ∧ k v σ') : TV c t ρ σ (kE ρ k) := h.mono hk
theorem call_args_ref {ev : EvT} (he : EvOk c env ev) {f : Addr} {first : List Value} {firstV : List MV} {args : List Expr} {pos pos' : Pos} {k : kV} (hf : callTab.contains f = true) (hs : args.all noStar = true) (hfv : VRs firstV first)
    (h : evs ev args ρ σ fun vs σ1 => CALL c.w c.h₀ c.n (.ref f) (firstV ++ vs) σ1 k) : TV c (callWith pos (.ref f) first (backTo pos' (starEach args env)) []) ρ σ (kE ρ k) :=
  T_callWith_ref (by simpa using hf) hs hfv (evs_ok he hs h)
theorem call_args_bi {ev : EvT} (he : EvOk c env ev) {id : String} {first : List Value} {firstV : List MV} {args : List Expr} {pos pos' : Pos} {k : kV} (hs : args.all noStar = true) (hfv : VRs firstV first)
    (h : evs ev args ρ σ fun vs σ1 => biK c.w id (firstV ++ vs) σ1 k) : TV c (callWith pos (.builtin id) first (backTo pos' (starEach args env)) []) ρ σ (kE ρ k) :=
  T_callWith_builtin hs hfv ((evs_ok he hs h).mono fun vs ρ' σ' q us hv => by
    obtain ⟨e, q⟩ := q
    rw [e]; exact bi_sound hv q)
theorem call_args_ty {ev : EvT} (he : EvOk c env ev) {id : String} {args : List Expr} {pos pos' : Pos} {k : kV} (hs : args.all noStar = true)
    (h : evs ev args ρ σ fun vs σ1 => tyK id vs σ1 k) : TV c (callWith pos (.type id) [] (backTo pos' (starEach args env)) []) ρ σ (kE ρ k) :=
  T_callWith_type hs ((evs_ok he hs h).mono fun vs ρ' σ' q us hv => by
    obtain ⟨e, q⟩ := q
    rw [e]; exact ty_sound hv q)
theorem callee_ok {ev : EvT} (he : EvOk c env ev) {f : MV} {u : Value} {args : List Expr} {pos pos' : Pos} {k : kV} (hs : args.all noStar = true) (hu : VR f u) (h : calleeK c ev f args ρ σ k) :
    TV c (callWith pos u [] (backTo pos' (starEach args env)) []) ρ σ (kE ρ k) := by
  unfold calleeK at h
  split at h
  · cases hu
    split at h
    · rename_i hf; exact call_args_ref he hf hs (firstV := []) trivial h
    · exact h.elim
  · cases hu; exact call_args_bi he hs (firstV := []) trivial h
  · cases hu; exact call_args_ty he hs h
  · exact h.elim
/-- the method found -/
theorem T_methodCall {o : Expr} {x : Str} {apos pos pos' : Pos} {ov : Value} {n : Nat} {args : List Expr} {k : kV} {f : Value} {first : List Value} (hs : args.all noStar = true) (hline : (apos.endLine == pos.line) = true)
    (hm : ∀ (pl : Sem Bool), T (fun (_ : Unit) p => p = (f, first)) c (getMethod ov x pl) ρ σ fun _ ρ' σ' => ρ' = ρ ∧ σ' = σ) (hform : methodCallForm n (backTo pos' (starEach args env)) [] = true)
    (h : ∀ p, TV c (callWith p f first (backTo pos' (starEach args env)) []) ρ σ (kE ρ k)) : TV c (methodCall o x apos pos env ov n (backTo pos' (starEach args env)) []) ρ σ (kE ρ k) := by
  unfold methodCall calleeOf
  rw [hform, if_pos rfl]
  refine T_bind (V := fun (_ : Unit) p => p = (f, first)) (T_holding ((hm _).mono fun _ ρ' σ' q p hp => ?_))
  obtain ⟨e1, e2⟩ := q
  subst hp
  rw [e1, e2]
  dsimp only
  have : methodCallPos true o env apos pos = pure pos := by unfold methodCallPos; rw [hline]; rfl
  rw [this]
  exact h _
theorem T_method_plain {ov : Value} {x : Str} {id : String} {pl : Sem Bool} (h : ∀ (M : Model) (A : Around) (E : Value → Shared → Prop) (s : Shared) (G : Fz) (Q : Value × List Value → Shared → Prop), Rel G c.L ρ σ s.heap → Q (.builtin id, [ov]) s → PySem.wpAny M A (getMethod ov x pl) Q E s) :
    Mine.T (fun (_ : Unit) p => p = (.builtin id, [ov])) c (getMethod ov x pl) ρ σ fun _ ρ' σ' => ρ' = ρ ∧ σ' = σ :=
  fun G A s E Q hG hA hR hQ => lift (h _ A E s G _ hR (hQ () _ ρ σ s.heap s.toks ⟨rfl, rfl⟩ rfl hR))
theorem gm {v : Value} {T : String} {name : Str} {id : String} {pl : Sem Bool} (pa : PlainAttrs T) (slot : Slot T name id) (hty : typeOf (.builtin id) = pure (.type "method_descriptor"))
    (hT : ∀ (s : Shared) (G : Fz), Rel G c.L ρ σ s.heap → s.TypeIs v T ∧ ∀ a, v = .ref a → ∃ o, s.heap.get? a = some o ∧ o.dict = none) :
    Mine.T (fun (_ : Unit) p => p = (.builtin id, [v])) c (getMethod v name pl) ρ σ fun _ ρ' σ' => ρ' = ρ ∧ σ' = σ :=
  T_method_plain fun M A E s G Q hR hq => getMethod_builtin (hT s G hR).1 pa slot hty (hT s G hR).2 hq
theorem method_ok {ev : EvT} (he : EvOk c env ev) {o : Expr} {x : Str} {apos pos pos' : Pos} {ov : MV} {u : Value} {n : Nat} {args : List Expr} {k : kV} (hs : args.all noStar = true) (hline : (apos.endLine == pos.line) = true)
    (hform : methodCallForm n (backTo pos' (starEach args env)) [] = true) (hu : VR ov u) (h : methK c ev ov x args ρ σ k) : TV c (methodCall o x apos pos env u n (backTo pos' (starEach args env)) []) ρ σ (kE ρ k) := by
  unfold methK at h
  split at h
  · rename_i a
    cases hu
    obtain ⟨ob, h1, h⟩ := h
    split at h
    · rename_i C dx
      split at h
      · rename_i f hf
        obtain ⟨ob2, h2, h⟩ := h
        split at h
        · rename_i fs
          split at h
          · rename_i hl hc
            exact T_methodCall hs hline (fun pl => T_getMethod (V := fun _ _ => True) h1 h2 (methN_ok hf) hl ⟨rfl, rfl⟩) hform fun p => call_args_ref he hc hs (firstV := [.ref a]) ⟨rfl, trivial⟩ h
          · exact h.elim
        · exact h.elim
      · exact h.elim
    · rename_i xs
      split at h
      · rename_i id hid
        have hT : ∀ (s : Shared) (G : Fz), Rel G c.L ρ σ s.heap → s.TypeIs (.ref a) "list" ∧ ∀ b, Value.ref a = .ref b → ∃ o, s.heap.get? b = some o ∧ o.dict = none := fun s G R => by
          obtain ⟨vs, n, e, _⟩ := R.obj _ _ h1
          exact ⟨⟨_, e, rfl⟩, fun b q => by cases q; exact ⟨_, e, rfl⟩⟩
        have hm := lookup_mem hid
        simp only [lmeth, List.mem_cons, List.not_mem_nil, or_false, Prod.mk.injEq] at hm
        rcases hm with ⟨rfl, rfl⟩ | ⟨rfl, rfl⟩
        · exact T_methodCall hs hline (fun pl => gm PySem.F.plainAttrs_list PySem.slot_list_append PySem.F.type_list_append hT) hform fun p => call_args_bi he hs (firstV := [.ref a]) ⟨rfl, trivial⟩ h
        · exact T_methodCall hs hline (fun pl => gm PySem.F.plainAttrs_list PySem.F.slot_list_extend PySem.F.type_list_extend hT) hform fun p => call_args_bi he hs (firstV := [.ref a]) ⟨rfl, trivial⟩ h
      · exact h.elim
    · rename_i xs
      split at h
      · rename_i id hid
        have hT : ∀ (s : Shared) (G : Fz), Rel G c.L ρ σ s.heap → s.TypeIs (.ref a) "bytearray" ∧ ∀ b, Value.ref a = .ref b → ∃ o, s.heap.get? b = some o ∧ o.dict = none := fun s G R => by
          have e := R.obj _ _ h1
          exact ⟨⟨_, e, rfl⟩, fun b q => by cases q; exact ⟨_, e, rfl⟩⟩
        have hm := lookup_mem hid
        simp only [bmeth, List.mem_cons, List.not_mem_nil, or_false, Prod.mk.injEq] at hm
        rcases hm with ⟨rfl, rfl⟩ | ⟨rfl, rfl⟩
        · exact T_methodCall hs hline (fun pl => gm plainAttrs_bytearray slot_bytearray_append type_bytearray_append hT) hform fun p => call_args_bi he hs (firstV := [.ref a]) ⟨rfl, trivial⟩ h
        · exact T_methodCall hs hline (fun pl => gm plainAttrs_bytearray slot_bytearray_extend type_bytearray_extend hT) hform fun p => call_args_bi he hs (firstV := [.ref a]) ⟨rfl, trivial⟩ h
      · exact h.elim
    · rename_i ob'
      obtain ⟨⟨f, m, hk⟩, h⟩ := h
      split at h
      · rename_i hx
        have hx : x = ("get" : Str) := by simpa using hx
        subst hx
        have hT : ∀ (s : Shared) (G : Fz), Rel G c.L ρ σ s.heap → s.TypeIs (.ref a) "dict" ∧ ∀ b, Value.ref a = .ref b → ∃ o, s.heap.get? b = some o ∧ o.dict = none := fun s G R => by
          have e := R.obj _ _ h1
          obtain ⟨kvs, hkv, _⟩ := hk
          have hd : s.heap.DictOf (bK c.w) a kvs := Heap.dictOf_iff.mpr ⟨_, e, hkv⟩
          refine ⟨hd.mapOf.typeIs, fun b q => ?_⟩
          cases q
          refine ⟨_, e, ?_⟩
          obtain ⟨es, ep, hex, hrest⟩ := hkv
          exact hex.2.1
        exact T_methodCall hs hline (fun pl => gm PySem.F.plainAttrs_dict PySem.F.slot_dict_get PySem.F.type_dict_get hT) hform fun p => call_args_bi he hs (firstV := [.ref a]) ⟨rfl, trivial⟩ h
      · exact h.elim
    · exact h.elim
  · rename_i b
    obtain ⟨t, rfl⟩ := hu
    split at h
    · rename_i hx
      have hx : x = ("find" : Str) := by simpa using hx
      subst hx
      exact T_methodCall hs hline (fun pl => gm FB.plainAttrs_bytes slot_bytes_find type_bytes_find fun s G R => ⟨typeIs_bytes _ _ _, fun _ e => nomatch e⟩) hform fun p => call_args_bi he hs (firstV := [.bytes b]) ⟨⟨t, rfl⟩, trivial⟩ h
    · exact h.elim
  · exact h.elim
theorem form_ok {n : Nat} {args : List Expr} {pos' : Pos} (hs : args.all noStar = true) (hn : n < 30) : methodCallForm n (backTo pos' (starEach args env)) [] = true := by
  have h := any_star (env := env) (pos := pos') hs
  unfold methodCallForm
  have : (backTo pos' (starEach args env)).all (fun x => !x.1) = true := by
    rw [List.all_eq_true]
    intro x hx
    have := List.any_eq_false.mp h x hx
    simpa using this
  rw [this]
  simp
  omega
theorem subE_ok {r : EvF} (he : EvOk c env r.ev) {v i : Expr} {pos : Pos} {k : kV} (h : subE r v i ρ σ k) : TV c (eval (.Subscript v i pos) env) ρ σ (kE ρ k) := by
  have gen : ∀ i : Expr, isSl i = false → (r.ev v ρ σ fun o σ1 => r.ev i ρ σ1 fun iv σ2 => itemK o iv σ2 fun x => k x σ2) → TV c (eval (.Subscript v i pos) env) ρ σ (kE ρ k) := fun i hs h =>
    T_Subscript hs ((he _ _ _ _ h).mono fun o ρ' σ' q => by
      obtain ⟨e, q⟩ := q
      rw [e]
      exact (he _ _ _ _ q).mono fun i ρ1 σ1 q => by
        obtain ⟨e, q⟩ := q
        rw [e]
        unfold itemK at q ⊢
        split at q
        · exact ⟨q.1, q.2.1, rfl, q.2.2⟩
        · obtain ⟨h0, xs, v, a1, a2, a3⟩ := q
          exact ⟨h0, xs, v, a1, a2, rfl, a3⟩
        · exact q.elim)
  unfold subE at h
  split at h
  · rename_i lo hi st p
    cases st with
    | some _ => exact h.elim
    | none =>
      exact T_SubSlice ((he _ _ _ _ h).mono fun o ρ' σ' q => by
        obtain ⟨e, q⟩ := q
        rw [e]
        exact (optE_ok he q).mono fun l ρ1 σ1 q => by
          obtain ⟨e, q⟩ := q
          rw [e]
          exact (optE_ok he q).mono fun u ρ2 σ2 q => by
            obtain ⟨e, q⟩ := q
            rw [e]
            obtain ⟨lo', hi', p1, p2, q⟩ := q
            refine ⟨lo', hi', p1, p2, ?_⟩
            split at q
            · exact ⟨q.1, rfl, q.2⟩
            · obtain ⟨b, b1, b2, b3⟩ := q
              exact ⟨b, b1, b2, fun r hr => ⟨rfl, b3 r hr⟩⟩
            · exact q)
  · split at h
    · rename_i hs; exact gen _ hs h
    · exact h.elim
theorem callE_ok {r : EvF} (he : EvOk c env r.ev) (hE : EnvOk c env) {f : Expr} {args : List Expr} {pos : Pos} {k : kV} (h : callE c env r f args pos ρ σ k) : TV c (eval (.Call f args [] pos) env) ρ σ (kE ρ k) := by
  unfold callE at h
  split at h
  · rename_i o x apos
    split at h
    · rename_i hall
      simp only [Bool.and_eq_true] at hall
      obtain ⟨hb, hs, hl, hn⟩ := hall
      rw [arm_eval_Call, base_eq hb]
      refine TE_bind (he _ _ _ _ h) fun ov u σ1 q hu => T_at ?_
      exact method_ok he hs hl (form_ok hs (by simpa using hn)) hu q
    · exact h.elim
  · rename_i x p
    split at h
    · rename_i hs
      show TV c (eval (.Name x p) env >>= fun f => callWith pos f [] (backTo pos (starEach args env)) []) ρ σ _
      exact TE_bind (name_sound hE h) fun f u σ1 q hu => callee_ok he hs hu q
    · exact h.elim
  · exact h.elim
theorem evStep_ok {r : EvF} (he : EvOk c env r.ev) (ht : TstOk c env r.tst) (hE : EnvOk c env) : EvOk c env (evStep c env r) := fun e ρ σ k h => by
  cases e with
  | Constant cst _ _ => exact const_sound h
  | Name x _ => exact name_sound hE h
  | BinOp a op b pos =>
    rw [arm_eval_BinOp]
    exact TE_bind (he _ _ _ _ h) fun x u σ1 q hu => TE_bind (T_holding (he _ _ _ _ q)) fun y v σ2 q2 hv => T_at (T_operate (bin_sound hu hv q2))
  | UnaryOp op x pos =>
    rw [arm_eval_UnaryOp]
    exact TE_bind (he _ _ _ _ h) fun x u σ1 q hu => T_at (T_holding (un_sound hu q))
  | IfExp t a b pos =>
    rw [arm_eval_IfExp]
    refine TB_bind (ht _ _ _ _ h) fun b σ1 q => ?_
    cases b with
    | true => rw [if_pos rfl]; exact he _ _ _ _ (q.1 rfl)
    | false => rw [if_neg Bool.false_ne_true]; exact he _ _ _ _ (q.2 rfl)
  | Compare a ops es pos =>
    unfold evStep at h
    dsimp only at h
    split at h
    · rename_i hl
      rw [arm_eval_Compare, marked_id hl]
      refine TE_bind (he _ _ _ _ h) fun x u σ1 q hu => ?_
      exact (cmps_val he hu q).mono fun v ρ' σ' ⟨e1, b, e2, q⟩ => ⟨e1, by rw [e2]; exact q⟩
    · exact h.elim
  | BoolOp op xs pos => rw [arm_eval_BoolOp]; exact bools_ok he h
  | Attribute o x pos =>
    unfold evStep at h
    dsimp only at h
    split at h
    · rename_i hb
      rw [arm_eval_Attribute, base_eq hb]
      refine TE_bind (he _ _ _ _ h) fun x u σ1 q hu => T_at (TE_bind (T_holding (attr_sound hu q)) fun y v σ2 q2 hv => T_letgo (T_pure hv ⟨rfl, q2⟩))
    · exact h.elim
  | Subscript v i pos => exact subE_ok he h
  | Tuple xs n pos =>
    unfold evStep at h
    dsimp only at h
    split at h
    · rename_i hs
      rw [arm_eval_Tuple]
      refine T_at (T_bind ((evs_ok he hs h).mono fun vs ρ' σ' q us hv => ?_))
      obtain ⟨e, q1, q2⟩ := q
      rw [e]
      exact T_newTuple hv q1 q2
    · exact h.elim
  | List xs pos =>
    unfold evStep at h
    dsimp only at h
    split at h
    · rename_i hs
      rw [arm_eval_List]
      refine T_at (T_bind ((evs_ok he hs h).mono fun vs ρ' σ' q us hv => ?_))
      obtain ⟨e, q1, q2⟩ := q
      rw [e]
      exact T_newList hv q1 q2
    · exact h.elim
  | Dict ks vs pos =>
    cases ks with
    | nil => cases vs with
      | nil => exact T_dict_new h
      | cons _ _ => exact False.elim h
    | cons _ _ => exact False.elim h
  | Call f args kws pos =>
    cases kws with
    | nil => exact callE_ok he hE h
    | cons _ _ => exact False.elim h
  | _ => exact False.elim h
theorem test_eq {e : Expr} {whole : Sem Value} (h : plainTest e = true) : isTrue e env whole = (whole >>= fun v => standAt e.pos >>= fun _ => holding [v] (truthy v)) := by
  cases e <;> first | rfl | cases h
theorem tstStep_ok {r : EvF} (he : EvOk c env r.ev) (ht : TstOk c env r.tst) : TstOk c env (tstStep r) := fun e ρ σ k h => by
  have gen : ∀ e : Expr, (match plainTest e with | true => r.ev e ρ σ (truC k) | false => False) → TB c (isTrue e env (eval e env)) ρ σ (kB ρ k) := fun e h => by
    split at h
    · rename_i hp
      rw [test_eq hp]
      exact TE_bind (he _ _ _ _ h) fun x u σ1 q hu => T_at (T_holding (truth_sound hu q))
    · exact h.elim
  cases e with
  | UnaryOp op x pos =>
    cases op with
    | Not =>
      rw [arm_isTrue_UnaryOp]
      exact TB_bind (ht _ _ _ _ h) fun b σ1 q => T_pure (V := fun a b => a = b) rfl ⟨rfl, q⟩
    | _ => exact False.elim h
  | BoolOp op xs pos => rw [arm_isTrue_BoolOp]; exact tsts_ok ht h
  | Compare a ops es pos =>
    unfold tstStep at h
    dsimp only at h
    split at h
    · rename_i hl
      rw [arm_isTrue_Compare, marked_id hl]
      exact TE_bind (he _ _ _ _ h) fun x u σ1 q hu => cmps_tst he hu q
    · exact h.elim
  | _ => exact gen _ h
theorem evF_ok (hE : EnvOk c env) : ∀ n, EvOk c env (evF c env n).ev ∧ TstOk c env (evF c env n).tst
  | 0 => ⟨fun _ _ _ _ h => h.elim, fun _ _ _ _ h => h.elim⟩
  | n + 1 => ⟨evStep_ok (evF_ok hE n).1 (evF_ok hE n).2 hE, tstStep_ok (evF_ok hE n).1 (evF_ok hE n).2⟩
end
end Mine

end
section
open PySem PySem.W PyProof.Rows PySem.Calls
set_option maxHeartbeats 4000000
set_option linter.unusedVariables false
set_option linter.unusedSimpArgs false
namespace MineK
section
variable {prog : Program} {w : World} {A : Around} {E : Value → Shared → Prop} {s : Shared}
theorem set_list {l : Addr} {o : Obj} {items : Array Value} {k : Int} {t : Tok} {v : Value} {Q : Unit → Shared → Prop} (ho' : s.heap.get? l = some o) (hl : s.heap.IsList l items)
    (h0 : 0 ≤ k) (hfit : k < 2 ^ 63) (hn : k < items.size)
    (hQ : Q () { s with heap := s.heap.update l (Obj.mapSeq (·.setIfInBounds k.toNat v)) }) :
    wpAny (model prog w) A (setItem (.ref l) (.int k t) v) Q E s := by
  obtain ⟨o, ho, hc, ne, hd⟩ := id hl
  unfold setItem
  try with_reducible refine wpAny_holding ?_
  first | refine wpAny_bind (wpAny_pure ?_) | skip
  refine wpAny_bind (wpAny_sequenceKey hl.typeIs (by decide) ?_)
  refine wpAny_bind (wpAny_callSpecial?_slot (name := Str.ofString "__setitem__") hl.typeIs slot_list_setitem
    (wpAny_call_entry slot_list_setitem hl.typeIs entry_list_setitem ?_ (args_list_setitem _ _ _)))
  show wpAny _ _ (Builtin.List.listSubscript? (.int k t) >>= _) _ _ s
  refine wpAny_bind (wpAny_listSubscript_int (fitsIndex_of h0 hfit) ?_)
  clear hfit
  obtain ⟨j, rfl⟩ := Int.eq_ofNat_of_zero_le h0
  have hj : j < items.size := by omega
  have hx' : items[j]? = some items[j] := Array.getElem?_eq_getElem hj
  show wpAny _ _ ((seqItemAt l j >>= fun r => pure (r.map (j, ·))) >>= _) _ _ s
  refine wpAny_bind (wpAny_bind (wpAny_seqItemAt ho hd (wpAny_pure ?_)))
  rw [hx']
  show wpAny _ _ (setSeqItemAt l j v >>= _) _ _ s
  refine wpAny_bind (wpAny_setSeqItemAt ho hd ?_)
  first
    | exact wpAny_bind (wpAny_pure (wpAny_pure ⟨.none, rfl, wpAny_pure hQ⟩))
    | exact wpAny_pure ⟨.none, rfl, wpAny_pure hQ⟩
end
end MineK
namespace Mine
open MineK
open PySem.Challenge (pw_xm0629_01 rw_xm0629_01)

/-! ## The small interpreter of statements -/
noncomputable def isComp : Expr → Bool
  | .ListComp .. | .SetComp .. | .DictComp .. => true
  | _ => false
theorem swaps_no {value : Expr} {t : Option Expr} {l : Nat} {env : Env} (h : isComp value = false) : swapsWith value t l env = pure false := by
  cases value <;> first | rfl | cases h
noncomputable def nameOf? (env : Env) : Expr → Option Str
  | .Name x _ => match env.kindOf x with
    | some .local => some x
    | _ => none
  | _ => none
/-- the names of a tuple of targets -/
noncomputable def namesOf? (env : Env) : List Expr → Option (List Str)
  | [] => some []
  | t :: ts => match nameOf? env t, namesOf? env ts with
    | some x, some xs => some (x :: xs)
    | _, _ => none
noncomputable def puts : List Str → List MV → Nm → Nm
  | x :: xs, v :: vs, ρ => puts xs vs (put x v ρ)
  | _, _, ρ => ρ
noncomputable def noSwap (env : Env) (targets : List Expr) (value : Expr) : Option (Option (List Str)) :=
  match swappedStores targets value env with
  | .pure r => some r
  | _ => none
theorem noSwap_ok {env : Env} {targets : List Expr} {value : Expr} {r : Option (List Str)} (h : noSwap env targets value = some r) : swappedStores targets value env = pure r := by
  unfold noSwap at h
  split at h
  · rename_i r' e; cases h; exact e
  · cases h
section
variable {c : Cx} {ρ : Nm} {σ : St} {env : Env}
theorem T_puts {hE : EnvOk c env} {k : Nm → St → Prop} : ∀ {xs : List Str} {vs : List MV} {us : List Value} {ρ : Nm}, (∀ x ∈ xs, env.kindOf x = some .local) → VRs vs us → k (puts xs vs ρ) σ → TU c (assignInOrder (xs.map fun n => bindName env n) us) ρ σ k
  | [], _, _, ρ, _, _, h => by
    have : assignInOrder ([] : List (Value → Sem Unit)) = fun _ => pure () := by funext l; cases l <;> rfl
    show TU c (assignInOrder [] _) ρ σ k
    rw [this]
    exact T_pure (V := fun _ _ => True) (b := ()) trivial (by cases ‹List MV› <;> exact h)
  | x :: xs, [], [], ρ, hx, hv, h => T_pure (V := fun _ _ => True) (b := ()) trivial h
  | x :: xs, v :: vs, u :: us, ρ, hx, hv, h => by
    show TU c (holding us (bindName env x u) >>= fun _ => assignInOrder (xs.map fun n => bindName env n) us) ρ σ k
    refine T_bind (V := fun _ _ => True) (T_holding (T_bindName (T_store_local hE.locals hE.kind (hx x (.head _)) hv.1 fun _ _ => ?_)))
    exact T_puts (hE := hE) (fun y hy => hx y (.tail _ hy)) hv.2 h
theorem T_unpackItems {a : Addr} {vs : List MV} {n : Nat} {k : List MV → Nm → St → Prop} (ha : σ a = some (.tuple vs)) (hn : vs.length = n) (h : k vs ρ σ) : TL c (unpackItems (.ref a) n none) ρ σ k := fun G A s E Q hG hA hR hQ => by
  obtain ⟨us, ht, hv⟩ := tup_of_rep (hR.obj _ _ ha)
  have hl := hv.length
  have e : n = us.toArray.size := by rw [List.size_toArray]; omega
  rw [e]
  refine lift (unpackItems_tuple hA.handled ht fun h' hk => ?_)
  exact hQ vs _ ρ σ h' s.toks h (by simpa using hv) (hR.grow fun b o e => hk b o (Nat.ne_of_lt (Heap.lt_size e)) e)
/-! the interpreter -/
noncomputable abbrev ExT := Stmt → Nm → St → kX → Prop
noncomputable def seqC (p : Nm → St → kX → Prop) (k : kX) : kX := fun fl ρ σ => match fl with
  | .next => p ρ σ k
  | fl => k fl ρ σ
noncomputable def exs (ex : ExT) : List Stmt → Nm → St → kX → Prop
  | [], ρ, σ, k => k .next ρ σ
  | s :: r, ρ, σ, k => ex s ρ σ (seqC (exs ex r) k)
noncomputable def ifK (b : Bool) (p q : Prop) : Prop := (b = true → p) ∧ (b = false → q)
/-- stores -/
noncomputable def setAttrK (o : MV) (x : Str) (v : MV) (σ : St) (k : St → Prop) : Prop :=
  match o with
  | .ref a => ∃ ob, σ a = some ob ∧ match ob with
    | .inst C dx => ∃ ob2, σ dx = some ob2 ∧ match ob2, fieldB C x with
      | .ns fs, true => (put x v fs).length ≤ 1000 ∧ k (σ.upd dx (.ns (put x v fs)))
      | _, _ => False
    | _ => False
  | _ => False
theorem setAttr_ok {o v : MV} {uo uv : Value} {x : Str} {k : St → Prop} (ho : VR o uo) (hv : VR v uv) (h : setAttrK o x v σ k) : TU c (setAttr uo x uv) ρ σ fun ρ' σ' => ρ' = ρ ∧ k σ' := by
  unfold setAttrK at h
  split at h
  · cases ho
    obtain ⟨ob, h1, h⟩ := h
    split at h
    · obtain ⟨ob2, h2, h⟩ := h
      split at h
      · rename_i hf
        exact T_setAttr h1 h2 (fieldB_ok hf) h.1 hv ⟨rfl, h.2⟩
      · exact h.elim
    · exact h.elim
  · exact h.elim
noncomputable def augK (op : Operator) (a b : MV) (σ : St) (k : kV) : Prop :=
  match op, a, b with
  | .Add, .int i, .int j => k (.int (i + j)) σ
  | .Sub, .int i, .int j => k (.int (i - j)) σ
  | _, _, _ => False
theorem aug_ok {op : Operator} {a b : MV} {u v : Value} {k : kV} (hu : VR a u) (hv : VR b v) (h : augK op a b σ k) : TV c (inplaceOp op u v) ρ σ (kE ρ k) := by
  unfold augK at h
  split at h
  · obtain ⟨t, rfl⟩ := hu; obtain ⟨t', rfl⟩ := hv
    exact T_ofVal (v := .int _) ⟨rfl, h⟩ fun A s E Q _ hq => iadd_int (hq _ _ ⟨_, rfl⟩)
  · obtain ⟨t, rfl⟩ := hu; obtain ⟨t', rfl⟩ := hv
    exact T_ofVal (v := .int _) ⟨rfl, h⟩ fun A s E Q _ hq => isub_int (hq _ _ ⟨_, rfl⟩)
  · exact h.elim
noncomputable def setItemK (w : World) (o i v : MV) (σ : St) (k : St → Prop) : Prop :=
  match o, i with
  | .ref a, .bytes b => ∃ ob f n, (σ a = some (.raw ob) ∧ IsKD w ob f n ∧ n ≤ 1000) ∧ ∀ ob', IsKD w ob' (fun y => if y = b then some v else f y) (n + 1) → k (σ.upd a (.raw ob'))
  | .ref a, .int j => ∃ xs, (σ a = some (.list xs) ∧ 0 ≤ j ∧ j < xs.length ∧ xs.length ≤ 1000000) ∧ k (σ.upd a (.list (xs.set j.toNat v)))
  | _, _ => False
theorem T_list_set {a : Addr} {xs : List MV} {j : Int} {v : MV} {ui uv : Value} {k : Nm → St → Prop} (ha : σ a = some (.list xs)) (h0 : 0 ≤ j) (h1 : j < xs.length) (hz : xs.length ≤ 1000000) (hi : VR (.int j) ui) (hv : VR v uv)
    (h : k ρ (σ.upd a (.list (xs.set j.toNat v)))) : TU c (setItem (.ref a) ui uv) ρ σ k := fun G A s E Q hG hA hR hQ => by
  obtain ⟨t, rfl⟩ := hi
  obtain ⟨us, n, e, hus⟩ := hR.obj _ _ ha
  have hl := hus.length
  have hL : s.heap.IsList a us.toArray := ⟨_, e, rfl, n, rfl⟩
  refine lift (set_list e hL h0 (by omega) (by rw [List.size_toArray]; omega) ?_)
  obtain ⟨n', hn⟩ : ∃ n', Obj.mapSeq (·.setIfInBounds j.toNat uv) { cls := .type "list", dict := none, data := .seq us.toArray n, slots := #[] } = { cls := .type "list", dict := none, data := .seq (us.set j.toNat uv).toArray n', slots := #[] } := by
    simp [Obj.mapSeq]
  refine hQ () () ρ _ _ _ h trivial (hR.turn ha (fun b hb => Heap.get?_update_ne _ _ _ _ hb) ⟨us.set j.toNat uv, n', ?_, hus.set hv⟩)
  rw [Heap.get?_update_self _ e (by rw [hn]; rfl), hn]
theorem setItem_ok {o i v : MV} {uo ui uv : Value} {k : St → Prop} (ho : VR o uo) (hi : VR i ui) (hv : VR v uv) (h : setItemK c.w o i v σ k) : TU c (setItem uo ui uv) ρ σ fun ρ' σ' => ρ' = ρ ∧ k σ' := by
  unfold setItemK at h
  split at h
  · cases ho
    obtain ⟨ob, f, n, ⟨h1, h2, h3⟩, h⟩ := h
    exact T_dict_set h1 h2 h3 hi hv fun o' ho' => ⟨rfl, h o' ho'⟩
  · cases ho
    obtain ⟨xs, ⟨h1, h2, h3, h4⟩, h⟩ := h
    exact T_list_set h1 h2 h3 h4 hi hv ⟨rfl, h⟩
  · exact h.elim
noncomputable def tupK (ob : MObj) (p : List MV → Prop) : Prop :=
  match ob with
  | .tuple vs => p vs
  | _ => False
theorem tupK_ok {ob : MObj} {p : List MV → Prop} (h : tupK ob p) : ∃ vs, ob = .tuple vs ∧ p vs := by
  cases ob with
  | tuple vs => exact ⟨vs, rfl, h⟩
  | _ => exact False.elim h
noncomputable def refK (v : MV) (p : Addr → Prop) : Prop :=
  match v with
  | .ref a => p a
  | _ => False
theorem refK_ok {v : MV} {p : Addr → Prop} (h : refK v p) : ∃ a, v = .ref a ∧ p a := by
  cases v with
  | ref a => exact ⟨a, rfl, h⟩
  | _ => exact False.elim h
noncomputable def optK {α : Type} (o : Option α) (p : α → Prop) : Prop :=
  match o with
  | some x => p x
  | none => False
theorem optK_ok {α : Type} {o : Option α} {p : α → Prop} (h : optK o p) : ∃ x, o = some x ∧ p x := by
  cases o with
  | some x => exact ⟨x, rfl, h⟩
  | none => exact False.elim h
noncomputable def storeT (env : Env) (ts : List Expr) (n : Nat) (p : Pos) (value : Expr) (v : MV) (ρ : Nm) (σ : St) (k : Nm → St → Prop) : Prop :=
  optK (namesOf? env ts) fun xs => optK (noSwap env [.Tuple ts n p] value) fun sw => refK v fun a => ∃ ob, σ a = some ob ∧ tupK ob fun vs =>
    match sw with
    | none => vs.length = xs.length ∧ k (puts xs vs ρ) σ
    | some ys => (vs.length = ys.length ∧ ys = xs) ∧ k (puts xs.reverse vs.reverse ρ) σ
noncomputable def locK (env : Env) (x : Str) (p : Prop) : Prop :=
  match env.kindOf x with
  | some .local => p
  | _ => False
theorem locK_ok {env : Env} {x : Str} {p : Prop} (h : locK env x p) : env.kindOf x = some .local ∧ p := by
  unfold locK at h
  split at h
  · rename_i e; exact ⟨e, h⟩
  · exact h.elim
noncomputable def noK (b : Bool) (p : Prop) : Prop :=
  match b with
  | false => p
  | true => False
theorem noK_ok {b : Bool} {p : Prop} (h : noK b p) : b = false ∧ p := by
  cases b with
  | false => exact ⟨rfl, h⟩
  | true => exact False.elim h
noncomputable def saC (x : Str) (v : MV) (k : St → Prop) : kV := fun ov σ => setAttrK ov x v σ k
noncomputable def siC2 (w : World) (ov v : MV) (k : St → Prop) : kV := fun iv σ => setItemK w ov iv v σ k
noncomputable def siC1 (c : Cx) (r : EvF) (i : Expr) (v : MV) (ρ : Nm) (k : St → Prop) : kV := fun ov σ => r.ev i ρ σ (siC2 c.w ov v k)
noncomputable def storeK (c : Cx) (env : Env) (r : EvF) (t value : Expr) (v : MV) (ρ : Nm) (σ : St) (k : Nm → St → Prop) : Prop :=
  match t with
  | .Name x _ => locK env x (k (put x v ρ) σ)
  | .Attribute o x _ => r.ev o ρ σ (saC x v (k ρ))
  | .Subscript o i _ => r.ev o ρ σ (siC1 c r i v ρ (k ρ))
  | .Tuple ts n p => storeT env ts n p value v ρ σ k
  | _ => False
noncomputable def notSet : Expr → Bool
  | .Set .. => false
  | _ => true
noncomputable def rtC (ρ : Nm) (k : kX) : kV := fun v σ => k (.ret v) ρ σ
noncomputable def nxC (ρ : Nm) (k : kX) : kV := fun _ σ => k .next ρ σ
noncomputable def rtK (r : EvF) (e : Option Expr) (ρ : Nm) (σ : St) (k : kX) : Prop :=
  match e with
  | none => k (.ret .none) ρ σ
  | some e => r.ev e ρ σ (rtC ρ k)
noncomputable def forC (c : Cx) (x : Str) (bd : Nm → St → kX → Prop) (ρ : Nm) (k : kX) : kV := fun v σ => ∃ items sideS, Iterable c v items sideS ∧ forL sideS (putB x) bd items ρ σ k
noncomputable def forK (c : Cx) (env : Env) (r : EvF) (exb : List Stmt → Nm → St → kX → Prop) (t it : Expr) (b els : List Stmt) (ρ : Nm) (σ : St) (k : kX) : Prop :=
  match t with
  | .Name x _ => match els with
    | [] => locK env x (noK (!notSet it) (r.ev it ρ σ (forC c x (exb b) ρ k)))
    | _ => False
  | _ => False
noncomputable def asC (c : Cx) (env : Env) (r : EvF) (t value : Expr) (ρ : Nm) (k : kX) : kV := fun v σ => storeK c env r t value v ρ σ (k .next)
noncomputable def asgK (c : Cx) (env : Env) (r : EvF) (ts : List Expr) (value : Expr) (ρ : Nm) (σ : St) (k : kX) : Prop :=
  match ts with
  | [] => False
  | t :: ts' => match ts' with
    | [] => noK (isComp value) (r.ev value ρ σ (asC c env r t value ρ k))
    | _ :: _ => False
noncomputable def agN2 (x : Str) (ρ : Nm) (k : kX) : kV := fun v σ => k .next (put x v ρ) σ
noncomputable def agN1 (op : Operator) (old : MV) (x : Str) (ρ : Nm) (k : kX) : kV := fun b σ => augK op old b σ (agN2 x ρ k)
noncomputable def agA4 (ov : MV) (x : Str) (ρ : Nm) (k : kX) : kV := fun v σ => setAttrK ov x v σ (k .next ρ)
noncomputable def agA3 (op : Operator) (ov old : MV) (x : Str) (ρ : Nm) (k : kX) : kV := fun b σ => augK op old b σ (agA4 ov x ρ k)
noncomputable def agA2 (r : EvF) (op : Operator) (ov : MV) (x : Str) (value : Expr) (ρ : Nm) (k : kX) : kV := fun old σ => r.ev value ρ σ (agA3 op ov old x ρ k)
noncomputable def agA1 (r : EvF) (op : Operator) (x : Str) (value : Expr) (ρ : Nm) (k : kX) : kV := fun ov σ => attrK ov x σ (agA2 r op ov x value ρ k)
noncomputable def augE (c : Cx) (env : Env) (r : EvF) (t : Expr) (op : Operator) (value : Expr) (ρ : Nm) (σ : St) (k : kX) : Prop :=
  match t with
  | .Name x _ => locK env x (optK (look x ρ) fun old => r.ev value ρ σ (agN1 op old x ρ k))
  | .Attribute o x _ => r.ev o ρ σ (agA1 r op x value ρ k)
  | _ => False
noncomputable def atC (ρ : Nm) (k : Bool → Nm → St → Prop) : kB1 := fun q σ => k q ρ σ
noncomputable def tsC (r : EvF) (t : Expr) : Nm → St → (Bool → Nm → St → Prop) → Prop := fun ρ σ k => r.tst t ρ σ (atC ρ k)
noncomputable def whK (r : EvF) (exb : List Stmt → Nm → St → kX → Prop) (t : Expr) (b els : List Stmt) (ρ : Nm) (σ : St) (k : kX) : Prop :=
  match els with
  | [] => ∃ N, whileN (tsC r t) (exb b) N ρ σ k
  | _ :: _ => False
noncomputable def ifC (exb : List Stmt → Nm → St → kX → Prop) (a b : List Stmt) (ρ : Nm) (k : kX) : kB1 := fun q σ => (q = true → exb a ρ σ k) ∧ (q = false → exb b ρ σ k)
noncomputable def exStep (c : Cx) (env : Env) (r : EvF) (ex : ExT) (s : Stmt) (ρ : Nm) (σ : St) (k : kX) : Prop :=
  match s with
  | .Expr v _ => noK (isComp v) (r.ev v ρ σ (nxC ρ k))
  | .Return e _ => rtK r e ρ σ k
  | .Pass _ => k .next ρ σ
  | .Break _ => k .brk ρ σ
  | .If t a b _ => r.tst t ρ σ (ifC (exs ex) a b ρ k)
  | .While t b els _ => whK r (exs ex) t b els ρ σ k
  | .For t it b els _ => forK c env r (exs ex) t it b els ρ σ k
  | .Assign ts value _ => asgK c env r ts value ρ σ k
  | .AugAssign t op value _ => augE c env r t op value ρ σ k
  | _ => False
noncomputable def ExOk (c : Cx) (env : Env) (ex : ExT) : Prop := ∀ s ρ σ k, ex s ρ σ k → TX c (exec s env) ρ σ k
theorem exs_ok {ex : ExT} (he : ExOk c env ex) : ∀ {ss : List Stmt} {ρ : Nm} {σ : St} {k : kX}, exs ex ss ρ σ k → TX c (execs ss env) ρ σ k
  | [], ρ, σ, k, h => T_execs_nil h
  | s :: r, ρ, σ, k, h => T_execs_cons ((he _ _ _ _ h).mono fun fl ρ' σ' q => by
      cases fl with
      | next => exact exs_ok he q
      | brk => exact q
      | cont => exact q
      | ret v => exact q)
end
end Mine

end
section
open PySem PySem.W PyProof.Rows PySem.Calls
set_option maxHeartbeats 4000000
set_option linter.unusedVariables false
set_option linter.unusedSimpArgs false
namespace Mine
open MineK
open PySem.Challenge (pw_xm0629_01 rw_xm0629_01)
section
variable {c : Cx} {ρ : Nm} {σ : St} {env : Env}
theorem T_bindU {γ δ : Type} {V' : δ → γ → Prop} {m : Sem Unit} {f : Unit → Sem γ} {k' : δ → Nm → St → Prop} (h : TU c m ρ σ fun ρ' σ' => T V' c (f ()) ρ' σ' k') : T V' c (m >>= f) ρ σ k' :=
  T_bind (V := fun (_ : Unit) _ => True) (h.mono fun _ ρ' σ' q _ _ => q)
theorem T_releaseU {vs ks : List Value} {k : Nm → St → Prop} (h : k ρ σ) : TU c (release vs ks) ρ σ k := fun G A s E Q hG hA hR hQ => wpAny_release' (hQ () () ρ σ s.heap s.toks h trivial hR)
theorem T_next {k : kX} (h : k .next ρ σ) : TX c (pure .next) ρ σ k := T_pure (V := FR) (b := Fl.next) rfl h
theorem namesOf_spec : ∀ {ts : List Expr} {xs : List Str}, namesOf? env ts = some xs → (∀ x ∈ xs, env.kindOf x = some .local) ∧ assignEach ts env = (xs.zip ts).map (fun p => (false, fun v => standAt p.2.pos >>= fun _ => bindName env p.1 v)) ∧ ts.length = xs.length
  | [], xs, h => by cases h; exact ⟨fun _ h => (nomatch h), rfl, rfl⟩
  | t :: ts, xs, h => by
    unfold namesOf? at h
    split at h
    · rename_i x ys h1 h2
      cases h
      obtain ⟨a1, a2, a3⟩ := namesOf_spec h2
      unfold nameOf? at h1
      split at h1
      · rename_i y pos
        split at h1
        · rename_i hk
          cases h1
          refine ⟨fun z hz => ?_, ?_, by simp [a3]⟩
          · rcases List.mem_cons.mp hz with rfl | hz
            · exact hk
            · exact a1 z hz
          · show (false, assign (.Name x pos) env) :: assignEach ts env = _
            rw [a2]; rfl
        · cases h1
      · cases h1
    · cases h
theorem T_puts2 {hE : EnvOk c env} {k : Nm → St → Prop} : ∀ {xs : List Str} {ts : List Expr} {vs : List MV} {us : List Value} {ρ : Nm}, ts.length = xs.length → (∀ x ∈ xs, env.kindOf x = some .local) → VRs vs us → k (puts xs vs ρ) σ →
    TU c (assignInOrder (((xs.zip ts).map (fun p => ((false, fun v => standAt p.2.pos >>= fun _ => bindName env p.1 v) : Bool × (Value → Sem Unit)))).map (·.2)) us) ρ σ k
  | [], _, vs, us, ρ, _, _, _, h => T_pure (V := fun _ _ => True) (b := ()) trivial (by cases vs <;> exact h)
  | x :: xs, [], _, _, _, hl, _, _, _ => by simp at hl
  | x :: xs, t :: ts, [], [], ρ, _, hx, hv, h => T_pure (V := fun _ _ => True) (b := ()) trivial h
  | x :: xs, t :: ts, v :: vs, u :: us, ρ, hl, hx, hv, h => by
    show TU c (holding us (standAt t.pos >>= fun _ => bindName env x u) >>= fun _ => assignInOrder (((xs.zip ts).map (fun p => ((false, fun v => standAt p.2.pos >>= fun _ => bindName env p.1 v) : Bool × (Value → Sem Unit)))).map (·.2)) us) ρ σ k
    refine T_bind (V := fun _ _ => True) (T_holding (T_at (T_bindName (T_store_local hE.locals hE.kind (hx x (.head _)) hv.1 fun _ _ => ?_))))
    exact T_puts2 (hE := hE) (by simpa using hl) (fun y hy => hx y (.tail _ hy)) hv.2 h
theorem VRs_reverse {vs : List MV} {us : List Value} (h : VRs vs us) : VRs vs.reverse us.reverse := by
  induction vs generalizing us with
  | nil => cases us with
    | nil => exact trivial
    | cons _ _ => exact h.elim
  | cons v vs ih => cases us with
    | nil => exact h.elim
    | cons u us => rw [List.reverse_cons, List.reverse_cons]; exact (ih h.2).append ⟨h.1, trivial⟩
theorem storeT_ok (hE : EnvOk c env) {ts : List Expr} {n : Nat} {p : Pos} {value : Expr} {v : MV} {u : Value} {k : kX} (hu : VR v u) (h : storeT env ts n p value v ρ σ (k .next)) :
    TX c (do assignStores env u (← swappedStores [.Tuple ts n p] value env) ((assignEach [.Tuple ts n p] env).map (·.2))) ρ σ k := by
  obtain ⟨xs, hxs, h⟩ := optK_ok h
  obtain ⟨sw, hsw, h⟩ := optK_ok h
  obtain ⟨a, rfl, ob, h1, h⟩ := refK_ok h
  obtain ⟨vs, rfl, h⟩ := tupK_ok h
  cases hu
  rw [noSwap_ok hsw]
  obtain ⟨a1, a2, a3⟩ := namesOf_spec hxs
  cases sw with
  | none =>
    show TX c ((standAt p >>= fun _ => unpack (.ref a) (assignEach ts env)) >>= fun _ => pure .next) ρ σ k
    refine T_bindU (T_at ?_)
    unfold unpack
    rw [a2]
    have hst : ((xs.zip ts).map (fun p => ((false, fun v => standAt p.2.pos >>= fun _ => bindName env p.1 v) : Bool × (Value → Sem Unit)))).findIdx? (·.1) = none := by
      rw [List.findIdx?_eq_none_iff]
      intro x hx
      obtain ⟨y, _, rfl⟩ := List.mem_map.mp hx
      rfl
    rw [hst]
    refine T_bind (T_holding (T_unpackItems h1 (by simp [a3, h.1]) fun us hus => ?_))
    exact T_puts2 (hE := hE) a3 a1 hus (T_next h.2)
  | some ys =>
    obtain ⟨⟨h2, rfl⟩, h3⟩ := h
    show TX c (rule "assign.swapped-stores" >>= fun _ => unpackItems (.ref a) ys.length none >>= fun items => assignInOrder (ys.reverse.map fun n => bindName env n) items.reverse >>= fun _ => pure .next) ρ σ k
    refine T_rule (T_bind (T_unpackItems h1 h2 fun us hus => T_bindU ?_))
    exact T_puts (hE := hE) (fun x hx => a1 x (List.mem_reverse.mp hx)) (VRs_reverse hus) (T_next h3)
theorem store_ok {r : EvF} (he : EvOk c env r.ev) (hE : EnvOk c env) {t value : Expr} {v : MV} {u : Value} {k : kX} (hu : VR v u) (h : storeK c env r t value v ρ σ (k .next)) :
    TX c (do assignStores env u (← swappedStores [t] value env) ((assignEach [t] env).map (·.2))) ρ σ k := by
  cases t with
  | Name x pos =>
    obtain ⟨hk, h⟩ := locK_ok h
    show TX c (pure none >>= fun sw => assignStores env u sw [assign (.Name x pos) env]) ρ σ k
    show TX c ((standAt pos >>= fun _ => bindName env x u) >>= fun _ => pure .next) ρ σ k
    exact T_bind (V := fun _ _ => True) (T_at (T_bindName (T_store_local hE.locals hE.kind hk hu fun _ _ => T_pure (V := FR) (b := Fl.next) rfl h)))
  | Attribute o x pos =>
    show TX c ((holding [u] (eval o env) >>= fun ov => standAt pos.atName >>= fun _ => holding [u, ov] (setAttr ov x u) >>= fun _ => release [u, ov] []) >>= fun _ => pure .next) ρ σ k
    refine T_bindU (TE_bind (T_holding (he _ _ _ _ h)) fun ov uo σ1 q hov => T_at (T_bindU (T_holding ((setAttr_ok hov hu q).mono fun _ ρ' σ' q2 => ?_))))
    obtain ⟨e, q2⟩ := q2
    rw [e]
    exact T_releaseU (T_next q2)
  | Subscript o i pos =>
    show TX c ((holding [u] (eval o env) >>= fun ov => holding [u, ov] (eval i env) >>= fun iv => standAt pos >>= fun _ => holding [u, ov, iv] (setItem ov iv u) >>= fun _ => release _ []) >>= fun _ => pure .next) ρ σ k
    refine T_bindU (TE_bind (T_holding (he _ _ _ _ h)) fun ov uo σ1 q hov => TE_bind (T_holding (he _ _ _ _ q)) fun iv ui σ2 q2 hiv => T_at (T_bindU (T_holding ((setItem_ok hov hiv hu q2).mono fun _ ρ' σ' q3 => ?_))))
    obtain ⟨e, q3⟩ := q3
    rw [e]
    exact T_releaseU (T_next q3)
  | Tuple ts n p => exact storeT_ok hE hu h
  | _ => exact False.elim h
theorem interactive_no (hE : EnvOk c env) : interactive env = false := by unfold interactive; rw [hE.kind]; rfl
theorem T_drop {e : Expr} {pos : Pos} {u : Value} {k : kX} (h : k .next ρ σ) : TX c (dropValue e pos u) ρ σ k := fun G A s E Q hG hA hR hQ => lift (wpAny_dropValue (hQ .next .next ρ σ s.heap s.toks h rfl hR))
theorem folded_no {it : Expr} (h : notSet it = true) : ∀ x, foldedSetIterable it env x = pure x := fun x => by cases it <;> first | rfl | cases h
theorem forK_ok {r : EvF} {exb : List Stmt → Nm → St → kX → Prop} (he : EvOk c env r.ev) (hx : ∀ {ss : List Stmt} {ρ : Nm} {σ : St} {k : kX}, exb ss ρ σ k → TX c (execs ss env) ρ σ k) (hE : EnvOk c env) {t it : Expr} {b els : List Stmt} {pos : Pos} {k : kX} (h : forK c env r exb t it b els ρ σ k) : TX c (exec (.For t it b els pos) env) ρ σ k := by
  cases t with
  | Name x p =>
    cases els with
    | nil =>
      obtain ⟨hk, h⟩ := locK_ok h
      obtain ⟨hs, h⟩ := noK_ok h
      exact T_For (folded_no (by simpa using hs)) (fun ρ σ k q => hx q) (fun v u ρ σ k hv q => T_store_local hE.locals hE.kind hk hv q) ((he _ _ _ _ h).mono fun v ρ' σ' ⟨e, q⟩ => by rw [e]; exact q)
    | cons _ _ => exact False.elim h
  | _ => exact False.elim h
theorem asgK_ok {r : EvF} (he : EvOk c env r.ev) (hE : EnvOk c env) {ts : List Expr} {value : Expr} {pos : Pos} {k : kX} (h : asgK c env r ts value ρ σ k) : TX c (exec (.Assign ts value pos) env) ρ σ k := by
  cases ts with
  | nil => exact False.elim h
  | cons t ts =>
    cases ts with
    | cons _ _ => exact False.elim h
    | nil =>
      obtain ⟨hc, h⟩ := noK_ok h
      rw [arm_exec_Assign]
      refine T_at ?_
      show TX c (swapsWith _ _ _ env >>= _) ρ σ k
      rw [swaps_no hc]
      show TX c (eval _ env >>= fun v => swappedStores _ _ env >>= fun sw => assignStores env v sw _) ρ σ k
      exact TE_bind (he _ _ _ _ h) fun x u σ1 q hu => store_ok he hE hu q
theorem augE_ok {r : EvF} (he : EvOk c env r.ev) (hE : EnvOk c env) {t value : Expr} {op : Operator} {pos : Pos} {k : kX} (h : augE c env r t op value ρ σ k) : TX c (exec (.AugAssign t op value pos) env) ρ σ k := by
  cases t with
  | Name x p =>
    obtain ⟨hk, h⟩ := locK_ok h
    obtain ⟨old, hold, h⟩ := optK_ok h
    rw [arm_exec_AugAssign]
    exact T_at (T_bind (T_loadName_local hE.locals hE.kind hk hold fun u hu => TE_bind (T_holding (he _ _ _ _ h)) fun b v σ1 q hv => T_at (TE_bind (T_operate (aug_ok hu hv q)) fun n un σ2 q2 hn => T_at (T_bindU (T_bindName (T_store_local hE.locals hE.kind hk hn (T_next q2)))))))
  | Attribute o x p =>
    rw [arm_exec_AugAssign_2]
    refine T_at (TE_bind (he _ _ _ _ h) fun ov uo σ1 q hov => TE_bind (T_holding (T_at (TE_bind (attr_sound hov q) fun old uold σ2 q2 hold => TE_bind (T_holding (he _ _ _ _ q2)) fun b ub σ3 q3 hb => T_at (T_operate (aug_ok hold hb q3))))) fun n un σ4 q4 hn => T_at (T_bindU (T_holding ((setAttr_ok hov hn q4).mono fun _ ρ' σ' q5 => ?_))))
    obtain ⟨e, q5⟩ := q5
    rw [e]
    exact T_bindU (T_releaseU (T_next q5))
  | _ => exact False.elim h
theorem exStep_ok {r : EvF} {ex : ExT} (he : EvOk c env r.ev) (ht : TstOk c env r.tst) (hx : ExOk c env ex) (hE : EnvOk c env) : ExOk c env (exStep c env r ex) := fun st ρ σ k h => by
  cases st with
  | Expr v pos =>
    obtain ⟨hc, h⟩ := noK_ok h
    rw [arm_exec_Expr, interactive_no hE, swaps_no hc]
    exact T_at (TE_bind (he _ _ _ _ h) fun x u σ1 q hu => T_drop q)
  | Return e pos =>
    cases e with
    | none => rw [arm_exec_Return]; exact T_at (T_pure (V := FR) (b := Fl.ret .none) ⟨_, rfl, rfl⟩ h)
    | some e => rw [arm_exec_Return]; exact T_at (TE_bind (he _ _ _ _ h) fun x u σ1 q hu => T_pure (V := FR) (b := Fl.ret x) ⟨_, rfl, hu⟩ q)
  | Pass pos => rw [arm_exec_Pass]; exact T_at (T_next h)
  | Break pos => rw [arm_exec_Break]; exact T_at (T_pure (V := FR) (b := Fl.brk) rfl h)
  | If t a b pos =>
    rw [arm_exec_If]
    refine T_at (TB_bind (ht _ _ _ _ h) fun b σ1 q => ?_)
    cases b with
    | true => rw [if_pos rfl]; exact exs_ok hx (q.1 rfl)
    | false => rw [if_neg Bool.false_ne_true]; exact exs_ok hx (q.2 rfl)
  | While t b els pos =>
    cases els with
    | nil =>
      obtain ⟨N, h⟩ := h
      exact T_while (fun ρ σ k q => (ht _ _ _ _ q).mono fun b ρ' σ' ⟨e, q⟩ => by rw [e]; exact q) (fun ρ σ k q => exs_ok hx q) h
    | cons _ _ => exact False.elim h
  | For t it b els pos => exact forK_ok he (exs_ok hx) hE h
  | Assign ts value pos => exact asgK_ok he hE h
  | AugAssign t op value pos => exact augE_ok he hE h
  | _ => exact False.elim h
noncomputable def exF (c : Cx) (env : Env) (r : EvF) : Nat → ExT
  | 0 => fun _ _ _ _ => False
  | n + 1 => exStep c env r (exF c env r n)
theorem exF_ok {r : EvF} (he : EvOk c env r.ev) (ht : TstOk c env r.tst) (hE : EnvOk c env) : ∀ n, ExOk c env (exF c env r n)
  | 0 => fun _ _ _ _ h => h.elim
  | n + 1 => exStep_ok he ht (exF_ok he ht hE n) hE
end
end Mine

end
section
open PySem PySem.W PyProof.Rows PySem.Calls
set_option maxHeartbeats 4000000
set_option linter.unusedVariables false
set_option linter.unusedSimpArgs false
namespace Mine
open MineK
open PySem.Challenge (pw_xm0629_01 rw_xm0629_01)

theorem len1 {α : Type} {us : List α} (h : us.length = 1) : ∃ a, us = [a] := by
  cases us with
  | nil => cases h
  | cons a r => cases r with
    | nil => exact ⟨a, rfl⟩
    | cons _ _ => cases h
theorem lenS {α : Type} {us : List α} {n : Nat} (h : us.length = n + 1) : ∃ a r, us = a :: r ∧ r.length = n := by
  cases us with
  | nil => cases h
  | cons a r => exact ⟨a, r, rfl, Nat.succ.inj h⟩
theorem len2 {α : Type} {us : List α} (h : us.length = 2) : ∃ a b, us = [a, b] := by
  obtain ⟨a, r, rfl, q⟩ := lenS h
  obtain ⟨b, rfl⟩ := len1 q
  exact ⟨a, b, rfl⟩
theorem len3 {α : Type} {us : List α} (h : us.length = 3) : ∃ a b c, us = [a, b, c] := by
  obtain ⟨a, r, rfl, q⟩ := lenS h
  obtain ⟨b, c, rfl⟩ := len2 q
  exact ⟨a, b, c, rfl⟩
theorem len4 {α : Type} {us : List α} (h : us.length = 4) : ∃ a b c d, us = [a, b, c, d] := by
  obtain ⟨a, r, rfl, q⟩ := lenS h
  obtain ⟨b, c, d, rfl⟩ := len3 q
  exact ⟨a, b, c, d, rfl⟩
theorem len5 {α : Type} {us : List α} (h : us.length = 5) : ∃ a b c d e, us = [a, b, c, d, e] := by
  obtain ⟨a, r, rfl, q⟩ := lenS h
  obtain ⟨b, c, d, e, rfl⟩ := len4 q
  exact ⟨a, b, c, d, e, rfl⟩
/-! ## A def by its place, run by the interpreter -/
noncomputable def retK (k : kV) : kX := fun fl _ σ => match fl with
  | .ret v => k v σ
  | _ => k .none σ
noncomputable abbrev envOf (d : Option Stmt) (name qual : Str) (dV pm cd : Value) (L f : Addr) : Env := callEnv (fnOf name qual (fargs d) (fbody d) (fscope d) dV .none .none pm none cd .none) L f
noncomputable def runD (c : Cx) (env : Env) (d : Option Stmt) (ρ : Nm) (σ : St) (k : kX) : Prop := exs (exF c env (evF c env 40) 40) (fbody d) ρ σ k
theorem CALL_def {w : World} {h₀ : Heap} (W : Wld w h₀) {n : Nat} {f : Addr} {d : Option Stmt} {name qual : Str} {dV pm cd : Value} {xs : List Str} {args : List MV} {σ : St} {k : kV}
    (hf : (Kf pw_xm0629_01 w.params).lookup f = some (fnO d name qual dV pm cd)) (hcd : codeIn (Kf pw_xm0629_01 w.params) cd qual = true)
    (hco : ((fscope d).isCoroutine, (fscope d).isGenerator, (fscope d).kind, ((fscope d).names.all fun x => x.2 != .cell), (xs.all fun x => (fscope d).names.lookup x == some .local), decide xs.Nodup) = (false, false, .function, true, true, true))
    (hlen : args.length = xs.length)
    (hb : ∀ us : List Value, us.length = xs.length → bindArgs (fnOf name qual (fargs d) (fbody d) (fscope d) dV .none .none pm none cd .none) ⟨us, []⟩ = pure (xs.zip us))
    (h : ∀ L, runD ⟨w, h₀, W, n, L⟩ (envOf d name qual dV pm cd L f) d (xs.zip args) σ (retK k)) : CALL w h₀ (n + 1) (.ref f) args σ k := by
  simp only [Prod.mk.injEq] at hco
  obtain ⟨h1, h2, h3, h4, h5, h6⟩ := hco
  refine CALL_fn W hf hcd h1 h2 h3 h4 h5 (of_decide_eq_true h6) hlen hb fun L => ?_
  have hE : EnvOk ⟨w, h₀, W, n, L⟩ (envOf d name qual dV pm cd L f) := ⟨rfl, rfl, rfl, h3⟩
  have := exs_ok (exF_ok (evF_ok hE 40).1 (evF_ok hE 40).2 hE 40) (h L)
  exact this.mono fun fl ρ' σ' q => by cases fl <;> exact q

theorem CALL_digit_of {w : World} {h₀ : Heap} (W : Wld w h₀) {n : Nat} {i : Int} {σ : St} {k : kV} (h : k (.int (if 48 ≤ i ∧ i ≤ 57 then i - 48 else if 97 ≤ i ∧ i ≤ 122 then i - 87 else if 65 ≤ i ∧ i ≤ 90 then i - 55 else -1)) σ) : CALL w h₀ (n + 1) (.ref 117) [.int i] σ k := by
  refine CALL_def W (xs := ["octet"]) (d := fst pw_xm0629_01 10 none) (name := "digit_of") (qual := "digit_of") (dV := .none) (pm := .str "lua.values" 194) (cd := .ref 116) (by kernel_rfl) (by kernel_rfl) (by kernel_rfl) rfl (fun us hus => ?_) fun L => ?_
  · obtain ⟨u, rfl⟩ := len1 hus
    kernel_rfl
  · unfold runD
    repeat' (first | apply And.intro | (intro hh; try (cases hh; done)))
    all_goals
      (conv => whnf)
      simp only [decide_eq_true_eq, decide_eq_false_iff_not] at *
      repeat' split at h
      all_goals first | contradiction | exact h | omega | trace_state
end Mine

end
section
open PySem PySem.W PyProof.Rows PySem.Calls
set_option maxHeartbeats 4000000
set_option linter.unusedVariables false
namespace Mine
open PySem.Challenge (pw_xm0629_01 rw_xm0629_01)
/-! ## The entry of each def of the text -/
/-- is_blank -/
theorem E_110 {w : World} {h₀ : Heap} (W : Wld w h₀) {n : Nat} {a0 : MV} {σ : St} {k : kV}
    (h : ∀ L, runD ⟨w, h₀, W, n, L⟩ (envOf (fst pw_xm0629_01 8 none) "is_blank" "is_blank" (.none) (.str "lua.values" 194) (.ref 109) L 110) (fst pw_xm0629_01 8 none) ((["octet"] : List Str).zip [a0]) σ (retK k)) : CALL w h₀ (n + 1) (.ref 110) [a0] σ k := by
  refine CALL_def W (xs := ["octet"]) (d := (fst pw_xm0629_01 8 none)) (name := "is_blank") (qual := "is_blank") (dV := (.none)) (pm := (.str "lua.values" 194)) (cd := (.ref 109)) (by kernel_rfl) (by kernel_rfl) (by kernel_rfl) rfl (fun us hus => ?_) h
  obtain ⟨u0, rfl⟩ := len1 hus
  kernel_rfl
/-- digit_of -/
theorem E_117 {w : World} {h₀ : Heap} (W : Wld w h₀) {n : Nat} {a0 : MV} {σ : St} {k : kV}
    (h : ∀ L, runD ⟨w, h₀, W, n, L⟩ (envOf (fst pw_xm0629_01 10 none) "digit_of" "digit_of" (.none) (.str "lua.values" 194) (.ref 116) L 117) (fst pw_xm0629_01 10 none) ((["octet"] : List Str).zip [a0]) σ (retK k)) : CALL w h₀ (n + 1) (.ref 117) [a0] σ k := by
  refine CALL_def W (xs := ["octet"]) (d := (fst pw_xm0629_01 10 none)) (name := "digit_of") (qual := "digit_of") (dV := (.none)) (pm := (.str "lua.values" 194)) (cd := (.ref 116)) (by kernel_rfl) (by kernel_rfl) (by kernel_rfl) rfl (fun us hus => ?_) h
  obtain ⟨u0, rfl⟩ := len1 hus
  kernel_rfl
/-- read_digits -/
theorem E_124 {w : World} {h₀ : Heap} (W : Wld w h₀) {n : Nat} {a0 a1 a2 a3 : MV} {σ : St} {k : kV}
    (h : ∀ L, runD ⟨w, h₀, W, n, L⟩ (envOf (fst pw_xm0629_01 11 none) "read_digits" "read_digits" (.none) (.str "lua.values" 194) (.ref 123) L 124) (fst pw_xm0629_01 11 none) ((["text", "at", "base", "width"] : List Str).zip [a0, a1, a2, a3]) σ (retK k)) : CALL w h₀ (n + 1) (.ref 124) [a0, a1, a2, a3] σ k := by
  refine CALL_def W (xs := ["text", "at", "base", "width"]) (d := (fst pw_xm0629_01 11 none)) (name := "read_digits") (qual := "read_digits") (dV := (.none)) (pm := (.str "lua.values" 194)) (cd := (.ref 123)) (by kernel_rfl) (by kernel_rfl) (by kernel_rfl) rfl (fun us hus => ?_) h
  obtain ⟨u0, u1, u2, u3, rfl⟩ := len4 hus
  kernel_rfl
/-- skip_blanks -/
theorem E_131 {w : World} {h₀ : Heap} (W : Wld w h₀) {n : Nat} {a0 a1 : MV} {σ : St} {k : kV}
    (h : ∀ L, runD ⟨w, h₀, W, n, L⟩ (envOf (fst pw_xm0629_01 12 none) "skip_blanks" "skip_blanks" (.none) (.str "lua.values" 194) (.ref 130) L 131) (fst pw_xm0629_01 12 none) ((["text", "at"] : List Str).zip [a0, a1]) σ (retK k)) : CALL w h₀ (n + 1) (.ref 131) [a0, a1] σ k := by
  refine CALL_def W (xs := ["text", "at"]) (d := (fst pw_xm0629_01 12 none)) (name := "skip_blanks") (qual := "skip_blanks") (dV := (.none)) (pm := (.str "lua.values" 194)) (cd := (.ref 130)) (by kernel_rfl) (by kernel_rfl) (by kernel_rfl) rfl (fun us hus => ?_) h
  obtain ⟨u0, u1, rfl⟩ := len2 hus
  kernel_rfl
/-- str_to_number -/
theorem E_138 {w : World} {h₀ : Heap} (W : Wld w h₀) {n : Nat} {a0 a1 : MV} {σ : St} {k : kV}
    (h : ∀ L, runD ⟨w, h₀, W, n, L⟩ (envOf (fst pw_xm0629_01 13 none) "str_to_number" "str_to_number" (.none) (.str "lua.values" 194) (.ref 137) L 138) (fst pw_xm0629_01 13 none) ((["text", "limits"] : List Str).zip [a0, a1]) σ (retK k)) : CALL w h₀ (n + 1) (.ref 138) [a0, a1] σ k := by
  refine CALL_def W (xs := ["text", "limits"]) (d := (fst pw_xm0629_01 13 none)) (name := "str_to_number") (qual := "str_to_number") (dV := (.none)) (pm := (.str "lua.values" 194)) (cd := (.ref 137)) (by kernel_rfl) (by kernel_rfl) (by kernel_rfl) rfl (fun us hus => ?_) h
  obtain ⟨u0, u1, rfl⟩ := len2 hus
  kernel_rfl
/-- text_in_base -/
theorem E_145 {w : World} {h₀ : Heap} (W : Wld w h₀) {n : Nat} {a0 a1 a2 : MV} {σ : St} {k : kV}
    (h : ∀ L, runD ⟨w, h₀, W, n, L⟩ (envOf (fst pw_xm0629_01 14 none) "text_in_base" "text_in_base" (.none) (.str "lua.values" 194) (.ref 144) L 145) (fst pw_xm0629_01 14 none) ((["text", "base", "limits"] : List Str).zip [a0, a1, a2]) σ (retK k)) : CALL w h₀ (n + 1) (.ref 145) [a0, a1, a2] σ k := by
  refine CALL_def W (xs := ["text", "base", "limits"]) (d := (fst pw_xm0629_01 14 none)) (name := "text_in_base") (qual := "text_in_base") (dV := (.none)) (pm := (.str "lua.values" 194)) (cd := (.ref 144)) (by kernel_rfl) (by kernel_rfl) (by kernel_rfl) rfl (fun us hus => ?_) h
  obtain ⟨u0, u1, u2, rfl⟩ := len3 hus
  kernel_rfl
/-- wrap -/
theorem E_103 {w : World} {h₀ : Heap} (W : Wld w h₀) {n : Nat} {a0 a1 : MV} {σ : St} {k : kV}
    (h : ∀ L, runD ⟨w, h₀, W, n, L⟩ (envOf (fst pw_xm0629_01 7 none) "wrap" "wrap" (.none) (.str "lua.values" 194) (.ref 102) L 103) (fst pw_xm0629_01 7 none) ((["n", "width"] : List Str).zip [a0, a1]) σ (retK k)) : CALL w h₀ (n + 1) (.ref 103) [a0, a1] σ k := by
  refine CALL_def W (xs := ["n", "width"]) (d := (fst pw_xm0629_01 7 none)) (name := "wrap") (qual := "wrap") (dV := (.none)) (pm := (.str "lua.values" 194)) (cd := (.ref 102)) (by kernel_rfl) (by kernel_rfl) (by kernel_rfl) rfl (fun us hus => ?_) h
  obtain ⟨u0, u1, rfl⟩ := len2 hus
  kernel_rfl
/-- to_text -/
theorem E_166 {w : World} {h₀ : Heap} (W : Wld w h₀) {n : Nat} {a0 : MV} {σ : St} {k : kV}
    (h : ∀ L, runD ⟨w, h₀, W, n, L⟩ (envOf (fst pw_xm0629_01 17 none) "to_text" "to_text" (.none) (.str "lua.values" 194) (.ref 165) L 166) (fst pw_xm0629_01 17 none) ((["value"] : List Str).zip [a0]) σ (retK k)) : CALL w h₀ (n + 1) (.ref 166) [a0] σ k := by
  refine CALL_def W (xs := ["value"]) (d := (fst pw_xm0629_01 17 none)) (name := "to_text") (qual := "to_text") (dV := (.none)) (pm := (.str "lua.values" 194)) (cd := (.ref 165)) (by kernel_rfl) (by kernel_rfl) (by kernel_rfl) rfl (fun us hus => ?_) h
  obtain ⟨u0, rfl⟩ := len1 hus
  kernel_rfl
/-- c_text -/
theorem E_173 {w : World} {h₀ : Heap} (W : Wld w h₀) {n : Nat} {a0 : MV} {σ : St} {k : kV}
    (h : ∀ L, runD ⟨w, h₀, W, n, L⟩ (envOf (fst pw_xm0629_01 18 none) "c_text" "c_text" (.none) (.str "lua.values" 194) (.ref 172) L 173) (fst pw_xm0629_01 18 none) ((["text"] : List Str).zip [a0]) σ (retK k)) : CALL w h₀ (n + 1) (.ref 173) [a0] σ k := by
  refine CALL_def W (xs := ["text"]) (d := (fst pw_xm0629_01 18 none)) (name := "c_text") (qual := "c_text") (dV := (.none)) (pm := (.str "lua.values" 194)) (cd := (.ref 172)) (by kernel_rfl) (by kernel_rfl) (by kernel_rfl) rfl (fun us hus => ?_) h
  obtain ⟨u0, rfl⟩ := len1 hus
  kernel_rfl
/-- chunk_id -/
theorem E_187 {w : World} {h₀ : Heap} (W : Wld w h₀) {n : Nat} {a0 a1 : MV} {σ : St} {k : kV}
    (h : ∀ L, runD ⟨w, h₀, W, n, L⟩ (envOf (fst pw_xm0629_01 20 none) "chunk_id" "chunk_id" (.none) (.str "lua.values" 194) (.ref 186) L 187) (fst pw_xm0629_01 20 none) ((["source", "size"] : List Str).zip [a0, a1]) σ (retK k)) : CALL w h₀ (n + 1) (.ref 187) [a0, a1] σ k := by
  refine CALL_def W (xs := ["source", "size"]) (d := (fst pw_xm0629_01 20 none)) (name := "chunk_id") (qual := "chunk_id") (dV := (.none)) (pm := (.str "lua.values" 194)) (cd := (.ref 186)) (by kernel_rfl) (by kernel_rfl) (by kernel_rfl) rfl (fun us hus => ?_) h
  obtain ⟨u0, u1, rfl⟩ := len2 hus
  kernel_rfl
/-- quote -/
theorem E_194 {w : World} {h₀ : Heap} (W : Wld w h₀) {n : Nat} {a0 : MV} {σ : St} {k : kV}
    (h : ∀ L, runD ⟨w, h₀, W, n, L⟩ (envOf (fst pw_xm0629_01 21 none) "quote" "quote" (.none) (.str "lua.values" 194) (.ref 193) L 194) (fst pw_xm0629_01 21 none) ((["text"] : List Str).zip [a0]) σ (retK k)) : CALL w h₀ (n + 1) (.ref 194) [a0] σ k := by
  refine CALL_def W (xs := ["text"]) (d := (fst pw_xm0629_01 21 none)) (name := "quote") (qual := "quote") (dV := (.none)) (pm := (.str "lua.values" 194)) (cd := (.ref 193)) (by kernel_rfl) (by kernel_rfl) (by kernel_rfl) rfl (fun us hus => ?_) h
  obtain ⟨u0, rfl⟩ := len1 hus
  kernel_rfl
/-- is_digit -/
theorem E_201 {w : World} {h₀ : Heap} (W : Wld w h₀) {n : Nat} {a0 : MV} {σ : St} {k : kV}
    (h : ∀ L, runD ⟨w, h₀, W, n, L⟩ (envOf (fst pw_xm0629_01 34 none) "is_digit" "is_digit" (.none) (.str "lua.formats" 450) (.ref 200) L 201) (fst pw_xm0629_01 34 none) ((["octet"] : List Str).zip [a0]) σ (retK k)) : CALL w h₀ (n + 1) (.ref 201) [a0] σ k := by
  refine CALL_def W (xs := ["octet"]) (d := (fst pw_xm0629_01 34 none)) (name := "is_digit") (qual := "is_digit") (dV := (.none)) (pm := (.str "lua.formats" 450)) (cd := (.ref 200)) (by kernel_rfl) (by kernel_rfl) (by kernel_rfl) rfl (fun us hus => ?_) h
  obtain ⟨u0, rfl⟩ := len1 hus
  kernel_rfl
/-- number_at -/
theorem E_299 {w : World} {h₀ : Heap} (W : Wld w h₀) {n : Nat} {a0 a1 : MV} {σ : St} {k : kV}
    (h : ∀ L, runD ⟨w, h₀, W, n, L⟩ (envOf (fst pw_xm0629_01 39 none) "number_at" "number_at" (.none) (.str "lua.formats" 450) (.ref 298) L 299) (fst pw_xm0629_01 39 none) ((["text", "at"] : List Str).zip [a0, a1]) σ (retK k)) : CALL w h₀ (n + 1) (.ref 299) [a0, a1] σ k := by
  refine CALL_def W (xs := ["text", "at"]) (d := (fst pw_xm0629_01 39 none)) (name := "number_at") (qual := "number_at") (dV := (.none)) (pm := (.str "lua.formats" 450)) (cd := (.ref 298)) (by kernel_rfl) (by kernel_rfl) (by kernel_rfl) rfl (fun us hus => ?_) h
  obtain ⟨u0, u1, rfl⟩ := len2 hus
  kernel_rfl
/-- read_directive -/
theorem E_306 {w : World} {h₀ : Heap} (W : Wld w h₀) {n : Nat} {a0 a1 : MV} {σ : St} {k : kV}
    (h : ∀ L, runD ⟨w, h₀, W, n, L⟩ (envOf (fst pw_xm0629_01 40 none) "read_directive" "read_directive" (.none) (.str "lua.formats" 450) (.ref 305) L 306) (fst pw_xm0629_01 40 none) ((["text", "at"] : List Str).zip [a0, a1]) σ (retK k)) : CALL w h₀ (n + 1) (.ref 306) [a0, a1] σ k := by
  refine CALL_def W (xs := ["text", "at"]) (d := (fst pw_xm0629_01 40 none)) (name := "read_directive") (qual := "read_directive") (dV := (.none)) (pm := (.str "lua.formats" 450)) (cd := (.ref 305)) (by kernel_rfl) (by kernel_rfl) (by kernel_rfl) rfl (fun us hus => ?_) h
  obtain ⟨u0, u1, rfl⟩ := len2 hus
  kernel_rfl
/-- item -/
theorem E_362 {w : World} {h₀ : Heap} (W : Wld w h₀) {n : Nat} {a0 a1 a2 : MV} {σ : St} {k : kV}
    (h : ∀ L, runD ⟨w, h₀, W, n, L⟩ (envOf (fst pw_xm0629_01 42 none) "item" "item" (.none) (.str "lua.formats" 450) (.ref 361) L 362) (fst pw_xm0629_01 42 none) ((["told", "arguments", "number"] : List Str).zip [a0, a1, a2]) σ (retK k)) : CALL w h₀ (n + 1) (.ref 362) [a0, a1, a2] σ k := by
  refine CALL_def W (xs := ["told", "arguments", "number"]) (d := (fst pw_xm0629_01 42 none)) (name := "item") (qual := "item") (dV := (.none)) (pm := (.str "lua.formats" 450)) (cd := (.ref 361)) (by kernel_rfl) (by kernel_rfl) (by kernel_rfl) rfl (fun us hus => ?_) h
  obtain ⟨u0, u1, u2, rfl⟩ := len3 hus
  kernel_rfl
/-- format_all -/
theorem E_369 {w : World} {h₀ : Heap} (W : Wld w h₀) {n : Nat} {a0 a1 : MV} {σ : St} {k : kV}
    (h : ∀ L, runD ⟨w, h₀, W, n, L⟩ (envOf (fst pw_xm0629_01 43 none) "format_all" "format_all" (.none) (.str "lua.formats" 450) (.ref 368) L 369) (fst pw_xm0629_01 43 none) ((["text", "arguments"] : List Str).zip [a0, a1]) σ (retK k)) : CALL w h₀ (n + 1) (.ref 369) [a0, a1] σ k := by
  refine CALL_def W (xs := ["text", "arguments"]) (d := (fst pw_xm0629_01 43 none)) (name := "format_all") (qual := "format_all") (dV := (.none)) (pm := (.str "lua.formats" 450)) (cd := (.ref 368)) (by kernel_rfl) (by kernel_rfl) (by kernel_rfl) rfl (fun us hus => ?_) h
  obtain ⟨u0, u1, rfl⟩ := len2 hus
  kernel_rfl
/-- format_values -/
theorem E_376 {w : World} {h₀ : Heap} (W : Wld w h₀) {n : Nat} {a0 a1 a2 : MV} {σ : St} {k : kV}
    (h : ∀ L, runD ⟨w, h₀, W, n, L⟩ (envOf (fst pw_xm0629_01 44 none) "format_values" "format_values" (.none) (.str "lua.formats" 450) (.ref 375) L 376) (fst pw_xm0629_01 44 none) ((["text", "values", "limits"] : List Str).zip [a0, a1, a2]) σ (retK k)) : CALL w h₀ (n + 1) (.ref 376) [a0, a1, a2] σ k := by
  refine CALL_def W (xs := ["text", "values", "limits"]) (d := (fst pw_xm0629_01 44 none)) (name := "format_values") (qual := "format_values") (dV := (.none)) (pm := (.str "lua.formats" 450)) (cd := (.ref 375)) (by kernel_rfl) (by kernel_rfl) (by kernel_rfl) rfl (fun us hus => ?_) h
  obtain ⟨u0, u1, u2, rfl⟩ := len3 hus
  kernel_rfl
/-- is_digit -/
theorem E_385 {w : World} {h₀ : Heap} (W : Wld w h₀) {n : Nat} {a0 : MV} {σ : St} {k : kV}
    (h : ∀ L, runD ⟨w, h₀, W, n, L⟩ (envOf (fst pw_xm0629_01 77 none) "is_digit" "is_digit" (.none) (.str "lua.lexer" 729) (.ref 384) L 385) (fst pw_xm0629_01 77 none) ((["sign"] : List Str).zip [a0]) σ (retK k)) : CALL w h₀ (n + 1) (.ref 385) [a0] σ k := by
  refine CALL_def W (xs := ["sign"]) (d := (fst pw_xm0629_01 77 none)) (name := "is_digit") (qual := "is_digit") (dV := (.none)) (pm := (.str "lua.lexer" 729)) (cd := (.ref 384)) (by kernel_rfl) (by kernel_rfl) (by kernel_rfl) rfl (fun us hus => ?_) h
  obtain ⟨u0, rfl⟩ := len1 hus
  kernel_rfl
/-- is_letter -/
theorem E_392 {w : World} {h₀ : Heap} (W : Wld w h₀) {n : Nat} {a0 : MV} {σ : St} {k : kV}
    (h : ∀ L, runD ⟨w, h₀, W, n, L⟩ (envOf (fst pw_xm0629_01 79 none) "is_letter" "is_letter" (.none) (.str "lua.lexer" 729) (.ref 391) L 392) (fst pw_xm0629_01 79 none) ((["sign"] : List Str).zip [a0]) σ (retK k)) : CALL w h₀ (n + 1) (.ref 392) [a0] σ k := by
  refine CALL_def W (xs := ["sign"]) (d := (fst pw_xm0629_01 79 none)) (name := "is_letter") (qual := "is_letter") (dV := (.none)) (pm := (.str "lua.lexer" 729)) (cd := (.ref 391)) (by kernel_rfl) (by kernel_rfl) (by kernel_rfl) rfl (fun us hus => ?_) h
  obtain ⟨u0, rfl⟩ := len1 hus
  kernel_rfl
/-- is_name_sign -/
theorem E_399 {w : World} {h₀ : Heap} (W : Wld w h₀) {n : Nat} {a0 : MV} {σ : St} {k : kV}
    (h : ∀ L, runD ⟨w, h₀, W, n, L⟩ (envOf (fst pw_xm0629_01 80 none) "is_name_sign" "is_name_sign" (.none) (.str "lua.lexer" 729) (.ref 398) L 399) (fst pw_xm0629_01 80 none) ((["sign"] : List Str).zip [a0]) σ (retK k)) : CALL w h₀ (n + 1) (.ref 399) [a0] σ k := by
  refine CALL_def W (xs := ["sign"]) (d := (fst pw_xm0629_01 80 none)) (name := "is_name_sign") (qual := "is_name_sign") (dV := (.none)) (pm := (.str "lua.lexer" 729)) (cd := (.ref 398)) (by kernel_rfl) (by kernel_rfl) (by kernel_rfl) rfl (fun us hus => ?_) h
  obtain ⟨u0, rfl⟩ := len1 hus
  kernel_rfl
/-- is_blank -/
theorem E_406 {w : World} {h₀ : Heap} (W : Wld w h₀) {n : Nat} {a0 : MV} {σ : St} {k : kV}
    (h : ∀ L, runD ⟨w, h₀, W, n, L⟩ (envOf (fst pw_xm0629_01 81 none) "is_blank" "is_blank" (.none) (.str "lua.lexer" 729) (.ref 405) L 406) (fst pw_xm0629_01 81 none) ((["sign"] : List Str).zip [a0]) σ (retK k)) : CALL w h₀ (n + 1) (.ref 406) [a0] σ k := by
  refine CALL_def W (xs := ["sign"]) (d := (fst pw_xm0629_01 81 none)) (name := "is_blank") (qual := "is_blank") (dV := (.none)) (pm := (.str "lua.lexer" 729)) (cd := (.ref 405)) (by kernel_rfl) (by kernel_rfl) (by kernel_rfl) rfl (fun us hus => ?_) h
  obtain ⟨u0, rfl⟩ := len1 hus
  kernel_rfl
/-- is_newline -/
theorem E_420 {w : World} {h₀ : Heap} (W : Wld w h₀) {n : Nat} {a0 : MV} {σ : St} {k : kV}
    (h : ∀ L, runD ⟨w, h₀, W, n, L⟩ (envOf (fst pw_xm0629_01 84 none) "is_newline" "is_newline" (.none) (.str "lua.lexer" 729) (.ref 419) L 420) (fst pw_xm0629_01 84 none) ((["sign"] : List Str).zip [a0]) σ (retK k)) : CALL w h₀ (n + 1) (.ref 420) [a0] σ k := by
  refine CALL_def W (xs := ["sign"]) (d := (fst pw_xm0629_01 84 none)) (name := "is_newline") (qual := "is_newline") (dV := (.none)) (pm := (.str "lua.lexer" 729)) (cd := (.ref 419)) (by kernel_rfl) (by kernel_rfl) (by kernel_rfl) rfl (fun us hus => ?_) h
  obtain ⟨u0, rfl⟩ := len1 hus
  kernel_rfl
/-- escaped_sign -/
theorem E_427 {w : World} {h₀ : Heap} (W : Wld w h₀) {n : Nat} {a0 : MV} {σ : St} {k : kV}
    (h : ∀ L, runD ⟨w, h₀, W, n, L⟩ (envOf (fst pw_xm0629_01 85 none) "escaped_sign" "escaped_sign" (.none) (.str "lua.lexer" 729) (.ref 426) L 427) (fst pw_xm0629_01 85 none) ((["sign"] : List Str).zip [a0]) σ (retK k)) : CALL w h₀ (n + 1) (.ref 427) [a0] σ k := by
  refine CALL_def W (xs := ["sign"]) (d := (fst pw_xm0629_01 85 none)) (name := "escaped_sign") (qual := "escaped_sign") (dV := (.none)) (pm := (.str "lua.lexer" 729)) (cd := (.ref 426)) (by kernel_rfl) (by kernel_rfl) (by kernel_rfl) rfl (fun us hus => ?_) h
  obtain ⟨u0, rfl⟩ := len1 hus
  kernel_rfl
/-- reserved_kinds -/
theorem E_434 {w : World} {h₀ : Heap} (W : Wld w h₀) {n : Nat} {σ : St} {k : kV}
    (h : ∀ L, runD ⟨w, h₀, W, n, L⟩ (envOf (fst pw_xm0629_01 86 none) "reserved_kinds" "reserved_kinds" (.none) (.str "lua.lexer" 729) (.ref 433) L 434) (fst pw_xm0629_01 86 none) (([] : List Str).zip []) σ (retK k)) : CALL w h₀ (n + 1) (.ref 434) [] σ k := by
  refine CALL_def W (xs := []) (d := (fst pw_xm0629_01 86 none)) (name := "reserved_kinds") (qual := "reserved_kinds") (dV := (.none)) (pm := (.str "lua.lexer" 729)) (cd := (.ref 433)) (by kernel_rfl) (by kernel_rfl) (by kernel_rfl) rfl (fun us hus => ?_) h
  cases us with
  | nil => kernel_rfl
  | cons _ _ => cases hus
/-- all_tokens -/
theorem E_672 {w : World} {h₀ : Heap} (W : Wld w h₀) {n : Nat} {a0 a1 a2 : MV} {σ : St} {k : kV}
    (h : ∀ L, runD ⟨w, h₀, W, n, L⟩ (envOf (fst pw_xm0629_01 90 none) "all_tokens" "all_tokens" (.none) (.str "lua.lexer" 729) (.ref 671) L 672) (fst pw_xm0629_01 90 none) ((["text", "chunk", "limits"] : List Str).zip [a0, a1, a2]) σ (retK k)) : CALL w h₀ (n + 1) (.ref 672) [a0, a1, a2] σ k := by
  refine CALL_def W (xs := ["text", "chunk", "limits"]) (d := (fst pw_xm0629_01 90 none)) (name := "all_tokens") (qual := "all_tokens") (dV := (.none)) (pm := (.str "lua.lexer" 729)) (cd := (.ref 671)) (by kernel_rfl) (by kernel_rfl) (by kernel_rfl) rfl (fun us hus => ?_) h
  obtain ⟨u0, u1, u2, rfl⟩ := len3 hus
  kernel_rfl
/-- _law_taken -/
theorem E_679 {w : World} {h₀ : Heap} (W : Wld w h₀) {n : Nat} {a0 a1 : MV} {σ : St} {k : kV}
    (h : ∀ L, runD ⟨w, h₀, W, n, L⟩ (envOf (fst pw_xm0629_01 92 none) "_law_taken" "_law_taken" (.none) (.str "law_xm0629_01" 1184) (.ref 678) L 679) (fst pw_xm0629_01 92 none) ((["basket", "many"] : List Str).zip [a0, a1]) σ (retK k)) : CALL w h₀ (n + 1) (.ref 679) [a0, a1] σ k := by
  refine CALL_def W (xs := ["basket", "many"]) (d := (fst pw_xm0629_01 92 none)) (name := "_law_taken") (qual := "_law_taken") (dV := (.none)) (pm := (.str "law_xm0629_01" 1184)) (cd := (.ref 678)) (by kernel_rfl) (by kernel_rfl) (by kernel_rfl) rfl (fun us hus => ?_) h
  obtain ⟨u0, u1, rfl⟩ := len2 hus
  kernel_rfl
/-- _law_part -/
theorem E_686 {w : World} {h₀ : Heap} (W : Wld w h₀) {n : Nat} {a0 : MV} {σ : St} {k : kV}
    (h : ∀ L, runD ⟨w, h₀, W, n, L⟩ (envOf (fst pw_xm0629_01 93 none) "_law_part" "_law_part" (.none) (.str "law_xm0629_01" 1184) (.ref 685) L 686) (fst pw_xm0629_01 93 none) ((["basket"] : List Str).zip [a0]) σ (retK k)) : CALL w h₀ (n + 1) (.ref 686) [a0] σ k := by
  refine CALL_def W (xs := ["basket"]) (d := (fst pw_xm0629_01 93 none)) (name := "_law_part") (qual := "_law_part") (dV := (.none)) (pm := (.str "law_xm0629_01" 1184)) (cd := (.ref 685)) (by kernel_rfl) (by kernel_rfl) (by kernel_rfl) rfl (fun us hus => ?_) h
  obtain ⟨u0, rfl⟩ := len1 hus
  kernel_rfl
/-- _law_formats_in -/
theorem E_691 {w : World} {h₀ : Heap} (W : Wld w h₀) {n : Nat} {a0 a1 : MV} {σ : St} {k : kV}
    (h : ∀ L, runD ⟨w, h₀, W, n, L⟩ (envOf (fst pw_xm0629_01 94 none) "_law_formats_in" "_law_formats_in" (.none) (.str "law_xm0629_01" 1184) (.ref 690) L 691) (fst pw_xm0629_01 94 none) ((["text", "limits"] : List Str).zip [a0, a1]) σ (retK k)) : CALL w h₀ (n + 1) (.ref 691) [a0, a1] σ k := by
  refine CALL_def W (xs := ["text", "limits"]) (d := (fst pw_xm0629_01 94 none)) (name := "_law_formats_in") (qual := "_law_formats_in") (dV := (.none)) (pm := (.str "law_xm0629_01" 1184)) (cd := (.ref 690)) (by kernel_rfl) (by kernel_rfl) (by kernel_rfl) rfl (fun us hus => ?_) h
  obtain ⟨u0, u1, rfl⟩ := len2 hus
  kernel_rfl
/-- is_number -/
theorem E_96 {w : World} {h₀ : Heap} (W : Wld w h₀) {n : Nat} {a0 : MV} {σ : St} {k : kV}
    (h : ∀ L, runD ⟨w, h₀, W, n, L⟩ (envOf (fst pw_xm0629_01 6 none) "is_number" "is_number" (.none) (.str "lua.values" 194) (.ref 95) L 96) (fst pw_xm0629_01 6 none) ((["value"] : List Str).zip [a0]) σ (retK k)) : CALL w h₀ (n + 1) (.ref 96) [a0] σ k := by
  refine CALL_def W (xs := ["value"]) (d := (fst pw_xm0629_01 6 none)) (name := "is_number") (qual := "is_number") (dV := (.none)) (pm := (.str "lua.values" 194)) (cd := (.ref 95)) (by kernel_rfl) (by kernel_rfl) (by kernel_rfl) rfl (fun us hus => ?_) h
  obtain ⟨u0, rfl⟩ := len1 hus
  kernel_rfl
/-- Directive.__init__ -/
theorem E_229 {w : World} {h₀ : Heap} (W : Wld w h₀) {n : Nat} {a0 a1 a2 a3 a4 : MV} {σ : St} {k : kV}
    (h : ∀ L, runD ⟨w, h₀, W, n, L⟩ (envOf (fst pw_xm0629_01 38 (some 0)) "__init__" "Directive.__init__" (.none) (.str "lua.formats" 450) (.ref 228) L 229) (fst pw_xm0629_01 38 (some 0)) ((["self", "flags", "width", "precision", "letter"] : List Str).zip [a0, a1, a2, a3, a4]) σ (retK k)) : CALL w h₀ (n + 1) (.ref 229) [a0, a1, a2, a3, a4] σ k := by
  refine CALL_def W (xs := ["self", "flags", "width", "precision", "letter"]) (d := (fst pw_xm0629_01 38 (some 0))) (name := "__init__") (qual := "Directive.__init__") (dV := (.none)) (pm := (.str "lua.formats" 450)) (cd := (.ref 228)) (by kernel_rfl) (by kernel_rfl) (by kernel_rfl) rfl (fun us hus => ?_) h
  obtain ⟨u0, u1, u2, u3, u4, rfl⟩ := len5 hus
  kernel_rfl
/-- PlainArguments.__init__ -/
theorem E_320 {w : World} {h₀ : Heap} (W : Wld w h₀) {n : Nat} {a0 a1 a2 : MV} {σ : St} {k : kV}
    (h : ∀ L, runD ⟨w, h₀, W, n, L⟩ (envOf (fst pw_xm0629_01 41 (some 0)) "__init__" "PlainArguments.__init__" (.none) (.str "lua.formats" 450) (.ref 319) L 320) (fst pw_xm0629_01 41 (some 0)) ((["self", "values", "limits"] : List Str).zip [a0, a1, a2]) σ (retK k)) : CALL w h₀ (n + 1) (.ref 320) [a0, a1, a2] σ k := by
  refine CALL_def W (xs := ["self", "values", "limits"]) (d := (fst pw_xm0629_01 41 (some 0))) (name := "__init__") (qual := "PlainArguments.__init__") (dV := (.none)) (pm := (.str "lua.formats" 450)) (cd := (.ref 319)) (by kernel_rfl) (by kernel_rfl) (by kernel_rfl) rfl (fun us hus => ?_) h
  obtain ⟨u0, u1, u2, rfl⟩ := len3 hus
  kernel_rfl
/-- PlainArguments.value -/
theorem E_327 {w : World} {h₀ : Heap} (W : Wld w h₀) {n : Nat} {a0 a1 : MV} {σ : St} {k : kV}
    (h : ∀ L, runD ⟨w, h₀, W, n, L⟩ (envOf (fst pw_xm0629_01 41 (some 1)) "value" "PlainArguments.value" (.none) (.str "lua.formats" 450) (.ref 326) L 327) (fst pw_xm0629_01 41 (some 1)) ((["self", "number"] : List Str).zip [a0, a1]) σ (retK k)) : CALL w h₀ (n + 1) (.ref 327) [a0, a1] σ k := by
  refine CALL_def W (xs := ["self", "number"]) (d := (fst pw_xm0629_01 41 (some 1))) (name := "value") (qual := "PlainArguments.value") (dV := (.none)) (pm := (.str "lua.formats" 450)) (cd := (.ref 326)) (by kernel_rfl) (by kernel_rfl) (by kernel_rfl) rfl (fun us hus => ?_) h
  obtain ⟨u0, u1, rfl⟩ := len2 hus
  kernel_rfl
/-- PlainArguments.text -/
theorem E_341 {w : World} {h₀ : Heap} (W : Wld w h₀) {n : Nat} {a0 a1 : MV} {σ : St} {k : kV}
    (h : ∀ L, runD ⟨w, h₀, W, n, L⟩ (envOf (fst pw_xm0629_01 41 (some 3)) "text" "PlainArguments.text" (.none) (.str "lua.formats" 450) (.ref 340) L 341) (fst pw_xm0629_01 41 (some 3)) ((["self", "number"] : List Str).zip [a0, a1]) σ (retK k)) : CALL w h₀ (n + 1) (.ref 341) [a0, a1] σ k := by
  refine CALL_def W (xs := ["self", "number"]) (d := (fst pw_xm0629_01 41 (some 3))) (name := "text") (qual := "PlainArguments.text") (dV := (.none)) (pm := (.str "lua.formats" 450)) (cd := (.ref 340)) (by kernel_rfl) (by kernel_rfl) (by kernel_rfl) rfl (fun us hus => ?_) h
  obtain ⟨u0, u1, rfl⟩ := len2 hus
  kernel_rfl
/-- Token.__init__ -/
theorem E_455 {w : World} {h₀ : Heap} (W : Wld w h₀) {n : Nat} {a0 a1 a2 : MV} {σ : St} {k : kV}
    (h : ∀ L, runD ⟨w, h₀, W, n, L⟩ (envOf (fst pw_xm0629_01 88 (some 0)) "__init__" "Token.__init__" (.none) (.str "lua.lexer" 729) (.ref 454) L 455) (fst pw_xm0629_01 88 (some 0)) ((["self", "kind", "value"] : List Str).zip [a0, a1, a2]) σ (retK k)) : CALL w h₀ (n + 1) (.ref 455) [a0, a1, a2] σ k := by
  refine CALL_def W (xs := ["self", "kind", "value"]) (d := (fst pw_xm0629_01 88 (some 0))) (name := "__init__") (qual := "Token.__init__") (dV := (.none)) (pm := (.str "lua.lexer" 729)) (cd := (.ref 454)) (by kernel_rfl) (by kernel_rfl) (by kernel_rfl) rfl (fun us hus => ?_) h
  obtain ⟨u0, u1, u2, rfl⟩ := len3 hus
  kernel_rfl
/-- Lexer.__init__ -/
theorem E_476 {w : World} {h₀ : Heap} (W : Wld w h₀) {n : Nat} {a0 a1 a2 a3 : MV} {σ : St} {k : kV}
    (h : ∀ L, runD ⟨w, h₀, W, n, L⟩ (envOf (fst pw_xm0629_01 89 (some 0)) "__init__" "Lexer.__init__" (.none) (.str "lua.lexer" 729) (.ref 475) L 476) (fst pw_xm0629_01 89 (some 0)) ((["self", "text", "chunk", "limits"] : List Str).zip [a0, a1, a2, a3]) σ (retK k)) : CALL w h₀ (n + 1) (.ref 476) [a0, a1, a2, a3] σ k := by
  refine CALL_def W (xs := ["self", "text", "chunk", "limits"]) (d := (fst pw_xm0629_01 89 (some 0))) (name := "__init__") (qual := "Lexer.__init__") (dV := (.none)) (pm := (.str "lua.lexer" 729)) (cd := (.ref 475)) (by kernel_rfl) (by kernel_rfl) (by kernel_rfl) rfl (fun us hus => ?_) h
  obtain ⟨u0, u1, u2, u3, rfl⟩ := len4 hus
  kernel_rfl
/-- Lexer.next -/
theorem E_483 {w : World} {h₀ : Heap} (W : Wld w h₀) {n : Nat} {a0 : MV} {σ : St} {k : kV}
    (h : ∀ L, runD ⟨w, h₀, W, n, L⟩ (envOf (fst pw_xm0629_01 89 (some 1)) "next" "Lexer.next" (.none) (.str "lua.lexer" 729) (.ref 482) L 483) (fst pw_xm0629_01 89 (some 1)) ((["self"] : List Str).zip [a0]) σ (retK k)) : CALL w h₀ (n + 1) (.ref 483) [a0] σ k := by
  refine CALL_def W (xs := ["self"]) (d := (fst pw_xm0629_01 89 (some 1))) (name := "next") (qual := "Lexer.next") (dV := (.none)) (pm := (.str "lua.lexer" 729)) (cd := (.ref 482)) (by kernel_rfl) (by kernel_rfl) (by kernel_rfl) rfl (fun us hus => ?_) h
  obtain ⟨u0, rfl⟩ := len1 hus
  kernel_rfl
/-- Lexer.move -/
theorem E_518 {w : World} {h₀ : Heap} (W : Wld w h₀) {n : Nat} {a0 : MV} {σ : St} {k : kV}
    (h : ∀ L, runD ⟨w, h₀, W, n, L⟩ (envOf (fst pw_xm0629_01 89 (some 6)) "move" "Lexer.move" (.none) (.str "lua.lexer" 729) (.ref 517) L 518) (fst pw_xm0629_01 89 (some 6)) ((["self"] : List Str).zip [a0]) σ (retK k)) : CALL w h₀ (n + 1) (.ref 518) [a0] σ k := by
  refine CALL_def W (xs := ["self"]) (d := (fst pw_xm0629_01 89 (some 6))) (name := "move") (qual := "Lexer.move") (dV := (.none)) (pm := (.str "lua.lexer" 729)) (cd := (.ref 517)) (by kernel_rfl) (by kernel_rfl) (by kernel_rfl) rfl (fun us hus => ?_) h
  obtain ⟨u0, rfl⟩ := len1 hus
  kernel_rfl
/-- Lexer.keep -/
theorem E_525 {w : World} {h₀ : Heap} (W : Wld w h₀) {n : Nat} {a0 a1 : MV} {σ : St} {k : kV}
    (h : ∀ L, runD ⟨w, h₀, W, n, L⟩ (envOf (fst pw_xm0629_01 89 (some 7)) "keep" "Lexer.keep" (.none) (.str "lua.lexer" 729) (.ref 524) L 525) (fst pw_xm0629_01 89 (some 7)) ((["self", "sign"] : List Str).zip [a0, a1]) σ (retK k)) : CALL w h₀ (n + 1) (.ref 525) [a0, a1] σ k := by
  refine CALL_def W (xs := ["self", "sign"]) (d := (fst pw_xm0629_01 89 (some 7))) (name := "keep") (qual := "Lexer.keep") (dV := (.none)) (pm := (.str "lua.lexer" 729)) (cd := (.ref 524)) (by kernel_rfl) (by kernel_rfl) (by kernel_rfl) rfl (fun us hus => ?_) h
  obtain ⟨u0, u1, rfl⟩ := len2 hus
  kernel_rfl
/-- Lexer.keep_and_move -/
theorem E_532 {w : World} {h₀ : Heap} (W : Wld w h₀) {n : Nat} {a0 : MV} {σ : St} {k : kV}
    (h : ∀ L, runD ⟨w, h₀, W, n, L⟩ (envOf (fst pw_xm0629_01 89 (some 8)) "keep_and_move" "Lexer.keep_and_move" (.none) (.str "lua.lexer" 729) (.ref 531) L 532) (fst pw_xm0629_01 89 (some 8)) ((["self"] : List Str).zip [a0]) σ (retK k)) : CALL w h₀ (n + 1) (.ref 532) [a0] σ k := by
  refine CALL_def W (xs := ["self"]) (d := (fst pw_xm0629_01 89 (some 8))) (name := "keep_and_move") (qual := "Lexer.keep_and_move") (dV := (.none)) (pm := (.str "lua.lexer" 729)) (cd := (.ref 531)) (by kernel_rfl) (by kernel_rfl) (by kernel_rfl) rfl (fun us hus => ?_) h
  obtain ⟨u0, rfl⟩ := len1 hus
  kernel_rfl
/-- Lexer.keep_if -/
theorem E_539 {w : World} {h₀ : Heap} (W : Wld w h₀) {n : Nat} {a0 a1 : MV} {σ : St} {k : kV}
    (h : ∀ L, runD ⟨w, h₀, W, n, L⟩ (envOf (fst pw_xm0629_01 89 (some 9)) "keep_if" "Lexer.keep_if" (.none) (.str "lua.lexer" 729) (.ref 538) L 539) (fst pw_xm0629_01 89 (some 9)) ((["self", "signs"] : List Str).zip [a0, a1]) σ (retK k)) : CALL w h₀ (n + 1) (.ref 539) [a0, a1] σ k := by
  refine CALL_def W (xs := ["self", "signs"]) (d := (fst pw_xm0629_01 89 (some 9))) (name := "keep_if") (qual := "Lexer.keep_if") (dV := (.none)) (pm := (.str "lua.lexer" 729)) (cd := (.ref 538)) (by kernel_rfl) (by kernel_rfl) (by kernel_rfl) rfl (fun us hus => ?_) h
  obtain ⟨u0, u1, rfl⟩ := len2 hus
  kernel_rfl
/-- Lexer.clear -/
theorem E_546 {w : World} {h₀ : Heap} (W : Wld w h₀) {n : Nat} {a0 : MV} {σ : St} {k : kV}
    (h : ∀ L, runD ⟨w, h₀, W, n, L⟩ (envOf (fst pw_xm0629_01 89 (some 10)) "clear" "Lexer.clear" (.none) (.str "lua.lexer" 729) (.ref 545) L 546) (fst pw_xm0629_01 89 (some 10)) ((["self"] : List Str).zip [a0]) σ (retK k)) : CALL w h₀ (n + 1) (.ref 546) [a0] σ k := by
  refine CALL_def W (xs := ["self"]) (d := (fst pw_xm0629_01 89 (some 10))) (name := "clear") (qual := "Lexer.clear") (dV := (.none)) (pm := (.str "lua.lexer" 729)) (cd := (.ref 545)) (by kernel_rfl) (by kernel_rfl) (by kernel_rfl) rfl (fun us hus => ?_) h
  obtain ⟨u0, rfl⟩ := len1 hus
  kernel_rfl
/-- Lexer.end_line -/
theorem E_553 {w : World} {h₀ : Heap} (W : Wld w h₀) {n : Nat} {a0 : MV} {σ : St} {k : kV}
    (h : ∀ L, runD ⟨w, h₀, W, n, L⟩ (envOf (fst pw_xm0629_01 89 (some 11)) "end_line" "Lexer.end_line" (.none) (.str "lua.lexer" 729) (.ref 552) L 553) (fst pw_xm0629_01 89 (some 11)) ((["self"] : List Str).zip [a0]) σ (retK k)) : CALL w h₀ (n + 1) (.ref 553) [a0] σ k := by
  refine CALL_def W (xs := ["self"]) (d := (fst pw_xm0629_01 89 (some 11))) (name := "end_line") (qual := "Lexer.end_line") (dV := (.none)) (pm := (.str "lua.lexer" 729)) (cd := (.ref 552)) (by kernel_rfl) (by kernel_rfl) (by kernel_rfl) rfl (fun us hus => ?_) h
  obtain ⟨u0, rfl⟩ := len1 hus
  kernel_rfl
/-- Lexer.read -/
theorem E_560 {w : World} {h₀ : Heap} (W : Wld w h₀) {n : Nat} {a0 : MV} {σ : St} {k : kV}
    (h : ∀ L, runD ⟨w, h₀, W, n, L⟩ (envOf (fst pw_xm0629_01 89 (some 12)) "read" "Lexer.read" (.none) (.str "lua.lexer" 729) (.ref 559) L 560) (fst pw_xm0629_01 89 (some 12)) ((["self"] : List Str).zip [a0]) σ (retK k)) : CALL w h₀ (n + 1) (.ref 560) [a0] σ k := by
  refine CALL_def W (xs := ["self"]) (d := (fst pw_xm0629_01 89 (some 12))) (name := "read") (qual := "Lexer.read") (dV := (.none)) (pm := (.str "lua.lexer" 729)) (cd := (.ref 559)) (by kernel_rfl) (by kernel_rfl) (by kernel_rfl) rfl (fun us hus => ?_) h
  obtain ⟨u0, rfl⟩ := len1 hus
  kernel_rfl
/-- Lexer.skip_blank -/
theorem E_567 {w : World} {h₀ : Heap} (W : Wld w h₀) {n : Nat} {a0 : MV} {σ : St} {k : kV}
    (h : ∀ L, runD ⟨w, h₀, W, n, L⟩ (envOf (fst pw_xm0629_01 89 (some 13)) "skip_blank" "Lexer.skip_blank" (.none) (.str "lua.lexer" 729) (.ref 566) L 567) (fst pw_xm0629_01 89 (some 13)) ((["self"] : List Str).zip [a0]) σ (retK k)) : CALL w h₀ (n + 1) (.ref 567) [a0] σ k := by
  refine CALL_def W (xs := ["self"]) (d := (fst pw_xm0629_01 89 (some 13))) (name := "skip_blank") (qual := "Lexer.skip_blank") (dV := (.none)) (pm := (.str "lua.lexer" 729)) (cd := (.ref 566)) (by kernel_rfl) (by kernel_rfl) (by kernel_rfl) rfl (fun us hus => ?_) h
  obtain ⟨u0, rfl⟩ := len1 hus
  kernel_rfl
/-- Lexer.sign_behind -/
theorem E_574 {w : World} {h₀ : Heap} (W : Wld w h₀) {n : Nat} {a0 : MV} {σ : St} {k : kV}
    (h : ∀ L, runD ⟨w, h₀, W, n, L⟩ (envOf (fst pw_xm0629_01 89 (some 14)) "sign_behind" "Lexer.sign_behind" (.none) (.str "lua.lexer" 729) (.ref 573) L 574) (fst pw_xm0629_01 89 (some 14)) ((["self"] : List Str).zip [a0]) σ (retK k)) : CALL w h₀ (n + 1) (.ref 574) [a0] σ k := by
  refine CALL_def W (xs := ["self"]) (d := (fst pw_xm0629_01 89 (some 14))) (name := "sign_behind") (qual := "Lexer.sign_behind") (dV := (.none)) (pm := (.str "lua.lexer" 729)) (cd := (.ref 573)) (by kernel_rfl) (by kernel_rfl) (by kernel_rfl) rfl (fun us hus => ?_) h
  obtain ⟨u0, rfl⟩ := len1 hus
  kernel_rfl
/-- Lexer.skip_comment -/
theorem E_581 {w : World} {h₀ : Heap} (W : Wld w h₀) {n : Nat} {a0 : MV} {σ : St} {k : kV}
    (h : ∀ L, runD ⟨w, h₀, W, n, L⟩ (envOf (fst pw_xm0629_01 89 (some 15)) "skip_comment" "Lexer.skip_comment" (.none) (.str "lua.lexer" 729) (.ref 580) L 581) (fst pw_xm0629_01 89 (some 15)) ((["self"] : List Str).zip [a0]) σ (retK k)) : CALL w h₀ (n + 1) (.ref 581) [a0] σ k := by
  refine CALL_def W (xs := ["self"]) (d := (fst pw_xm0629_01 89 (some 15))) (name := "skip_comment") (qual := "Lexer.skip_comment") (dV := (.none)) (pm := (.str "lua.lexer" 729)) (cd := (.ref 580)) (by kernel_rfl) (by kernel_rfl) (by kernel_rfl) rfl (fun us hus => ?_) h
  obtain ⟨u0, rfl⟩ := len1 hus
  kernel_rfl
/-- Lexer.read_compared -/
theorem E_588 {w : World} {h₀ : Heap} (W : Wld w h₀) {n : Nat} {a0 a1 : MV} {σ : St} {k : kV}
    (h : ∀ L, runD ⟨w, h₀, W, n, L⟩ (envOf (fst pw_xm0629_01 89 (some 16)) "read_compared" "Lexer.read_compared" (.none) (.str "lua.lexer" 729) (.ref 587) L 588) (fst pw_xm0629_01 89 (some 16)) ((["self", "sign"] : List Str).zip [a0, a1]) σ (retK k)) : CALL w h₀ (n + 1) (.ref 588) [a0, a1] σ k := by
  refine CALL_def W (xs := ["self", "sign"]) (d := (fst pw_xm0629_01 89 (some 16))) (name := "read_compared") (qual := "Lexer.read_compared") (dV := (.none)) (pm := (.str "lua.lexer" 729)) (cd := (.ref 587)) (by kernel_rfl) (by kernel_rfl) (by kernel_rfl) rfl (fun us hus => ?_) h
  obtain ⟨u0, u1, rfl⟩ := len2 hus
  kernel_rfl
/-- Lexer.read_dots -/
theorem E_595 {w : World} {h₀ : Heap} (W : Wld w h₀) {n : Nat} {a0 : MV} {σ : St} {k : kV}
    (h : ∀ L, runD ⟨w, h₀, W, n, L⟩ (envOf (fst pw_xm0629_01 89 (some 17)) "read_dots" "Lexer.read_dots" (.none) (.str "lua.lexer" 729) (.ref 594) L 595) (fst pw_xm0629_01 89 (some 17)) ((["self"] : List Str).zip [a0]) σ (retK k)) : CALL w h₀ (n + 1) (.ref 595) [a0] σ k := by
  refine CALL_def W (xs := ["self"]) (d := (fst pw_xm0629_01 89 (some 17))) (name := "read_dots") (qual := "Lexer.read_dots") (dV := (.none)) (pm := (.str "lua.lexer" 729)) (cd := (.ref 594)) (by kernel_rfl) (by kernel_rfl) (by kernel_rfl) rfl (fun us hus => ?_) h
  obtain ⟨u0, rfl⟩ := len1 hus
  kernel_rfl
/-- Lexer.read_word -/
theorem E_602 {w : World} {h₀ : Heap} (W : Wld w h₀) {n : Nat} {a0 : MV} {σ : St} {k : kV}
    (h : ∀ L, runD ⟨w, h₀, W, n, L⟩ (envOf (fst pw_xm0629_01 89 (some 18)) "read_word" "Lexer.read_word" (.none) (.str "lua.lexer" 729) (.ref 601) L 602) (fst pw_xm0629_01 89 (some 18)) ((["self"] : List Str).zip [a0]) σ (retK k)) : CALL w h₀ (n + 1) (.ref 602) [a0] σ k := by
  refine CALL_def W (xs := ["self"]) (d := (fst pw_xm0629_01 89 (some 18))) (name := "read_word") (qual := "Lexer.read_word") (dV := (.none)) (pm := (.str "lua.lexer" 729)) (cd := (.ref 601)) (by kernel_rfl) (by kernel_rfl) (by kernel_rfl) rfl (fun us hus => ?_) h
  obtain ⟨u0, rfl⟩ := len1 hus
  kernel_rfl
/-- Lexer.read_numeral -/
theorem E_609 {w : World} {h₀ : Heap} (W : Wld w h₀) {n : Nat} {a0 : MV} {σ : St} {k : kV}
    (h : ∀ L, runD ⟨w, h₀, W, n, L⟩ (envOf (fst pw_xm0629_01 89 (some 19)) "read_numeral" "Lexer.read_numeral" (.none) (.str "lua.lexer" 729) (.ref 608) L 609) (fst pw_xm0629_01 89 (some 19)) ((["self"] : List Str).zip [a0]) σ (retK k)) : CALL w h₀ (n + 1) (.ref 609) [a0] σ k := by
  refine CALL_def W (xs := ["self"]) (d := (fst pw_xm0629_01 89 (some 19))) (name := "read_numeral") (qual := "Lexer.read_numeral") (dV := (.none)) (pm := (.str "lua.lexer" 729)) (cd := (.ref 608)) (by kernel_rfl) (by kernel_rfl) (by kernel_rfl) rfl (fun us hus => ?_) h
  obtain ⟨u0, rfl⟩ := len1 hus
  kernel_rfl
/-- Lexer.read_bracket -/
theorem E_616 {w : World} {h₀ : Heap} (W : Wld w h₀) {n : Nat} {a0 : MV} {σ : St} {k : kV}
    (h : ∀ L, runD ⟨w, h₀, W, n, L⟩ (envOf (fst pw_xm0629_01 89 (some 20)) "read_bracket" "Lexer.read_bracket" (.none) (.str "lua.lexer" 729) (.ref 615) L 616) (fst pw_xm0629_01 89 (some 20)) ((["self"] : List Str).zip [a0]) σ (retK k)) : CALL w h₀ (n + 1) (.ref 616) [a0] σ k := by
  refine CALL_def W (xs := ["self"]) (d := (fst pw_xm0629_01 89 (some 20))) (name := "read_bracket") (qual := "Lexer.read_bracket") (dV := (.none)) (pm := (.str "lua.lexer" 729)) (cd := (.ref 615)) (by kernel_rfl) (by kernel_rfl) (by kernel_rfl) rfl (fun us hus => ?_) h
  obtain ⟨u0, rfl⟩ := len1 hus
  kernel_rfl
/-- Lexer.read_level -/
theorem E_623 {w : World} {h₀ : Heap} (W : Wld w h₀) {n : Nat} {a0 : MV} {σ : St} {k : kV}
    (h : ∀ L, runD ⟨w, h₀, W, n, L⟩ (envOf (fst pw_xm0629_01 89 (some 21)) "read_level" "Lexer.read_level" (.none) (.str "lua.lexer" 729) (.ref 622) L 623) (fst pw_xm0629_01 89 (some 21)) ((["self"] : List Str).zip [a0]) σ (retK k)) : CALL w h₀ (n + 1) (.ref 623) [a0] σ k := by
  refine CALL_def W (xs := ["self"]) (d := (fst pw_xm0629_01 89 (some 21))) (name := "read_level") (qual := "Lexer.read_level") (dV := (.none)) (pm := (.str "lua.lexer" 729)) (cd := (.ref 622)) (by kernel_rfl) (by kernel_rfl) (by kernel_rfl) rfl (fun us hus => ?_) h
  obtain ⟨u0, rfl⟩ := len1 hus
  kernel_rfl
/-- Lexer.read_long -/
theorem E_630 {w : World} {h₀ : Heap} (W : Wld w h₀) {n : Nat} {a0 a1 a2 : MV} {σ : St} {k : kV}
    (h : ∀ L, runD ⟨w, h₀, W, n, L⟩ (envOf (fst pw_xm0629_01 89 (some 22)) "read_long" "Lexer.read_long" (.none) (.str "lua.lexer" 729) (.ref 629) L 630) (fst pw_xm0629_01 89 (some 22)) ((["self", "level", "is_text"] : List Str).zip [a0, a1, a2]) σ (retK k)) : CALL w h₀ (n + 1) (.ref 630) [a0, a1, a2] σ k := by
  refine CALL_def W (xs := ["self", "level", "is_text"]) (d := (fst pw_xm0629_01 89 (some 22))) (name := "read_long") (qual := "Lexer.read_long") (dV := (.none)) (pm := (.str "lua.lexer" 729)) (cd := (.ref 629)) (by kernel_rfl) (by kernel_rfl) (by kernel_rfl) rfl (fun us hus => ?_) h
  obtain ⟨u0, u1, u2, rfl⟩ := len3 hus
  kernel_rfl
/-- Lexer.read_string -/
theorem E_644 {w : World} {h₀ : Heap} (W : Wld w h₀) {n : Nat} {a0 a1 : MV} {σ : St} {k : kV}
    (h : ∀ L, runD ⟨w, h₀, W, n, L⟩ (envOf (fst pw_xm0629_01 89 (some 24)) "read_string" "Lexer.read_string" (.none) (.str "lua.lexer" 729) (.ref 643) L 644) (fst pw_xm0629_01 89 (some 24)) ((["self", "quote"] : List Str).zip [a0, a1]) σ (retK k)) : CALL w h₀ (n + 1) (.ref 644) [a0, a1] σ k := by
  refine CALL_def W (xs := ["self", "quote"]) (d := (fst pw_xm0629_01 89 (some 24))) (name := "read_string") (qual := "Lexer.read_string") (dV := (.none)) (pm := (.str "lua.lexer" 729)) (cd := (.ref 643)) (by kernel_rfl) (by kernel_rfl) (by kernel_rfl) rfl (fun us hus => ?_) h
  obtain ⟨u0, u1, rfl⟩ := len2 hus
  kernel_rfl
/-- Lexer.read_escape -/
theorem E_651 {w : World} {h₀ : Heap} (W : Wld w h₀) {n : Nat} {a0 : MV} {σ : St} {k : kV}
    (h : ∀ L, runD ⟨w, h₀, W, n, L⟩ (envOf (fst pw_xm0629_01 89 (some 25)) "read_escape" "Lexer.read_escape" (.none) (.str "lua.lexer" 729) (.ref 650) L 651) (fst pw_xm0629_01 89 (some 25)) ((["self"] : List Str).zip [a0]) σ (retK k)) : CALL w h₀ (n + 1) (.ref 651) [a0] σ k := by
  refine CALL_def W (xs := ["self"]) (d := (fst pw_xm0629_01 89 (some 25))) (name := "read_escape") (qual := "Lexer.read_escape") (dV := (.none)) (pm := (.str "lua.lexer" 729)) (cd := (.ref 650)) (by kernel_rfl) (by kernel_rfl) (by kernel_rfl) rfl (fun us hus => ?_) h
  obtain ⟨u0, rfl⟩ := len1 hus
  kernel_rfl
/-- Lexer.read_digits -/
theorem E_658 {w : World} {h₀ : Heap} (W : Wld w h₀) {n : Nat} {a0 : MV} {σ : St} {k : kV}
    (h : ∀ L, runD ⟨w, h₀, W, n, L⟩ (envOf (fst pw_xm0629_01 89 (some 26)) "read_digits" "Lexer.read_digits" (.none) (.str "lua.lexer" 729) (.ref 657) L 658) (fst pw_xm0629_01 89 (some 26)) ((["self"] : List Str).zip [a0]) σ (retK k)) : CALL w h₀ (n + 1) (.ref 658) [a0] σ k := by
  refine CALL_def W (xs := ["self"]) (d := (fst pw_xm0629_01 89 (some 26))) (name := "read_digits") (qual := "Lexer.read_digits") (dV := (.none)) (pm := (.str "lua.lexer" 729)) (cd := (.ref 657)) (by kernel_rfl) (by kernel_rfl) (by kernel_rfl) rfl (fun us hus => ?_) h
  obtain ⟨u0, rfl⟩ := len1 hus
  kernel_rfl
end Mine

end
section
open PySem PySem.W PyProof.Rows PySem.Calls
set_option maxHeartbeats 4000000
set_option linter.unusedVariables false
set_option linter.unusedSimpArgs false
namespace Mine
open MineK
open PySem.Challenge (pw_xm0629_01 rw_xm0629_01)
/-! ## Small predicates -/
noncomputable def isDig (i : Int) : Bool := decide (48 ≤ i) && decide (i ≤ 57)
theorem C_digit_fmt {w : World} {h₀ : Heap} (W : Wld w h₀) {n : Nat} {i : Int} {σ : St} {k : kV} (h : k (.bool (isDig i)) σ) : CALL w h₀ (n + 1) (.ref 201) [.int i] σ k := by
  refine E_201 W fun L => ?_
  repeat' (first | apply And.intro | (intro hh; try (cases hh; done)))
  all_goals
    (conv => whnf)
    unfold isDig at h
    simp_all
theorem C_digit_lex {w : World} {h₀ : Heap} (W : Wld w h₀) {n : Nat} {i : Int} {σ : St} {k : kV} (h : k (.bool (isDig i)) σ) : CALL w h₀ (n + 1) (.ref 385) [.int i] σ k := by
  refine E_385 W fun L => ?_
  repeat' (first | apply And.intro | (intro hh; try (cases hh; done)))
  all_goals
    (conv => whnf)
    unfold isDig at h
    simp_all
noncomputable def isLet (i : Int) : Bool := (decide (65 ≤ i) && decide (i ≤ 90)) || ((decide (97 ≤ i) && decide (i ≤ 122)) || i == 95)
theorem C_letter {w : World} {h₀ : Heap} (W : Wld w h₀) {n : Nat} {i : Int} {σ : St} {k : kV} (h : k (.bool (isLet i)) σ) : CALL w h₀ (n + 1) (.ref 392) [.int i] σ k := by
  refine E_392 W fun L => ?_
  repeat' (first | apply And.intro | (intro hh; try (cases hh; done)))
  all_goals
    (conv => whnf)
    unfold isLet at h
    simp_all
theorem C_namesign {w : World} {h₀ : Heap} (W : Wld w h₀) {n : Nat} {i : Int} {σ : St} {k : kV} (h : k (.bool (isLet i || isDig i)) σ) : CALL w h₀ (n + 2) (.ref 399) [.int i] σ k := by
  refine E_399 W fun L => ?_
  (conv => whnf)
  refine C_letter W ?_
  repeat' (first | apply And.intro | (intro hh; try (cases hh; done)))
  · (conv => whnf); simp_all
  · (conv => whnf)
    refine C_digit_lex W ?_
    (conv => whnf)
    simp_all
/-- the state grows -/
noncomputable def Grow (σ σ' : St) : Prop := ∀ a o, σ a = some o → σ' a = some o
theorem Grow.refl (σ : St) : Grow σ σ := fun _ _ e => e
theorem Grow.trans {a b c : St} (h : Grow a b) (k : Grow b c) : Grow a c := fun x o e => k x o (h x o e)
theorem Grow.upd {σ : St} {a : Addr} {o : MObj} (h : σ a = none) : Grow σ (σ.upd a o) := fun x p e => by
  rw [St.upd_ne fun q => by rw [q, h] at e; cases e]; exact e
noncomputable def isNL (i : Int) : Bool := i == 10 || i == 13
theorem C_newline {w : World} {h₀ : Heap} (W : Wld w h₀) {n : Nat} {i : Int} {σ : St} {k : kV} (h : ∀ σ', Grow σ σ' → k (.bool (isNL i)) σ') : CALL w h₀ (n + 1) (.ref 420) [.int i] σ k := by
  refine E_420 W fun L => ?_
  (conv => whnf)
  refine ⟨by decide, fun a ha => ?_⟩
  (conv => whnf)
  refine ⟨[10, 13], by rw [St.upd_same]; rfl, ?_⟩
  (conv => whnf)
  have := h _ (Grow.upd (o := .tuple [.int 10, .int 13]) ha)
  have e : isNL i = ([10, 13] : List Int).any (· == i) := by
    unfold isNL
    simp only [List.any_cons, List.any_nil, Bool.or_false]
    rw [Bool.eq_iff_iff]; simp; omega
  rw [e] at this
  exact this
noncomputable def isBlk (i : Int) : Bool := i == 32 || (decide (9 ≤ i) && decide (i ≤ 13))
theorem C_blank_lex {w : World} {h₀ : Heap} (W : Wld w h₀) {n : Nat} {i : Int} {σ : St} {k : kV} (h : k (.bool (isBlk i)) σ) : CALL w h₀ (n + 1) (.ref 406) [.int i] σ k := by
  refine E_406 W fun L => ?_
  repeat' (first | apply And.intro | (intro hh; try (cases hh; done)))
  all_goals
    (conv => whnf)
    unfold isBlk at h
    simp_all
theorem C_blank_val {w : World} {h₀ : Heap} (W : Wld w h₀) {n : Nat} {i : Int} {σ : St} {k : kV} (h0 : 0 ≤ i ∧ i < 256) (h : k (.bool (isBlk i)) σ) : CALL w h₀ (n + 1) (.ref 110) [.int i] σ k := by
  refine E_110 W fun L => ?_
  (conv => whnf)
  refine ⟨h0, ?_⟩
  (conv => whnf)
  have e : isBlk i = ([32, 9, 10, 11, 12, 13] : List UInt8).any fun c => (c.toNat : Int) == i := by
    unfold isBlk
    simp only [List.any_cons, List.any_nil, Bool.or_false]
    rw [Bool.eq_iff_iff]; simp; omega
  rw [e] at h
  exact h
end Mine

end
section
open PySem PySem.W PyProof.Rows PySem.Calls
set_option maxHeartbeats 4000000
set_option linter.unusedVariables false
set_option linter.unusedSimpArgs false
namespace Mine
open MineK
open PySem.Challenge (pw_xm0629_01 rw_xm0629_01)
/-! ## Loops over bytes -/
noncomputable def blkAt (l : List UInt8) (i : Nat) : Nat := i + ((l.drop i).takeWhile fun c => isBlk c.toNat).length
theorem C_skip_blanks {w : World} {h₀ : Heap} (W : Wld w h₀) {n : Nat} {t : List UInt8} {i : Nat} {σ : St} {k : kV} (hz : t.length ≤ 16777216) (h : k (.int (blkAt t i)) σ) : CALL w h₀ (n + 2) (.ref 131) [.bytes t, .int i] σ k := by
  refine E_131 W fun L => ?_
  (conv => whnf)
  refine ⟨t.length - i + 1, ?_⟩
  generalize hm : t.length - i = m
  induction m generalizing i with
  | zero =>
    (conv => whnf)
    refine ⟨hz, ?_⟩
    have e : blkAt t i = i := by unfold blkAt; rw [List.drop_eq_nil_of_le (by omega)]; rfl
    rw [e] at h
    repeat' (first | apply And.intro | (intro hh; try (cases hh; done)))
    all_goals (conv => whnf)
    all_goals first | exact h | (simp only [decide_eq_true_eq] at *; omega) | trace_state
  | succ m ih =>
    (conv => whnf)
    refine ⟨hz, ?_⟩
    (conv => whnf)
    refine ⟨fun hh => ?_, fun hh => ?_⟩
    · simp only [decide_eq_false_iff_not] at hh; omega
    · simp only [decide_eq_true_eq] at hh
      (conv => whnf)
      refine ⟨hz, ⟨by omega, by omega⟩, ?_⟩
      (conv => whnf)
      refine C_blank_val W ⟨by omega, ?_⟩ ?_
      · have := (t.getD (Int.toNat ↑i) 0).toNat_lt; omega
      · have hi : i < t.length := by omega
        have e : blkAt t i = if isBlk (t.getD i 0).toNat = true then blkAt t (i + 1) else i := by
          unfold blkAt
          rw [List.drop_eq_getElem_cons hi, List.takeWhile_cons]
          have : t.getD i 0 = t[i] := by simp [List.getD, hi]
          rw [this]
          split
          · simp; omega
          · simp
        rw [Int.toNat_natCast]
        generalize isBlk (t.getD i 0).toNat = bb at e ⊢
        (conv => whnf)
        refine ⟨fun hb => ?_, fun hb => ?_⟩
        · subst hb
          rw [if_neg Bool.false_ne_true] at e
          rw [e] at h
          repeat' (first | apply And.intro | (intro hh; try (cases hh; done)))
          all_goals first | contradiction | exact h
        · subst hb
          rw [if_pos rfl] at e
          rw [e] at h
          (conv => whnf)
          refine ⟨fun _ => ?_, fun hb => by cases hb⟩
          (conv => whnf)
          exact ih (i := i + 1) h (by omega)
end Mine

end
section
open PySem PySem.W PyProof.Rows PySem.Calls
set_option maxHeartbeats 4000000
set_option linter.unusedVariables false
set_option linter.unusedSimpArgs false
namespace Mine
open MineK
open PySem.Challenge (pw_xm0629_01 rw_xm0629_01)
/-! ## Numbers -/
noncomputable def wrapV (i : Int) : Int := if Builtin.bitAnd i (1 * 2 ^ 64 - 1) ≥ 1 * 2 ^ 63 then Builtin.bitAnd i (1 * 2 ^ 64 - 1) - 1 * 2 ^ 64 else Builtin.bitAnd i (1 * 2 ^ 64 - 1)
theorem C_wrap {w : World} {h₀ : Heap} (W : Wld w h₀) {n : Nat} {i : Int} {σ : St} {k : kV} (h : k (.int (wrapV i)) σ) : CALL w h₀ (n + 1) (.ref 103) [.int i, .int 64] σ k := by
  refine E_103 W fun L => ?_
  (conv => whnf)
  refine ⟨by decide, ?_⟩
  (conv => whnf)
  refine ⟨by decide, ?_⟩
  (conv => whnf)
  refine ⟨fun hh => ?_, fun hh => ?_⟩
  · have e : wrapV i = Builtin.bitAnd i (1 * 2 ^ 64 - 1) - 1 * 2 ^ 64 := if_pos (of_decide_eq_true hh)
    rw [e] at h
    (conv => whnf)
    refine ⟨by decide, ?_⟩
    (conv => whnf)
    exact h
  · have e : wrapV i = Builtin.bitAnd i (1 * 2 ^ 64 - 1) := if_neg (of_decide_eq_false hh)
    rw [e] at h
    (conv => whnf)
    exact h
end Mine

end
section
open PySem PySem.W PyProof.Rows PySem.Calls
set_option maxHeartbeats 4000000
set_option linter.unusedVariables false
set_option linter.unusedSimpArgs false
namespace Mine
open MineK
open PySem.Challenge (pw_xm0629_01 rw_xm0629_01)
/-! ## The format side -/
theorem C_to_text {w : World} {h₀ : Heap} (W : Wld w h₀) {n : Nat} {b : List UInt8} {σ : St} {k : kV} (h : k (.bytes b) σ) : CALL w h₀ (n + 1) (.ref 166) [.bytes b] σ k := by
  refine E_166 W fun L => ?_
  (conv => whnf)
  refine ⟨fun _ => ?_, fun hh => by cases hh⟩
  (conv => whnf)
  exact h
theorem St.upd_swap {σ : St} {a b : Addr} {A I B : MObj} (h : b ≠ a) : ((σ.upd a A).upd b I).upd a B = (σ.upd a B).upd b I := by
  funext y
  simp only [St.upd]
  by_cases h1 : y = a
  · subst h1
    have : ¬ y = b := fun e => h e.symm
    simp [this]
  · simp [h1]
theorem C_token {w : World} {h₀ : Heap} (W : Wld w h₀) {n : Nat} {a b : MV} {σ : St} {k : kV}
    (h : ∀ x dx, σ x = none → σ dx = none → x ≠ dx → k (.ref x) (((σ.upd dx (.ns [("kind", a), ("value", b)])).upd x (.inst 458 dx)))) : CALL w h₀ (n + 2) (.ref 458) [a, b] σ k := by
  refine CALL_cls W (fI := 455) (by decide) fun x dx hx hdx hne => ?_
  refine E_455 W fun L => ?_
  (conv => whnf)
  refine ⟨.inst 458 dx, by rw [St.upd_same], ?_⟩
  (conv => whnf)
  refine ⟨.ns [], by rw [St.upd_ne (Ne.symm hne), St.upd_same], ?_⟩
  (conv => whnf)
  refine ⟨by show 1 ≤ 1000; decide, ?_⟩
  rw [St.upd_swap hne]
  (conv => whnf)
  refine ⟨.inst 458 dx, by rw [St.upd_same], ?_⟩
  (conv => whnf)
  refine ⟨_, by rw [St.upd_ne (Ne.symm hne), St.upd_same], ?_⟩
  (conv => whnf)
  refine ⟨by show 2 ≤ 1000; decide, ?_⟩
  rw [St.upd_swap hne]
  (conv => whnf)
  exact ⟨rfl, h x dx hx hdx hne⟩
theorem C_plainArgs {w : World} {h₀ : Heap} (W : Wld w h₀) {n : Nat} {a b : MV} {σ : St} {k : kV}
    (h : ∀ x dx, σ x = none → σ dx = none → x ≠ dx → k (.ref x) (((σ.upd dx (.ns [("values", a), ("limits", b)])).upd x (.inst 351 dx)))) : CALL w h₀ (n + 2) (.ref 351) [a, b] σ k := by
  refine CALL_cls W (fI := 320) (by decide) fun x dx hx hdx hne => ?_
  refine E_320 W fun L => ?_
  (conv => whnf)
  refine ⟨.inst 351 dx, by rw [St.upd_same], ?_⟩
  (conv => whnf)
  refine ⟨.ns [], by rw [St.upd_ne (Ne.symm hne), St.upd_same], ?_⟩
  (conv => whnf)
  refine ⟨by show 1 ≤ 1000; decide, ?_⟩
  rw [St.upd_swap hne]
  (conv => whnf)
  refine ⟨.inst 351 dx, by rw [St.upd_same], ?_⟩
  (conv => whnf)
  refine ⟨_, by rw [St.upd_ne (Ne.symm hne), St.upd_same], ?_⟩
  (conv => whnf)
  refine ⟨by show 2 ≤ 1000; decide, ?_⟩
  rw [St.upd_swap hne]
  (conv => whnf)
  exact ⟨rfl, h x dx hx hdx hne⟩
theorem C_directive {w : World} {h₀ : Heap} (W : Wld w h₀) {n : Nat} {a b c d : MV} {σ : St} {k : kV}
    (h : ∀ x dx, σ x = none → σ dx = none → x ≠ dx → k (.ref x) (((σ.upd dx (.ns [("flags", a), ("width", b), ("precision", c), ("letter", d)])).upd x (.inst 288 dx)))) : CALL w h₀ (n + 2) (.ref 288) [a, b, c, d] σ k := by
  refine CALL_cls W (fI := 229) (by decide) fun x dx hx hdx hne => ?_
  refine E_229 W fun L => ?_
  (conv => whnf)
  refine ⟨.inst 288 dx, by rw [St.upd_same], ?_⟩
  (conv => whnf)
  refine ⟨.ns [], by rw [St.upd_ne (Ne.symm hne), St.upd_same], ?_⟩
  (conv => whnf)
  refine ⟨by show 1 ≤ 1000; decide, ?_⟩
  rw [St.upd_swap hne]
  iterate 3
    (conv => whnf)
    refine ⟨.inst 288 dx, by rw [St.upd_same], ?_⟩
    (conv => whnf)
    refine ⟨_, by rw [St.upd_ne (Ne.symm hne), St.upd_same], ?_⟩
    (conv => whnf)
    refine ⟨by first | (show 2 ≤ 1000; decide) | (show 3 ≤ 1000; decide) | (show 4 ≤ 1000; decide), ?_⟩
    rw [St.upd_swap hne]
  (conv => whnf)
  exact ⟨rfl, h x dx hx hdx hne⟩
end Mine

end
section
open PySem PySem.W PyProof.Rows PySem.Calls
set_option maxHeartbeats 4000000
set_option linter.unusedVariables false
set_option linter.unusedSimpArgs false
namespace Mine
open MineK
/-! ## Invariants of loops -/
theorem for_inv {side : St → Prop} {x : Str} {body : Nm → St → kX → Prop} {k : kX} (R : List MV → Nm → St → Prop)
    (hside : ∀ vs ρ σ, R vs ρ σ → side σ)
    (hturn : ∀ v vs ρ σ (K : kX), R (v :: vs) ρ σ → (∀ ρ' σ', R vs ρ' σ' → K .next ρ' σ') → (∀ ρ' σ', R vs ρ' σ' → K .cont ρ' σ') → (∀ ρ' σ', k .next ρ' σ' → K .brk ρ' σ') → (∀ u ρ' σ', k (.ret u) ρ' σ' → K (.ret u) ρ' σ') → body (put x v ρ) σ K)
    (hend : ∀ ρ σ, R [] ρ σ → k .next ρ σ) : ∀ {items : List MV} {ρ : Nm} {σ : St}, R items ρ σ → forL side (putB x) body items ρ σ k
  | [], ρ, σ, h => ⟨hside _ _ _ h, hend _ _ h⟩
  | v :: vs, ρ, σ, h => ⟨hside _ _ _ h, hturn v vs ρ σ _ h (fun _ _ q => for_inv R hside hturn hend q) (fun _ _ q => for_inv R hside hturn hend q) (fun _ _ q => q) (fun _ _ _ q => q)⟩
theorem while_inv {tst : Nm → St → (Bool → Nm → St → Prop) → Prop} {body : Nm → St → kX → Prop} {k : kX} (R : Nat → Nm → St → Prop)
    (hturn : ∀ m ρ σ (K : kX), R m ρ σ → (∀ m' ρ' σ', m' < m → R m' ρ' σ' → K .next ρ' σ') → (∀ m' ρ' σ', m' < m → R m' ρ' σ' → K .cont ρ' σ') → (∀ ρ' σ', k .next ρ' σ' → K .brk ρ' σ') → (∀ u ρ' σ', k (.ret u) ρ' σ' → K (.ret u) ρ' σ') →
      tst ρ σ fun b ρ σ => (b = true → body ρ σ K) ∧ (b = false → k .next ρ σ))
    {N : Nat} {ρ : Nm} {σ : St} (h : R N ρ σ) : ∃ N, whileN tst body N ρ σ k := by
  have key : ∀ M m ρ σ, m ≤ M → R m ρ σ → whileN tst body (M + 1) ρ σ k := by
    intro M
    induction M with
    | zero =>
      intro m ρ σ hm h
      have := hturn m ρ σ (whC (whileN tst body 0) k) h (fun m' _ _ q => by omega) (fun m' _ _ q => by omega) (fun _ _ q => q) (fun _ _ _ q => q)
      exact this
    | succ M ih =>
      intro m ρ σ hm h
      exact hturn m ρ σ (whC (whileN tst body (M + 1)) k) h (fun m' _ _ q r => ih m' _ _ (by omega) r) (fun m' _ _ q r => ih m' _ _ (by omega) r) (fun _ _ q => q) (fun _ _ _ q => q)
  exact ⟨N + 1, key N N ρ σ (Nat.le_refl _) h⟩
theorem goT1 {b : Bool} {P Q : Prop} (h : b = true) (p : P) : (b = true → P) ∧ (b = false → Q) := ⟨fun _ => p, fun e => by rw [h] at e; cases e⟩
theorem goT2 {b : Bool} {P Q : Prop} (h : b = true) (p : Q) : (b = false → P) ∧ (b = true → Q) := ⟨fun e => by (rw [h] at e; cases e), fun _ => p⟩
theorem goF1 {b : Bool} {P Q : Prop} (h : b = false) (p : P) : (b = false → P) ∧ (b = true → Q) := ⟨fun _ => p, fun e => by rw [h] at e; cases e⟩
theorem goF2 {b : Bool} {P Q : Prop} (h : b = false) (p : Q) : (b = true → P) ∧ (b = false → Q) := ⟨fun e => by (rw [h] at e; cases e), fun _ => p⟩
/-- one bare object stands no more for another -/
theorem grow_upd {σ s : St} {a : Addr} {o : MObj} (ha : σ a = none) (hg : Grow σ s) : Grow σ (s.upd a o) := fun y p hy => by
  rw [St.upd_ne fun q => by rw [q, ha] at hy; cases hy]; exact hg y p hy
end Mine

end
section
open PySem PySem.W PyProof.Rows PySem.Calls
set_option maxHeartbeats 4000000
set_option linter.unusedVariables false
set_option linter.unusedSimpArgs false
namespace Mine
open MineK
open PySem.Challenge (pw_xm0629_01 rw_xm0629_01)
/-! ## quote -/
noncomputable def qByte (c : UInt8) : List UInt8 := if c = 34 ∨ c = 92 ∨ c = 10 then [92, c] else if c = 13 then [92, 114] else if c = 0 then [92, 48, 48, 48] else [c]
noncomputable def quoteV (b : List UInt8) : List UInt8 := 34 :: (b.flatMap qByte ++ [34])
noncomputable def ofB (l : List UInt8) : List Int := l.map fun (x : UInt8) => (x.toNat : Int)
theorem ofB_ok (l : List UInt8) : ∀ n ∈ ofB l, 0 ≤ n ∧ n < 256 := by
  intro n hn
  obtain ⟨x, -, rfl⟩ := List.mem_map.mp hn
  have := x.toNat_lt
  omega
theorem bytesOf_map (xs : List UInt8) : bytesOf (ofB xs) = xs := by
  induction xs with
  | nil => rfl
  | cons x xs ih =>
    have h := ih
    unfold bytesOf ofB at h ⊢
    simp_all
theorem len_q (y : UInt8) : (qByte y).length ≤ 4 := by unfold qByte; (repeat' split) <;> simp
theorem len_flat (b : List UInt8) : (List.flatMap qByte b).length ≤ 4 * b.length := by
  induction b with
  | nil => simp
  | cons y r ih =>
    have := len_q y
    rw [List.flatMap_cons, List.length_append, List.length_cons]; omega
theorem C_quote {w : World} {h₀ : Heap} (W : Wld w h₀) {n : Nat} {b : List UInt8} {σ : St} {k : kV} (hz : b.length ≤ 10000) (h : ∀ σ', Grow σ σ' → k (.bytes (quoteV b)) σ') : CALL w h₀ (n + 1) (.ref 194) [.bytes b] σ k := by
  refine E_194 W fun L => ?_
  (conv => whnf)
  refine ⟨by show 1 ≤ 1000; decide, fun a ha => ?_⟩
  (conv => whnf)
  refine ⟨_, _, iter_bytes, ?_⟩
  refine for_inv (fun vs ρ σ' => ∃ (cs xs : List UInt8), vs = cs.map (fun x => MV.int x.toNat) ∧ (∀ v, put "octet" v ρ = ([("text", .bytes b), ("found", .ref a), ("octet", v)] : Nm)) ∧ look "found" ρ = some (.ref a) ∧ σ' a = some (.list ((xs.map fun x => MV.int x.toNat))) ∧ xs ++ cs.flatMap qByte = 34 :: b.flatMap qByte ∧ Grow σ σ') (fun _ _ _ _ => trivial) ?_ ?_ ?_
  · rintro v vs ρ σ' K ⟨cs, xs, e1, e2, e3, e4, e5, e6⟩ hK - - -
    match cs, e1 with
    | c :: cs, e1 =>
    obtain ⟨rfl, rfl⟩ := List.cons.inj e1
    rw [e2]
    have hK2 : ∀ σ3 ys, ys = qByte c → σ3 a = some (.list (((xs ++ ys).map fun x => MV.int x.toNat))) → Grow σ σ3 → K .next ([("text", .bytes b), ("found", .ref a), ("octet", .int c.toNat)] : Nm) σ3 := by
      intro σ3 ys hy q1 q2
      subst hy
      refine hK _ _ ⟨cs, _, rfl, fun v => rfl, rfl, q1, ?_, q2⟩
      rw [← e5, List.flatMap_cons, List.append_assoc]
    clear hK
    have hc := c.toNat_lt
    have hl : xs.length ≤ 40001 := by
      have hq := len_flat b
      have := congrArg List.length e5
      rw [List.length_append, List.length_cons] at this
      omega
    have g1 : ∀ a2 o, σ' a2 = none → Grow σ (σ'.upd a2 o) := fun a2 o hn => e6.trans (Grow.upd hn)
    have g2 : ∀ (s : St) o, Grow σ s → Grow σ (s.upd a o) := fun s o hg y p hy => by
      rw [St.upd_ne fun q => by rw [q, ha] at hy; cases hy]; exact hg y p hy
    (conv => whnf)
    refine ⟨by omega, ?_⟩
    (conv => whnf)
    refine ⟨fun hh => ?_, fun hh => ?_⟩
    · (conv => whnf)
      refine ⟨_, e4, ?_⟩
      (conv => whnf)
      refine ⟨by show 2 ≤ 1000; decide, fun a2 ha2 => ?_⟩
      (conv => whnf)
      have hne : a ≠ a2 := fun e => by rw [e, ha2] at e4; cases e4
      refine ⟨_, by rw [St.upd_ne hne]; exact e4, _, by rw [St.upd_same], ?_⟩
      (conv => whnf)
      refine ⟨by simp; omega, ?_⟩
      (conv => whnf)
      refine hK2 _ [92, c] ?_ (by rw [St.upd_same]; simp) (g2 _ _ (g1 _ _ ha2))
      unfold qByte
      rw [if_pos]
      simp [← UInt8.toNat_inj] at hh ⊢; omega
    · have hh' : ¬ (c = 34 ∨ c = 92 ∨ c = 10) := by simp [← UInt8.toNat_inj] at hh ⊢; omega
      (conv => whnf)
      refine ⟨fun hh2 => ?_, fun hh2 => ?_⟩
      · (conv => whnf)
        refine ⟨_, e4, ?_⟩
        (conv => whnf)
        refine ⟨_, e4, ?_⟩
        (conv => whnf)
        refine ⟨by simp; omega, ?_⟩
        (conv => whnf)
        refine hK2 _ [92, 114] ?_ (by rw [St.upd_same]; simp) (g2 _ _ e6)
        unfold qByte
        rw [if_neg hh', if_pos (by simp [← UInt8.toNat_inj] at hh2 ⊢; omega)]
      · (conv => whnf)
        refine ⟨fun hh3 => ?_, fun hh3 => ?_⟩
        · (conv => whnf)
          refine ⟨_, e4, ?_⟩
          (conv => whnf)
          refine ⟨_, e4, ?_⟩
          (conv => whnf)
          refine ⟨by simp; omega, ?_⟩
          (conv => whnf)
          refine hK2 _ [92, 48, 48, 48] ?_ (by rw [St.upd_same]; simp) (g2 _ _ e6)
          unfold qByte
          rw [if_neg hh', if_neg (by simp [← UInt8.toNat_inj] at hh2 ⊢; omega), if_pos (by simp [← UInt8.toNat_inj] at hh3 ⊢; omega)]
        · (conv => whnf)
          refine ⟨_, e4, ?_⟩
          (conv => whnf)
          refine ⟨_, e4, ?_⟩
          (conv => whnf)
          refine ⟨by simp; omega, ?_⟩
          (conv => whnf)
          refine hK2 _ [c] ?_ (by rw [St.upd_same]; simp) (g2 _ _ e6)
          unfold qByte
          rw [if_neg hh', if_neg (by simp [← UInt8.toNat_inj] at hh2 ⊢; omega), if_neg (by simp [← UInt8.toNat_inj] at hh3 ⊢; omega)]
  · rintro ρ σ' ⟨cs, xs, e1, e2, e3, e4, e5, e6⟩
    match cs, e1 with
    | [], e1 =>
    rw [List.flatMap_nil, List.append_nil] at e5
    have hq := len_flat b
    have hl := congrArg List.length e5
    rw [List.length_cons] at hl
    (conv => whnf)
    rw [e3]
    (conv => whnf)
    refine ⟨_, e4, ?_⟩
    (conv => whnf)
    refine ⟨_, e4, ?_⟩
    (conv => whnf)
    refine ⟨by simp; omega, ?_⟩
    (conv => whnf)
    rw [e3]
    (conv => whnf)
    refine ⟨_, by rw [St.upd_same], ?_⟩
    refine ⟨ofB (xs ++ [34]), ⟨by simp [ofB], ofB_ok _, by simp [ofB]; omega⟩, ?_⟩
    · (conv => whnf)
      have e : bytesOf (ofB (xs ++ [34])) = quoteV b := by
        rw [bytesOf_map]; rw [e5]; rfl
      rw [e]
      exact h _ fun y p hy => by
        rw [St.upd_ne fun q => by rw [q, ha] at hy; cases hy]; exact e6 y p hy
  · exact ⟨b, [34], rfl, fun v => rfl, rfl, by rw [St.upd_same]; rfl, rfl, Grow.upd ha⟩
end Mine

end
section
open PySem PySem.W PyProof.Rows PySem.Calls
set_option maxHeartbeats 4000000
set_option linter.unusedVariables false
set_option linter.unusedSimpArgs false
namespace Mine
open MineK
open PySem.Challenge (pw_xm0629_01 rw_xm0629_01)
/-! ## the directive -/
theorem C_number_at0 {w : World} {h₀ : Heap} (W : Wld w h₀) {n : Nat} {t : List UInt8} {i : Nat} {σ : St} {k : kV} (hz : t.length ≤ 16777216) (hi : i < t.length) (hd : isDig (t.getD i 0).toNat = false)
    (h : ∀ a σ', Grow σ σ' → σ' a = some (.tuple [.int 0, .int i]) → k (.ref a) σ') : CALL w h₀ (n + 2) (.ref 299) [.bytes t, .int i] σ k := by
  have hi' : decide ((i : Int) < (t.length : Int)) = true := by simp; omega
  have h2 : 0 ≤ (i : Int) ∧ (i : Int) < t.length := by omega
  refine E_299 W fun L => ?_
  (conv => whnf)
  refine ⟨by decide, fun r o hr ho => ?_⟩
  (conv => whnf)
  refine ⟨_, _, iter_range (n := 2) (by decide), ?_⟩
  (conv => whnf)
  refine ⟨⟨o, by rw [St.upd_same], ho⟩, ?_⟩
  (conv => whnf)
  refine ⟨hz, ?_⟩
  (conv => whnf)
  first | refine goT1 (hi') ?_ | refine goT2 (hi') ?_
  (conv => whnf)
  refine ⟨hz, h2, ?_⟩
  (conv => whnf)
  refine C_digit_fmt W ?_
  rw [Int.toNat_natCast, hd]
  (conv => whnf)
  first | refine goF1 (rfl) ?_ | refine goF2 (rfl) ?_
  (conv => whnf)
  first | refine goF1 (rfl) ?_ | refine goF2 (rfl) ?_
  (conv => whnf)
  refine ⟨⟨o, by rw [St.upd_same], ho⟩, ?_⟩
  (conv => whnf)
  refine ⟨hz, ?_⟩
  (conv => whnf)
  first | refine goT1 (hi') ?_ | refine goT2 (hi') ?_
  (conv => whnf)
  refine ⟨hz, h2, ?_⟩
  (conv => whnf)
  refine C_digit_fmt W ?_
  rw [Int.toNat_natCast, hd]
  (conv => whnf)
  first | refine goF1 (rfl) ?_ | refine goF2 (rfl) ?_
  (conv => whnf)
  first | refine goF1 (rfl) ?_ | refine goF2 (rfl) ?_
  (conv => whnf)
  refine ⟨⟨o, by rw [St.upd_same], ho⟩, ?_⟩
  (conv => whnf)
  refine ⟨by show 2 ≤ 1000; decide, fun a ha => ?_⟩
  (conv => whnf)
  exact h a _ ((Grow.upd hr).trans (Grow.upd ha)) (by rw [St.upd_same])
theorem C_read_directive {w : World} {h₀ : Heap} (W : Wld w h₀) {n : Nat} {t : List UInt8} {i : Nat} {σ : St} {k : kV} (hz : t.length ≤ 16777216) (hi : i < t.length) (hd : t.getD i 0 = 113)
    (h : ∀ a x dx σ', Grow σ σ' → σ' a = some (.tuple [.ref x, .int (i + 1), .none]) → σ' x = some (.inst 288 dx) → σ' dx = some (.ns [("flags", .bytes []), ("width", .int 0), ("precision", .none), ("letter", .int 113)]) → k (.ref a) σ') : CALL w h₀ (n + 3) (.ref 306) [.bytes t, .int i] σ k := by
  have hi' : decide ((i : Int) < (t.length : Int)) = true := by simp; omega
  have h2 : 0 ≤ (i : Int) ∧ (i : Int) < t.length := by omega
  have h3 : t.getD (Int.toNat (i : Int)) 0 = 113 := by rw [Int.toNat_natCast]; exact hd
  refine E_306 W fun L => ?_
  (conv => whnf)
  refine ⟨1, ?_⟩
  (conv => whnf)
  refine ⟨hz, ?_⟩
  (conv => whnf)
  first | refine goT1 (hi') ?_ | refine goT2 (hi') ?_
  (conv => whnf)
  refine ⟨hz, h2, ?_⟩
  (conv => whnf)
  rw [h3]
  refine ⟨by decide, ?_⟩
  (conv => whnf)
  first | refine goF1 (rfl) ?_ | refine goF2 (rfl) ?_
  (conv => whnf)
  first | refine goF1 (rfl) ?_ | refine goF2 (rfl) ?_
  (conv => whnf)
  refine ⟨some i, some i, by simp [partN], by simp [partN], ?_⟩
  refine ⟨hz, ?_⟩
  (conv => whnf)
  have hc : cut t (some i) (some i) = [] := by simp [cut]
  rw [hc]
  refine ⟨by decide, ?_⟩
  (conv => whnf)
  refine ⟨by decide, ?_⟩
  (conv => whnf)
  first | refine goF1 (rfl) ?_ | refine goF2 (rfl) ?_
  (conv => whnf)
  refine C_number_at0 W hz hi (by rw [hd]; rfl) fun a1 σ1 g1 ha1 => ?_
  (conv => whnf)
  refine ⟨_, ha1, ?_⟩
  (conv => whnf)
  refine ⟨rfl, ?_⟩
  (conv => whnf)
  refine ⟨hz, ?_⟩
  (conv => whnf)
  first | refine goT1 (hi') ?_ | refine goT2 (hi') ?_
  (conv => whnf)
  refine ⟨hz, h2, ?_⟩
  (conv => whnf)
  rw [h3]
  first | refine goF1 (rfl) ?_ | refine goF2 (rfl) ?_
  (conv => whnf)
  first | refine goF1 (rfl) ?_ | refine goF2 (rfl) ?_
  (conv => whnf)
  refine ⟨hz, ?_⟩
  (conv => whnf)
  first | refine goT1 (hi') ?_ | refine goT2 (hi') ?_
  (conv => whnf)
  refine ⟨hz, h2, ?_⟩
  (conv => whnf)
  rw [h3]
  refine C_digit_fmt W ?_
  (conv => whnf)
  first | refine goF1 (rfl) ?_ | refine goF2 (rfl) ?_
  (conv => whnf)
  first | refine goF1 (rfl) ?_ | refine goF2 (rfl) ?_
  (conv => whnf)
  refine ⟨hz, ?_⟩
  (conv => whnf)
  first | refine goT1 (hi') ?_ | refine goT2 (hi') ?_
  (conv => whnf)
  refine ⟨hz, h2, ?_⟩
  (conv => whnf)
  rw [h3]
  refine C_directive W fun x dx hx hdx hne => ?_
  (conv => whnf)
  refine ⟨by show 3 ≤ 1000; decide, fun a ha => ?_⟩
  (conv => whnf)
  have ha' := ha
  rw [St.upd_get] at ha'
  have hax : a ≠ x := fun e => by rw [if_pos e] at ha'; cases ha'
  rw [if_neg hax, St.upd_get] at ha'
  have had : a ≠ dx := fun e => by rw [if_pos e] at ha'; cases ha'
  rw [if_neg had] at ha'
  refine h a x dx _ (g1.trans ?_) (by rw [St.upd_same]) (by rw [St.upd_ne (Ne.symm hax), St.upd_same]) (by first | (rw [St.upd_ne (Ne.symm had), St.upd_ne (Ne.symm hne), St.upd_same]; done) | (rw [St.upd_ne (Ne.symm had), St.upd_ne (Ne.symm hne), St.upd_same]; rfl)) -- [St.upd_ne (Ne.symm had), St.upd_ne (Ne.symm hne), St.upd_same])
  exact grow_upd ha' (grow_upd hx (Grow.upd hdx))

end Mine

end
section
open PySem PySem.W PyProof.Rows PySem.Calls
set_option maxHeartbeats 4000000
set_option linter.unusedVariables false
set_option linter.unusedSimpArgs false
namespace Mine
open MineK
open PySem.Challenge (pw_xm0629_01 rw_xm0629_01)
/-! ## items -/
/-- the arguments of a format: x = PlainArguments(values, limits) -/
structure ArgsAt (σ : St) (x dx vl lim dl : Addr) (vs : List (List UInt8)) (ln : Nm) : Prop where
  x : σ x = some (.inst 351 dx)
  dx : σ dx = some (.ns [("values", .ref vl), ("limits", .ref lim)])
  vl : σ vl = some (.list (vs.map .bytes))
  lim : σ lim = some (.inst 53 dl)
  dl : σ dl = some (.ns ln)
theorem ArgsAt.grow {σ σ' : St} {x dx vl lim dl : Addr} {vs : List (List UInt8)} {ln : Nm} (h : ArgsAt σ x dx vl lim dl vs ln) (g : Grow σ σ') : ArgsAt σ' x dx vl lim dl vs ln := ⟨g _ _ h.x, g _ _ h.dx, g _ _ h.vl, g _ _ h.lim, g _ _ h.dl⟩
theorem C_value {w : World} {h₀ : Heap} (W : Wld w h₀) {n : Nat} {x dx vl lim dl : Addr} {vs : List (List UInt8)} {ln : Nm} {i : Nat} {v : List UInt8} {σ : St} {k : kV} (hA : ArgsAt σ x dx vl lim dl vs ln) (hv : vs[i]? = some v) (hz : vs.length ≤ 1000)
    (h : k (.bytes v) σ) : CALL w h₀ (n + 1) (.ref 327) [.ref x, .int (i + 2)] σ k := by
  have hi : i < vs.length := by
    rcases Nat.lt_or_ge i vs.length with q | q
    · exact q
    · rw [List.getElem?_eq_none q] at hv; cases hv
  have hi' : decide ((i : Int) + 2 - 2 < ((vs.map MV.bytes).length : Int)) = true := by simp; omega
  refine E_327 W fun L => ?_
  (conv => whnf)
  refine ⟨_, hA.x, ?_⟩
  (conv => whnf)
  refine ⟨_, hA.dx, ?_⟩
  (conv => whnf)
  refine ⟨_, hA.vl, ?_⟩
  (conv => whnf)
  refine ⟨by simp; omega, ?_⟩
  (conv => whnf)
  first | refine goT1 (hi') ?_ | refine goT2 (hi') ?_
  (conv => whnf)
  refine ⟨_, hA.x, ?_⟩
  (conv => whnf)
  refine ⟨_, hA.dx, ?_⟩
  (conv => whnf)
  refine ⟨by omega, ?_⟩
  (conv => whnf)
  refine ⟨_, .bytes v, hA.vl, ?_, ?_⟩
  · have : ((i : Int) + 2 - 2).toNat = i := by omega
    rw [this, List.getElem?_map, hv]; rfl
  · (conv => whnf)
    exact h
theorem C_text {w : World} {h₀ : Heap} (W : Wld w h₀) {n : Nat} {x dx vl lim dl : Addr} {vs : List (List UInt8)} {ln : Nm} {i : Nat} {v : List UInt8} {σ : St} {k : kV} (hA : ArgsAt σ x dx vl lim dl vs ln) (hv : vs[i]? = some v) (hz : vs.length ≤ 1000)
    (h : k (.bytes v) σ) : CALL w h₀ (n + 2) (.ref 341) [.ref x, .int (i + 2)] σ k := by
  refine E_341 W fun L => ?_
  (conv => whnf)
  refine ⟨_, hA.x, ?_⟩
  (conv => whnf)
  refine ⟨_, hA.dx, ?_⟩
  (conv => whnf)
  refine C_value W hA hv hz ?_
  (conv => whnf)
  refine C_to_text W ?_
  (conv => whnf)
  refine ⟨fun u e => (by cases e), ?_⟩
  (conv => whnf)
  first | refine goF1 (rfl) ?_ | refine goF2 (rfl) ?_
  (conv => whnf)
  exact h
theorem C_item {w : World} {h₀ : Heap} (W : Wld w h₀) {n : Nat} {x dx vl lim dl t dt : Addr} {vs : List (List UInt8)} {ln : Nm} {i : Nat} {v : List UInt8} {σ : St} {k : kV} (hA : ArgsAt σ x dx vl lim dl vs ln) (hv : vs[i]? = some v) (hz : vs.length ≤ 1000) (hvz : v.length ≤ 10000)
    (h1 : σ t = some (.inst 288 dt)) (h2 : σ dt = some (.ns [("flags", .bytes []), ("width", .int 0), ("precision", .none), ("letter", .int 113)]))
    (h : ∀ σ', Grow σ σ' → k (.bytes (quoteV v)) σ') : CALL w h₀ (n + 3) (.ref 362) [.ref t, .ref x, .int (i + 2)] σ k := by
  refine E_362 W fun L => ?_
  (conv => whnf)
  refine ⟨_, h1, ?_⟩
  (conv => whnf)
  refine ⟨_, h2, ?_⟩
  (conv => whnf)
  refine ⟨by decide, ?_⟩
  (conv => whnf)
  first | refine goF1 (rfl) ?_ | refine goF2 (rfl) ?_
  (conv => whnf)
  refine ⟨_, h1, ?_⟩
  (conv => whnf)
  refine ⟨_, h2, ?_⟩
  (conv => whnf)
  refine ⟨by decide, ?_⟩
  (conv => whnf)
  first | refine goF1 (rfl) ?_ | refine goF2 (rfl) ?_
  (conv => whnf)
  refine ⟨_, h1, ?_⟩
  (conv => whnf)
  refine ⟨_, h2, ?_⟩
  (conv => whnf)
  refine ⟨_, rfl, ?_⟩
  (conv => whnf)
  first | refine goF1 (rfl) ?_ | refine goF2 (rfl) ?_
  (conv => whnf)
  refine ⟨_, h1, ?_⟩
  (conv => whnf)
  refine ⟨_, h2, ?_⟩
  (conv => whnf)
  refine ⟨_, rfl, ?_⟩
  (conv => whnf)
  first | refine goF1 (rfl) ?_ | refine goF2 (rfl) ?_
  (conv => whnf)
  refine ⟨_, h1, ?_⟩
  (conv => whnf)
  refine ⟨_, h2, ?_⟩
  (conv => whnf)
  refine ⟨_, rfl, ?_⟩
  (conv => whnf)
  first | refine goT1 (rfl) ?_ | refine goT2 (rfl) ?_
  (conv => whnf)
  refine ⟨_, hA.x, ?_⟩
  (conv => whnf)
  refine ⟨_, hA.dx, ?_⟩
  (conv => whnf)
  refine C_text W hA hv hz ?_
  (conv => whnf)
  refine C_quote W hvz fun σ' g => ?_
  (conv => whnf)
  exact h σ' g

end Mine

end
section
open PySem PySem.W PyProof.Rows PySem.Calls
set_option maxHeartbeats 4000000
set_option linter.unusedVariables false
set_option linter.unusedSimpArgs false
namespace Mine
open MineK
open PySem.Challenge (pw_xm0629_01 rw_xm0629_01)
/-! ## format_all -/
noncomputable def limNs : Nm := [("width", .int 64), ("registers", .int 250), ("upvalues", .int 60), ("local_names", .int 200), ("ccalls", .int 40), ("frames", .int 200), ("stack", .int 2000), ("flush", .int 50), ("steps", .int 1000000000), ("text", .int 1000000)]
inductive Fm (vs : List (List UInt8)) : Nat → List UInt8 → List UInt8 → Prop
  | nil (i : Nat) : Fm vs i [] []
  | lit {i : Nat} {c : UInt8} {r o : List UInt8} (hc : c ≠ 37) (h : Fm vs i r o) : Fm vs i (c :: r) (c :: o)
  | pct {i : Nat} {r o : List UInt8} (h : Fm vs i r o) : Fm vs i (37 :: 37 :: r) (37 :: o)
  | q {i : Nat} {v r o : List UInt8} (hv : vs[i]? = some v) (h : Fm vs (i + 1) r o) : Fm vs i (37 :: 113 :: r) (quoteV v ++ o)
theorem drop_cons {t r : List UInt8} {c : UInt8} {i : Nat} (h : t.drop i = c :: r) : i < t.length ∧ t.getD i 0 = c ∧ t.drop (i + 1) = r := by
  have hi : i < t.length := by
    rcases Nat.lt_or_ge i t.length with q | q
    · exact q
    · rw [List.drop_eq_nil_of_le q] at h; cases h
  rw [List.drop_eq_getElem_cons hi] at h
  have h' := List.cons.inj h
  exact ⟨hi, by rw [← h'.1]; simp [List.getD, hi], h'.2⟩
structure FShape (t : List UInt8) (x f : Addr) (i m : Int) (r : Nm) (ρ : Nm) : Prop where
  eq : ρ = (("text", .bytes t) :: ("arguments", .ref x) :: ("number", .int m) :: ("at", .int i) :: ("found", .ref f) :: r : Nm)
  oct : ∀ o, ∃ r1 : Nm, put "octet" o r = (("octet", o) :: r1 : Nm) ∧ ∀ p q, put "wrong" q (put "told" p r1) = ([("told", p), ("wrong", q)] : Nm)
theorem put_oct {a b c d e o : MV} {r r1 : Nm} (h : put "octet" o r = (("octet", o) :: r1 : Nm)) : put "octet" o ((("text", a) :: ("arguments", b) :: ("number", c) :: ("at", d) :: ("found", e) :: r : Nm)) = (("text", a) :: ("arguments", b) :: ("number", c) :: ("at", d) :: ("found", e) :: ("octet", o) :: r1 : Nm) :=
  congrArg (fun z : Nm => (("text", a) :: ("arguments", b) :: ("number", c) :: ("at", d) :: ("found", e) :: z : Nm)) h
theorem put_told {a b c d e o p q c2 d1 d2 : MV} {r1 : Nm} (h : put "wrong" q (put "told" p r1) = ([("told", p), ("wrong", q)] : Nm)) :
    (puts ["told", "at", "wrong"] [p, d2, q] (put "number" c2 (put "at" d1 ((("text", a) :: ("arguments", b) :: ("number", c) :: ("at", d) :: ("found", e) :: ("octet", o) :: r1 : Nm))))) = (("text", a) :: ("arguments", b) :: ("number", c2) :: ("at", d2) :: ("found", e) :: ("octet", o) :: ([("told", p), ("wrong", q)] : Nm) : Nm) :=
  congrArg (fun z : Nm => (("text", a) :: ("arguments", b) :: ("number", c2) :: ("at", d2) :: ("found", e) :: ("octet", o) :: z : Nm)) h
theorem shape_oct {t : List UInt8} {x f : Addr} {i m : Int} {o : MV} {r1 : Nm} (h : ∀ p q, put "wrong" q (put "told" p r1) = ([("told", p), ("wrong", q)] : Nm)) :
    ∃ r, FShape t x f i m r (("text", .bytes t) :: ("arguments", .ref x) :: ("number", .int m) :: ("at", .int i) :: ("found", .ref f) :: ("octet", o) :: r1 : Nm) := ⟨_, rfl, fun o => ⟨r1, rfl, h⟩⟩
theorem C_format_all {w : World} {h₀ : Heap} (W : Wld w h₀) {n : Nat} {x dx vl lim dl : Addr} {vs : List (List UInt8)} {t out : List UInt8} {σ : St} {k : kV} (hA : ArgsAt σ x dx vl lim dl vs limNs) (hF : Fm vs 0 t out) (hz : vs.length ≤ 1000) (hvz : ∀ v ∈ vs, v.length ≤ 10000) (htz : t.length ≤ 1000000) (hoz : out.length ≤ 1000000)
    (h : ∀ σ', Grow σ σ' → k (.bytes out) σ') : CALL w h₀ (n + 4) (.ref 369) [.bytes t, .ref x] σ k := by
  refine E_369 W fun L => ?_
  (conv => whnf)
  refine fun f hf => ?_
  (conv => whnf)
  refine ⟨by show 3 ≤ 1000; decide, fun tu htu => ?_⟩
  (conv => whnf)
  refine ⟨_, by rw [St.upd_same], ?_⟩
  (conv => whnf)
  refine ⟨⟨rfl, rfl⟩, ?_⟩
  (conv => whnf)
  refine while_inv (fun m ρ σ' => ∃ (r o pre : List UInt8) (i at' : Nat), m = r.length ∧ t.drop at' = r ∧ Fm vs i r o ∧ pre ++ o = out ∧ σ' f = some (.barr pre) ∧ Grow σ σ' ∧ ∃ rest, FShape t x f at' (i + 1) rest ρ) ?_ (N := t.length) ?_
  · rintro m ρ σ' K ⟨r, o, pre, i, at', hm, hr, hFm, ho, hb, hg, hsh⟩ hK - - -
    have hK2 : ∀ ρ' σ' r' o' pre' (i' at'' : Nat), r'.length < m → t.drop at'' = r' → Fm vs i' r' o' → pre' ++ o' = out → σ' f = some (.barr pre') → Grow σ σ' → (∃ rest, FShape t x f at'' (i' + 1) rest ρ') → K .next ρ' σ' := fun ρ' σ' r' o' pre' i' at'' a b c d e f g => hK _ _ _ a ⟨r', o', pre', i', at'', rfl, b, c, d, e, f, g⟩
    clear hK
    obtain ⟨rest, hsh⟩ := hsh
    obtain ⟨rfl, hput⟩ := hsh
    cases hFm with
    | nil =>
      have hlt : decide ((at' : Int) < (t.length : Int)) = false := by
        have := List.drop_eq_nil_iff.mp hr
        simp; omega
      rw [List.append_nil] at ho
      subst ho
      (conv => whnf)
      refine ⟨by omega, ?_⟩
      (conv => whnf)
      first | refine goF1 (hlt) ?_ | refine goF2 (hlt) ?_
      (conv => whnf)
      refine ⟨_, hb, ?_⟩
      (conv => whnf)
      refine ⟨by omega, ?_⟩
      (conv => whnf)
      exact h _ hg
    | lit hc hF' =>
      rename_i c r o
      have hcl := c.toNat_lt
      have hol := congrArg List.length ho
      rw [List.length_append, List.length_cons] at hol
      obtain ⟨h1, h2, h3⟩ := drop_cons hr
      have hlt : decide ((at' : Int) < (t.length : Int)) = true := by simp; omega
      have hget : t.getD (Int.toNat (at' : Int)) 0 = c := by rw [Int.toNat_natCast]; exact h2
      have hA' := hA.grow hg
      · skip
        obtain ⟨r1, hoc, hto⟩ := hput (.int c.toNat)
        (conv => whnf)
        refine ⟨by omega, ?_⟩
        (conv => whnf)
        first | refine goT1 (hlt) ?_ | refine goT2 (hlt) ?_
        (conv => whnf)
        refine ⟨by omega, by omega, ?_⟩
        (conv => whnf)
        rw [hget, put_oct hoc]
        (conv => whnf)
        first | refine goT1 (by simp [← UInt8.toNat_inj] at hc ⊢; omega) ?_ | refine goT2 (by simp [← UInt8.toNat_inj] at hc ⊢; omega) ?_
        (conv => whnf)
        refine ⟨_, hb, ?_⟩
        (conv => whnf)
        refine ⟨_, hb, ?_⟩
        (conv => whnf)
        refine ⟨⟨⟨by omega, by omega⟩, by omega⟩, ?_⟩
        (conv => whnf)
        have hgg : Grow σ (σ'.upd f (.barr (pre ++ [Int.toNat (c.toNat : Int) |>.toUInt8]))) := grow_upd hf hg
        have hA2 := hA.grow hgg
        refine ⟨_, by rw [St.upd_same], ?_⟩
        (conv => whnf)
        refine ⟨by simp; omega, ?_⟩
        (conv => whnf)
        refine ⟨_, hA2.x, ?_⟩
        (conv => whnf)
        refine ⟨_, hA2.dx, ?_⟩
        (conv => whnf)
        refine ⟨_, hA2.lim, ?_⟩
        (conv => whnf)
        refine ⟨_, hA2.dl, ?_⟩
        (conv => whnf)
        first | refine goF1 (by simp; omega) ?_ | refine goF2 (by simp; omega) ?_
        (conv => whnf)
        refine hK2 _ _ r o _ i (at' + 1) (by rw [hm]; simp) h3 hF' ?_ (by rw [St.upd_same]) hgg ?_
        · rw [← ho]; simp
        · exact shape_oct hto
    | pct hF' =>
      rename_i r o
      have hol := congrArg List.length ho
      rw [List.length_append, List.length_cons] at hol
      obtain ⟨h1, h2, h3⟩ := drop_cons hr
      obtain ⟨h4, h5, h6⟩ := drop_cons h3
      have hlt : decide ((at' : Int) < (t.length : Int)) = true := by simp; omega
      have hlt2 : decide ((at' : Int) + 1 < (t.length : Int)) = true := by simp; omega
      have hget : t.getD (Int.toNat (at' : Int)) 0 = 37 := by rw [Int.toNat_natCast]; exact h2
      have hget2 : t.getD (Int.toNat ((at' : Int) + 1)) 0 = 37 := h5
      · skip
        obtain ⟨r1, hoc, hto⟩ := hput (.int (37 : UInt8).toNat)
        (conv => whnf)
        refine ⟨by omega, ?_⟩
        (conv => whnf)
        first | refine goT1 (hlt) ?_ | refine goT2 (hlt) ?_
        (conv => whnf)
        refine ⟨by omega, by omega, ?_⟩
        (conv => whnf)
        rw [hget, put_oct hoc]
        (conv => whnf)
        first | refine goF1 (rfl) ?_ | refine goF2 (rfl) ?_
        (conv => whnf)
        refine ⟨by omega, ?_⟩
        (conv => whnf)
        first | refine goT1 (hlt2) ?_ | refine goT2 (hlt2) ?_
        (conv => whnf)
        refine ⟨by omega, by omega, ?_⟩
        (conv => whnf)
        rw [hget2]
        first | refine goT1 (rfl) ?_ | refine goT2 (rfl) ?_
        (conv => whnf)
        first | refine goT1 (rfl) ?_ | refine goT2 (rfl) ?_
        (conv => whnf)
        refine ⟨_, hb, ?_⟩
        (conv => whnf)
        refine ⟨_, hb, ?_⟩
        (conv => whnf)
        refine ⟨⟨⟨by decide, by decide⟩, by omega⟩, ?_⟩
        (conv => whnf)
        have hgg : Grow σ (σ'.upd f (.barr (pre ++ [37]))) := grow_upd hf hg
        have hA2 := hA.grow hgg
        refine ⟨_, by rw [St.upd_same], ?_⟩
        (conv => whnf)
        refine ⟨by simp; omega, ?_⟩
        (conv => whnf)
        refine ⟨_, hA2.x, ?_⟩
        (conv => whnf)
        refine ⟨_, hA2.dx, ?_⟩
        (conv => whnf)
        refine ⟨_, hA2.lim, ?_⟩
        (conv => whnf)
        refine ⟨_, hA2.dl, ?_⟩
        (conv => whnf)
        first | refine goF1 (by simp; omega) ?_ | refine goF2 (by simp; omega) ?_
        (conv => whnf)
        refine hK2 _ _ r o _ i (at' + 1 + 1) (by rw [hm]; simp; omega) h6 hF' ?_ (by rw [St.upd_same]) hgg ?_
        · rw [← ho]; simp
        · exact shape_oct hto
    | q hv hF' =>
      rename_i v r o
      obtain ⟨h1, h2, h3⟩ := drop_cons hr
      obtain ⟨h4, h5, h6⟩ := drop_cons h3
      have hvl := hvz v (List.mem_of_getElem? hv)
      have hol := congrArg List.length ho
      rw [List.length_append, List.length_append] at hol
      have hlt : decide ((at' : Int) < (t.length : Int)) = true := by simp; omega
      have hlt2 : decide ((at' : Int) + 1 < (t.length : Int)) = true := by simp; omega
      have hget : t.getD (Int.toNat (at' : Int)) 0 = 37 := by rw [Int.toNat_natCast]; exact h2
      have hget2 : t.getD (Int.toNat ((at' : Int) + 1)) 0 = 113 := h5
      · skip
        obtain ⟨r1, hoc, hto⟩ := hput (.int (37 : UInt8).toNat)
        (conv => whnf)
        refine ⟨by omega, ?_⟩
        (conv => whnf)
        first | refine goT1 (hlt) ?_ | refine goT2 (hlt) ?_
        (conv => whnf)
        refine ⟨by omega, by omega, ?_⟩
        (conv => whnf)
        rw [hget, put_oct hoc]
        (conv => whnf)
        first | refine goF1 (rfl) ?_ | refine goF2 (rfl) ?_
        (conv => whnf)
        refine ⟨by omega, ?_⟩
        (conv => whnf)
        first | refine goT1 (hlt2) ?_ | refine goT2 (hlt2) ?_
        (conv => whnf)
        refine ⟨by omega, by omega, ?_⟩
        (conv => whnf)
        rw [hget2]
        first | refine goF1 (rfl) ?_ | refine goF2 (rfl) ?_
        (conv => whnf)
        first | refine goF1 (rfl) ?_ | refine goF2 (rfl) ?_
        (conv => whnf)
        refine C_read_directive W (i := at' + 1) (by omega) (by omega) h5 fun a y dy σ1 g1 ha1 hy hdy => ?_
        (conv => whnf)
        refine ⟨_, ha1, ?_⟩
        (conv => whnf)
        refine ⟨rfl, ?_⟩
        (conv => whnf)
        rw [put_told (hto _ _)]
        (conv => whnf)
        refine ⟨fun u e => (by cases e), ?_⟩
        (conv => whnf)
        first | refine goF1 (rfl) ?_ | refine goF2 (rfl) ?_
        (conv => whnf)
        have g2 : Grow σ σ1 := hg.trans g1
        refine ⟨_, g1 _ _ hb, ?_⟩
        have e2 : (i : Int) + 1 + 1 = i + 2 := by omega
        (conv => whnf)
        rw [e2]
        refine C_item W (hA.grow g2) hv hz hvl hy hdy fun σ2 g3 => ?_
        have hb2 := g3 _ _ (g1 _ _ hb)
        have g4 := g2.trans g3
        (conv => whnf)
        refine ⟨_, hb2, ?_⟩
        (conv => whnf)
        refine ⟨by omega, ?_⟩
        (conv => whnf)
        have hgg : Grow σ (σ2.upd f (.barr (pre ++ quoteV v))) := grow_upd hf g4
        have hA2 := hA.grow hgg
        refine ⟨_, by rw [St.upd_same], ?_⟩
        (conv => whnf)
        refine ⟨by simp; omega, ?_⟩
        (conv => whnf)
        refine ⟨_, hA2.x, ?_⟩
        (conv => whnf)
        refine ⟨_, hA2.dx, ?_⟩
        (conv => whnf)
        refine ⟨_, hA2.lim, ?_⟩
        (conv => whnf)
        refine ⟨_, hA2.dl, ?_⟩
        (conv => whnf)
        first | refine goF1 (by simp; omega) ?_ | refine goF2 (by simp; omega) ?_
        (conv => whnf)
        refine hK2 _ _ r o _ (i + 1) (at' + 1 + 1) (by rw [hm]; simp; omega) h6 hF' ?_ (by rw [St.upd_same]) hgg ?_
        · rw [← ho]; simp
        · have e3 : ((i + 1 : Nat) : Int) + 1 = i + 2 := by omega
          rw [e3]
          exact shape_oct fun _ _ => rfl
  · exact ⟨t, out, [], 0, 0, rfl, rfl, hF, rfl, by rw [St.upd_ne, St.upd_same]; intro e; rw [e] at htu; simp at htu, (Grow.upd hf).trans (Grow.upd htu), ⟨[], rfl, fun o => ⟨[], rfl, fun _ _ => rfl⟩⟩⟩

end Mine

end
section
open PySem PySem.W PyProof.Rows PySem.Calls
set_option maxHeartbeats 4000000
set_option linter.unusedVariables false
set_option linter.unusedSimpArgs false
namespace Mine
open MineK
open PySem.Challenge (pw_xm0629_01 rw_xm0629_01)
/-! ## format_values -/
theorem C_format_values {w : World} {h₀ : Heap} (W : Wld w h₀) {n : Nat} {vl lim dl : Addr} {vs : List (List UInt8)} {t out : List UInt8} {σ : St} {k : kV} (h1 : σ vl = some (.list (vs.map .bytes))) (h2 : σ lim = some (.inst 53 dl)) (h3 : σ dl = some (.ns limNs)) (hF : Fm vs 0 t out) (hz : vs.length ≤ 1000) (hvz : ∀ v ∈ vs, v.length ≤ 10000) (htz : t.length ≤ 1000000) (hoz : out.length ≤ 1000000)
    (h : ∀ σ', Grow σ σ' → k (.bytes out) σ') : CALL w h₀ (n + 5) (.ref 376) [.bytes t, .ref vl, .ref lim] σ k := by
  refine E_376 W fun L => ?_
  (conv => whnf)
  refine C_plainArgs W fun x dx hx hdx hne => ?_
  (conv => whnf)
  have g : Grow σ ((σ.upd dx (.ns [("values", .ref vl), ("limits", .ref lim)])).upd x (.inst 351 dx)) := grow_upd hx (Grow.upd hdx)
  refine C_format_all W (dx := dx) (vl := vl) (lim := lim) (dl := dl) (vs := vs) (out := out) ⟨by rw [St.upd_same], by rw [St.upd_ne (Ne.symm hne), St.upd_same], g _ _ h1, g _ _ h2, g _ _ h3⟩ hF hz hvz htz hoz fun σ' g' => ?_
  (conv => whnf)
  exact h σ' (g.trans g')

end Mine

end
section
open PySem PySem.W PyProof.Rows PySem.Calls
set_option maxHeartbeats 4000000
set_option linter.unusedVariables false
set_option linter.unusedSimpArgs false
namespace Mine
open MineK
open PySem.Challenge (pw_xm0629_01 rw_xm0629_01)
/-! ## The lexer's state -/
/-- what stands but the lexer's own dict and the bytearrays -/
noncomputable def Kp (dx : Addr) (σ σ' : St) : Prop := ∀ a o, σ a = some o → a ≠ dx → (∀ b, o ≠ .barr b) → σ' a = some o
theorem Kp.refl (dx : Addr) (σ : St) : Kp dx σ σ := fun _ _ e _ _ => e
theorem Kp.trans {dx : Addr} {a b c : St} (h : Kp dx a b) (k : Kp dx b c) : Kp dx a c := fun x o e n m => k x o (h x o e n m) n m
theorem Kp.grow {dx : Addr} {a b : St} (h : Grow a b) : Kp dx a b := fun x o e _ _ => h x o e
theorem Kp.upd_dx {dx : Addr} {σ : St} {o : MObj} : Kp dx σ (σ.upd dx o) := fun x p e n _ => by rw [St.upd_ne n]; exact e
theorem Kp.upd_barr {dx a : Addr} {σ : St} {b : List UInt8} {o : MObj} (h : σ a = some (.barr b)) : Kp dx σ (σ.upd a o) := fun x p e n m => by
  rw [St.upd_ne fun q => by rw [q, h] at e; cases e; exact m b rfl]; exact e
structure LX where
  t : List UInt8
  src : MV
  chk : MV
  lim : Addr
  kd : Addr
  at' : Nat
  line : Nat
  last : Nat
  buf : Addr
  cur : MV
noncomputable def hd (r : List UInt8) : Int := match r with | [] => -1 | c :: _ => c.toNat
noncomputable def lexNs (l : LX) : Nm := [("text", .bytes l.t), ("source", l.src), ("chunk", l.chk), ("limits", .ref l.lim), ("kinds", .ref l.kd), ("at", .int l.at'), ("sign", .int (hd (l.t.drop l.at'))), ("line", .int l.line), ("last_line", .int l.last), ("buffer", .ref l.buf), ("current", l.cur), ("ahead", .none)]
/-- the kinds of the reserved words -/
noncomputable def resWords : List (List UInt8) := [[97, 110, 100], [98, 114, 101, 97, 107], [100, 111], [101, 108, 115, 101], [101, 108, 115, 101, 105, 102], [101, 110, 100], [102, 97, 108, 115, 101], [102, 111, 114], [102, 117, 110, 99, 116, 105, 111, 110], [105, 102], [105, 110], [108, 111, 99, 97, 108], [110, 105, 108], [110, 111, 116], [111, 114], [114, 101, 112, 101, 97, 116], [114, 101, 116, 117, 114, 110], [116, 104, 101, 110], [116, 114, 117, 101], [117, 110, 116, 105, 108], [119, 104, 105, 108, 101]]
noncomputable def kindFrom : Nat → List (List UInt8) → (List UInt8 → Option MV) → List UInt8 → Option MV
  | _, [], f => f
  | i, b :: r, f => kindFrom (i + 1) r fun y => if y = b then some (.int ((257 : Int) + (i : Int))) else f y
noncomputable def kindF : List UInt8 → Option MV := kindFrom 0 resWords fun _ => none
structure LexAt (w : World) (σ : St) (x dx : Addr) (l : LX) (B : List UInt8) : Prop where
  hx : σ x = some (.inst 661 dx)
  hdx : σ dx = some (.ns (lexNs l))
  hbuf : σ l.buf = some (.barr B)
  hlim : ∃ dl, σ l.lim = some (.inst 53 dl) ∧ σ dl = some (.ns limNs) ∧ dl ≠ dx
  hkd : ∃ o n, σ l.kd = some (.raw o) ∧ l.kd ≠ sysModules ∧ IsKD w o kindF n
  bufz : B.length ≤ 200000
  linz : l.line ≤ l.at' + 1
  tz : l.t.length ≤ 100000
  atz : l.at' ≤ l.t.length
theorem LexAt.setDx {w : World} {σ : St} {x dx : Addr} {l l' : LX} {B : List UInt8} (h : LexAt w σ x dx l B) (e1 : l'.t = l.t) (e2 : l'.lim = l.lim) (e3 : l'.buf = l.buf) (e4 : l'.kd = l.kd) (h2 : l'.line ≤ l'.at' + 1) (h3 : l'.at' ≤ l'.t.length) : LexAt w (σ.upd dx (.ns (lexNs l'))) x dx l' B where
  hx := by rw [St.upd_ne]; exact h.hx; intro e; have := h.hx; rw [e, h.hdx] at this; cases this
  hdx := by rw [St.upd_same]
  hbuf := by rw [e3, St.upd_ne]; exact h.hbuf; intro e; have := h.hbuf; rw [e, h.hdx] at this; cases this
  hlim := by
    obtain ⟨dl, q1, q2, q3⟩ := h.hlim
    refine ⟨dl, ?_, by rw [St.upd_ne q3]; exact q2, q3⟩
    rw [e2, St.upd_ne]; exact q1
    intro e; rw [e, h.hdx] at q1; cases q1
  hkd := by
    obtain ⟨o, n, q1, q2⟩ := h.hkd
    refine ⟨o, n, ?_, by rw [e4]; exact q2⟩
    rw [e4, St.upd_ne]; exact q1
    intro e; rw [e, h.hdx] at q1; cases q1
  bufz := h.bufz
  linz := h2
  tz := by rw [e1]; exact h.tz
  atz := h3
theorem LexAt.setDx2 {w : World} {σ : St} {x dx : Addr} {l l' : LX} {B : List UInt8} {fs : Nm} (h : LexAt w σ x dx l B) (e : fs = lexNs l') (e1 : l'.t = l.t) (e2 : l'.lim = l.lim) (e3 : l'.buf = l.buf) (e4 : l'.kd = l.kd) (h2 : l'.line ≤ l'.at' + 1) (h3 : l'.at' ≤ l'.t.length) : LexAt w (σ.upd dx (.ns fs)) x dx l' B := by
  rw [e]; exact h.setDx e1 e2 e3 e4 h2 h3
theorem LexAt.setBuf {w : World} {σ : St} {x dx : Addr} {l : LX} {B B' : List UInt8} (h : LexAt w σ x dx l B) (hB : B'.length ≤ 200000) : LexAt w (σ.upd l.buf (.barr B')) x dx l B' where
  hx := by rw [St.upd_ne]; exact h.hx; intro e; have := h.hx; rw [e, h.hbuf] at this; cases this
  hdx := by rw [St.upd_ne]; exact h.hdx; intro e; have := h.hdx; rw [e, h.hbuf] at this; cases this
  hbuf := by rw [St.upd_same]
  hlim := by
    obtain ⟨dl, q1, q2, q3⟩ := h.hlim
    refine ⟨dl, ?_, ?_, q3⟩
    · rw [St.upd_ne]; exact q1; intro e; rw [e, h.hbuf] at q1; cases q1
    · rw [St.upd_ne]; exact q2; intro e; rw [e, h.hbuf] at q2; cases q2
  hkd := by
    obtain ⟨o, n, q1, q2⟩ := h.hkd
    refine ⟨o, n, ?_, q2⟩
    rw [St.upd_ne]; exact q1
    intro e; rw [e, h.hbuf] at q1; cases q1
  bufz := hB
  linz := h.linz
  tz := h.tz
  atz := h.atz
theorem LexAt.grow {w : World} {σ σ' : St} {x dx : Addr} {l : LX} {B : List UInt8} (h : LexAt w σ x dx l B) (g : Grow σ σ') : LexAt w σ' x dx l B where
  hx := g _ _ h.hx
  hdx := g _ _ h.hdx
  hbuf := g _ _ h.hbuf
  hlim := by obtain ⟨dl, q1, q2, q3⟩ := h.hlim; exact ⟨dl, g _ _ q1, g _ _ q2, q3⟩
  hkd := by obtain ⟨o, n, q1, q2⟩ := h.hkd; exact ⟨o, n, g _ _ q1, q2⟩
  bufz := h.bufz
  linz := h.linz
  tz := h.tz
  atz := h.atz
theorem LexAt.ne {w : World} {σ : St} {x dx : Addr} {l : LX} {B : List UInt8} (h : LexAt w σ x dx l B) : x ≠ dx := by intro e; have := h.hx; rw [e, h.hdx] at this; cases this
/-! ### move -/
noncomputable def LX.mv (l : LX) (d : Nat) : LX := { l with at' := l.at' + d }
theorem hd_drop_cons {t r : List UInt8} {c : UInt8} {i : Nat} (h : t.drop i = c :: r) : hd (t.drop i) = c.toNat := by rw [h]; rfl
theorem hd_getD {t : List UInt8} {i : Nat} (h : i < t.length) : hd (t.drop i) = (t.getD i 0).toNat := by
  rw [List.drop_eq_getElem_cons h]; simp [hd, List.getD, h]
theorem C_move {w : World} {h₀ : Heap} (W : Wld w h₀) {n : Nat} {x dx : Addr} {l : LX} {B : List UInt8} {σ : St} {k : kV} (H : LexAt w σ x dx l B) (hi : l.at' < l.t.length)
    (h : ∀ σ', Kp dx σ σ' → LexAt w σ' x dx (l.mv 1) B → k .none σ') : CALL w h₀ (n + 1) (.ref 518) [.ref x] σ k := by
  have htz := H.tz
  refine E_518 W fun L => ?_
  (conv => whnf)
  refine ⟨_, H.hx, ?_⟩
  (conv => whnf)
  refine ⟨_, H.hdx, ?_⟩
  (conv => whnf)
  refine ⟨_, H.hx, ?_⟩
  (conv => whnf)
  refine ⟨_, H.hdx, ?_⟩
  (conv => whnf)
  refine ⟨by show 12 ≤ 1000; decide, ?_⟩
  (conv => whnf)
  refine ⟨_, by rw [St.upd_ne H.ne]; exact H.hx, ?_⟩
  (conv => whnf)
  refine ⟨_, by rw [St.upd_same], ?_⟩
  (conv => whnf)
  refine ⟨_, by rw [St.upd_ne H.ne]; exact H.hx, ?_⟩
  (conv => whnf)
  refine ⟨_, by rw [St.upd_same], ?_⟩
  (conv => whnf)
  refine ⟨by omega, ?_⟩
  (conv => whnf)
  have hb := H.bufz
  have hl := H.linz
  rcases Nat.lt_or_ge (l.at' + 1) l.t.length with hq | hq
  · first | refine goT1 (by simp; omega) ?_ | refine goT2 (by simp; omega) ?_
    (conv => whnf)
    refine ⟨_, by rw [St.upd_ne H.ne]; exact H.hx, ?_⟩
    (conv => whnf)
    refine ⟨_, by rw [St.upd_same], ?_⟩
    (conv => whnf)
    refine ⟨_, by rw [St.upd_ne H.ne]; exact H.hx, ?_⟩
    (conv => whnf)
    refine ⟨_, by rw [St.upd_same], ?_⟩
    (conv => whnf)
    refine ⟨by omega, by omega, ?_⟩
    (conv => whnf)
    refine ⟨_, by rw [St.upd_ne H.ne]; exact H.hx, ?_⟩
    (conv => whnf)
    refine ⟨_, by rw [St.upd_same], ?_⟩
    (conv => whnf)
    refine ⟨by show 12 ≤ 1000; decide, ?_⟩
    (conv => whnf)
    rw [St.upd_upd]
    have hs := hd_getD hq
    refine h _ Kp.upd_dx (H.setDx2 ?_ rfl rfl rfl rfl ?_ ?_)
    · show _ = lexNs (l.mv 1)
      unfold lexNs LX.mv
      simp only [hs]
      rfl
    all_goals simp only [LX.mv]; omega
  · first | refine goF1 (by simp; omega) ?_ | refine goF2 (by simp; omega) ?_
    (conv => whnf)
    refine ⟨_, by rw [St.upd_ne H.ne]; exact H.hx, ?_⟩
    (conv => whnf)
    refine ⟨_, by rw [St.upd_same], ?_⟩
    (conv => whnf)
    refine ⟨by show 12 ≤ 1000; decide, ?_⟩
    (conv => whnf)
    rw [St.upd_upd]
    have hs : hd (List.drop (l.at' + 1) l.t) = -1 := by rw [List.drop_eq_nil_of_le hq]; rfl
    refine h _ Kp.upd_dx (H.setDx2 ?_ rfl rfl rfl rfl ?_ ?_)
    · show _ = lexNs (l.mv 1)
      unfold lexNs LX.mv
      simp only [hs]
      rfl
    all_goals simp only [LX.mv]; omega

end Mine

end
section
open PySem PySem.W PyProof.Rows PySem.Calls
set_option maxHeartbeats 4000000
set_option linter.unusedVariables false
set_option linter.unusedSimpArgs false
namespace Mine
open MineK
open PySem.Challenge (pw_xm0629_01 rw_xm0629_01)
theorem C_keep {w : World} {h₀ : Heap} (W : Wld w h₀) {n : Nat} {x dx : Addr} {l : LX} {B : List UInt8} {i : Int} {σ : St} {k : kV} (H : LexAt w σ x dx l B) (hi : 0 ≤ i ∧ i < 256) (hB : B.length ≤ 150000)
    (h : ∀ σ', Kp dx σ σ' → LexAt w σ' x dx l (B ++ [i.toNat.toUInt8]) → k .none σ') : CALL w h₀ (n + 1) (.ref 525) [.ref x, .int i] σ k := by
  obtain ⟨dl, q1, q2, q3⟩ := H.hlim
  refine E_525 W fun L => ?_
  (conv => whnf)
  refine ⟨_, H.hx, ?_⟩
  (conv => whnf)
  refine ⟨_, H.hdx, ?_⟩
  (conv => whnf)
  refine ⟨_, H.hbuf, ?_⟩
  (conv => whnf)
  refine ⟨by omega, ?_⟩
  (conv => whnf)
  refine ⟨_, H.hx, ?_⟩
  (conv => whnf)
  refine ⟨_, H.hdx, ?_⟩
  (conv => whnf)
  refine ⟨_, q1, ?_⟩
  (conv => whnf)
  refine ⟨_, q2, ?_⟩
  (conv => whnf)
  first | refine goF1 (by simp; omega) ?_ | refine goF2 (by simp; omega) ?_
  (conv => whnf)
  refine ⟨_, H.hx, ?_⟩
  (conv => whnf)
  refine ⟨_, H.hdx, ?_⟩
  (conv => whnf)
  refine ⟨_, H.hbuf, ?_⟩
  (conv => whnf)
  refine ⟨_, H.hbuf, ?_⟩
  (conv => whnf)
  refine ⟨⟨hi, by omega⟩, ?_⟩
  (conv => whnf)
  exact h _ (Kp.upd_barr H.hbuf) (H.setBuf (by simp; omega))
theorem C_keep_and_move {w : World} {h₀ : Heap} (W : Wld w h₀) {n : Nat} {x dx : Addr} {l : LX} {B : List UInt8} {c : UInt8} {r : List UInt8} {σ : St} {k : kV} (H : LexAt w σ x dx l B) (hr : l.t.drop l.at' = c :: r) (hB : B.length ≤ 150000)
    (h : ∀ σ', Kp dx σ σ' → LexAt w σ' x dx (l.mv 1) (B ++ [c]) → k .none σ') : CALL w h₀ (n + 2) (.ref 532) [.ref x] σ k := by
  obtain ⟨h1, h2, h3⟩ := drop_cons hr
  have hc := c.toNat_lt
  refine E_532 W fun L => ?_
  (conv => whnf)
  refine ⟨_, H.hx, ?_⟩
  (conv => whnf)
  refine ⟨_, H.hdx, ?_⟩
  (conv => whnf)
  refine ⟨_, H.hx, ?_⟩
  (conv => whnf)
  refine ⟨_, H.hdx, ?_⟩
  (conv => whnf)
  have hs := hd_drop_cons hr
  rw [hs]
  refine C_keep W H ⟨by omega, by omega⟩ hB fun σ1 k1 H1 => ?_
  (conv => whnf)
  refine ⟨_, H1.hx, ?_⟩
  (conv => whnf)
  refine ⟨_, H1.hdx, ?_⟩
  (conv => whnf)
  refine C_move W H1 h1 fun σ2 k2 H2 => ?_
  (conv => whnf)
  have e : (Int.toNat (c.toNat : Int)).toUInt8 = c := by simp
  rw [e] at H2
  exact h σ2 (k1.trans k2) H2
noncomputable def kifL (ns : List Int) (i : Int) : Bool := ns.any (· == i)
theorem C_keep_if {w : World} {h₀ : Heap} (W : Wld w h₀) {n : Nat} {x dx tu : Addr} {l : LX} {B : List UInt8} {ns : List Int} {σ : St} {k : kV} (H : LexAt w σ x dx l B) (hB : B.length ≤ 150000) (ht : σ tu = some (.tuple (ns.map .int))) (hneg : ∀ n ∈ ns, 0 ≤ n)
    (h1 : kifL ns (hd (l.t.drop l.at')) = false → k (.bool false) σ)
    (h2 : ∀ c r, l.t.drop l.at' = c :: r → kifL ns c.toNat = true → ∀ σ', Kp dx σ σ' → LexAt w σ' x dx (l.mv 1) (B ++ [c]) → k (.bool true) σ') : CALL w h₀ (n + 3) (.ref 539) [.ref x, .ref tu] σ k := by
  refine E_539 W fun L => ?_
  (conv => whnf)
  refine ⟨_, H.hx, ?_⟩
  (conv => whnf)
  refine ⟨_, H.hdx, ?_⟩
  (conv => whnf)
  refine ⟨_, ht, ?_⟩
  (conv => whnf)
  cases hq : kifL ns (hd (l.t.drop l.at')) with
  | false =>
    first | refine goT1 (by show (!(kifL ns _)) = true; rw [hq]; rfl) ?_ | refine goT2 (by show (!(kifL ns _)) = true; rw [hq]; rfl) ?_
    (conv => whnf)
    exact h1 hq
  | true =>
    first | refine goF1 (by show (!(kifL ns _)) = false; rw [hq]; rfl) ?_ | refine goF2 (by show (!(kifL ns _)) = false; rw [hq]; rfl) ?_
    (conv => whnf)
    cases hr : l.t.drop l.at' with
    | nil =>
      exfalso
      rw [hr] at hq
      obtain ⟨m, hm, e⟩ := List.any_eq_true.mp hq
      have := hneg m hm
      have e' : m = -1 := by simpa [hd] using e
      omega
    | cons c r =>
      refine ⟨_, H.hx, ?_⟩
      (conv => whnf)
      refine ⟨_, H.hdx, ?_⟩
      (conv => whnf)
      refine C_keep_and_move W H hr hB fun σ' k1 H' => ?_
      (conv => whnf)
      rw [hr] at hq
      exact h2 c r hr hq σ' k1 H'
theorem LexAt.setClear {w : World} {σ : St} {x dx b : Addr} {l l' : LX} {B : List UInt8} {fs : Nm} (h : LexAt w σ x dx l B) (hb : σ b = none) (e : fs = lexNs l') (e' : l' = { l with buf := b }) : LexAt w ((σ.upd b (.barr [])).upd dx (.ns fs)) x dx l' [] := by
  subst e'
  subst e
  have g := Grow.upd (o := .barr []) hb
  have hbd : b ≠ dx := by intro e; have := h.hdx; rw [← e, hb] at this; cases this
  obtain ⟨dl, q1, q2, q3⟩ := h.hlim
  obtain ⟨o, n, p1, p2⟩ := h.hkd
  refine ⟨?_, by rw [St.upd_same], ?_, ⟨dl, ?_, ?_, q3⟩, ⟨o, n, ?_, p2⟩, by simp, h.linz, h.tz, h.atz⟩
  · rw [St.upd_ne h.ne]; exact g _ _ h.hx
  · show ((σ.upd b (.barr [])).upd dx _) b = _
    rw [St.upd_ne hbd, St.upd_same]
  · show ((σ.upd b (.barr [])).upd dx _) l.lim = _
    rw [St.upd_ne]; exact g _ _ q1
    intro e; rw [e, h.hdx] at q1; cases q1
  · rw [St.upd_ne q3]; exact g _ _ q2
  · show ((σ.upd b (.barr [])).upd dx _) l.kd = _
    rw [St.upd_ne]; exact g _ _ p1
    intro e; rw [e, h.hdx] at p1; cases p1
theorem C_clear {w : World} {h₀ : Heap} (W : Wld w h₀) {n : Nat} {x dx : Addr} {l : LX} {B : List UInt8} {σ : St} {k : kV} (H : LexAt w σ x dx l B)
    (h : ∀ σ' b, Kp dx σ σ' → LexAt w σ' x dx { l with buf := b } [] → k .none σ') : CALL w h₀ (n + 1) (.ref 546) [.ref x] σ k := by
  refine E_546 W fun L => ?_
  (conv => whnf)
  refine fun b hb => ?_
  (conv => whnf)
  refine ⟨_, Grow.upd hb _ _ H.hx, ?_⟩
  (conv => whnf)
  refine ⟨_, Grow.upd hb _ _ H.hdx, ?_⟩
  (conv => whnf)
  refine ⟨by show 12 ≤ 1000; decide, ?_⟩
  (conv => whnf)
  exact h _ b ((Kp.grow (Grow.upd hb)).trans Kp.upd_dx) (H.setClear hb rfl rfl)

end Mine

end
section
open PySem PySem.W PyProof.Rows PySem.Calls
set_option maxHeartbeats 4000000
set_option linter.unusedVariables false
set_option linter.unusedSimpArgs false
namespace Mine
open MineK
open PySem.Challenge (pw_xm0629_01 rw_xm0629_01)
/-- how far a line's end reaches -/
noncomputable def eolN (c : UInt8) (r : List UInt8) : Nat := match r with
  | [] => 1
  | d :: _ => if isNL d.toNat = true ∧ d ≠ c then 2 else 1
noncomputable def LX.nl (l : LX) (d : Nat) : LX := { l with at' := l.at' + d, line := l.line + 1 }
theorem C_end_line {w : World} {h₀ : Heap} (W : Wld w h₀) {n : Nat} {x dx : Addr} {l : LX} {B : List UInt8} {c : UInt8} {r : List UInt8} {σ : St} {k : kV} (H : LexAt w σ x dx l B) (hr : l.t.drop l.at' = c :: r)
    (h : ∀ σ', Kp dx σ σ' → LexAt w σ' x dx (l.nl (eolN c r)) B → k .none σ') : CALL w h₀ (n + 2) (.ref 553) [.ref x] σ k := by
  obtain ⟨h1, h2, h3⟩ := drop_cons hr
  have hs := hd_drop_cons hr
  have hl := H.linz
  have hz := H.tz
  refine E_553 W fun L => ?_
  (conv => whnf)
  refine ⟨_, H.hx, ?_⟩
  (conv => whnf)
  refine ⟨_, H.hdx, ?_⟩
  (conv => whnf)
  refine ⟨_, H.hx, ?_⟩
  (conv => whnf)
  refine ⟨_, H.hdx, ?_⟩
  (conv => whnf)
  refine C_move W H h1 fun σ1 k1 H1 => ?_
  (conv => whnf)
  refine ⟨_, H1.hx, ?_⟩
  (conv => whnf)
  refine ⟨_, H1.hdx, ?_⟩
  (conv => whnf)
  refine C_newline W fun σ2 g2 => ?_
  have H2 := H1.grow g2
  have k2 := k1.trans (Kp.grow g2)
  have ht2 : (l.mv 1).t.drop (l.mv 1).at' = r := h3
  by_cases hq : isNL (hd r) = true ∧ (hd r) ≠ c.toNat
  · match r, hq, hr, h3, ht2, h with
    | [], hq, _, _, _, _ => simp [hd, isNL] at hq
    | d :: r', hq, hr, h3, ht2, h =>
    obtain ⟨q1, q2⟩ := hq
    obtain ⟨h4, h5, h6⟩ := drop_cons h3
    first | refine goT1 (by show isNL (hd ((l.mv 1).t.drop (l.mv 1).at')) = true; rw [ht2]; exact q1) ?_ | refine goT2 (by show isNL (hd ((l.mv 1).t.drop (l.mv 1).at')) = true; rw [ht2]; exact q1) ?_
    (conv => whnf)
    refine ⟨_, H2.hx, ?_⟩
    (conv => whnf)
    refine ⟨_, H2.hdx, ?_⟩
    (conv => whnf)
    first | refine goT1 (by simp; show ¬ hd ((l.mv 1).t.drop (l.mv 1).at') = hd (l.t.drop l.at'); rw [ht2, hs]; exact q2) ?_ | refine goT2 (by simp; show ¬ hd ((l.mv 1).t.drop (l.mv 1).at') = hd (l.t.drop l.at'); rw [ht2, hs]; exact q2) ?_
    (conv => whnf)
    first | refine goT1 (rfl) ?_ | refine goT2 (rfl) ?_
    (conv => whnf)
    refine ⟨_, H2.hx, ?_⟩
    (conv => whnf)
    refine ⟨_, H2.hdx, ?_⟩
    (conv => whnf)
    refine C_move W H2 h4 fun σ3 k3 H3 => ?_
    (conv => whnf)
    refine ⟨_, H3.hx, ?_⟩
    (conv => whnf)
    refine ⟨_, H3.hdx, ?_⟩
    (conv => whnf)
    refine ⟨_, H3.hx, ?_⟩
    (conv => whnf)
    refine ⟨_, H3.hdx, ?_⟩
    (conv => whnf)
    refine ⟨by show 12 ≤ 1000; decide, ?_⟩
    (conv => whnf)
    have he : eolN c (d :: r') = 2 := by
      show (if isNL d.toNat = true ∧ d ≠ c then 2 else 1) = 2
      rw [if_pos]
      refine ⟨q1, fun e => q2 ?_⟩
      rw [e]; rfl
    have H4 := H3.setDx2 (l' := l.nl (eolN c (d :: r'))) (fs := put "line" (.int ((l.line : Int) + 1)) (lexNs ((l.mv 1).mv 1))) (by rw [he]; rfl) rfl rfl rfl rfl (by rw [he]; simp only [LX.nl]; omega) (by rw [he]; simp only [LX.nl]; omega)
    refine ⟨_, H4.hx, ?_⟩
    (conv => whnf)
    refine ⟨_, H4.hdx, ?_⟩
    (conv => whnf)
    first | refine goF1 (by simp; show (((l.line + 1 : Nat) : Int)) < _; omega) ?_ | refine goF2 (by simp; show (((l.line + 1 : Nat) : Int)) < _; omega) ?_
    (conv => whnf)
    exact h _ ((k2.trans k3).trans Kp.upd_dx) H4
  · have he : eolN c r = 1 := by
      unfold eolN
      split
      · rfl
      · rename_i d r'
        rw [if_neg]
        intro ⟨p1, p2⟩
        refine hq ⟨p1, fun e => p2 ?_⟩
        rw [← UInt8.toNat_inj]
        have e' : ((d.toNat : Nat) : Int) = c.toNat := e
        omega
    have last : ∀ σ3, Kp dx σ σ3 → LexAt w σ3 x dx (l.mv 1) B → ∀ P : Prop, True := fun _ _ _ _ => trivial
    have H4 := H2.setDx2 (l' := l.nl (eolN c r)) (fs := put "line" (.int ((l.line : Int) + 1)) (lexNs (l.mv 1))) (by rw [he]; rfl) rfl rfl rfl rfl (by rw [he]; simp only [LX.nl]; omega) (by rw [he]; simp only [LX.nl]; omega)
    by_cases q1 : isNL (hd r) = true
    · have q2 : hd r = c.toNat := by
        rcases Decidable.em (hd r = (c.toNat : Int)) with e | e
        · exact e
        · exact absurd ⟨q1, e⟩ hq
      first | refine goT1 (by show isNL (hd ((l.mv 1).t.drop (l.mv 1).at')) = true; rw [ht2]; exact q1) ?_ | refine goT2 (by show isNL (hd ((l.mv 1).t.drop (l.mv 1).at')) = true; rw [ht2]; exact q1) ?_
      (conv => whnf)
      refine ⟨_, H2.hx, ?_⟩
      (conv => whnf)
      refine ⟨_, H2.hdx, ?_⟩
      (conv => whnf)
      first | refine goF1 (by simp; show hd ((l.mv 1).t.drop (l.mv 1).at') = hd (l.t.drop l.at'); rw [ht2, hs]; exact q2) ?_ | refine goF2 (by simp; show hd ((l.mv 1).t.drop (l.mv 1).at') = hd (l.t.drop l.at'); rw [ht2, hs]; exact q2) ?_
      (conv => whnf)
      first | refine goF1 (rfl) ?_ | refine goF2 (rfl) ?_
      (conv => whnf)
      refine ⟨_, H2.hx, ?_⟩
      (conv => whnf)
      refine ⟨_, H2.hdx, ?_⟩
      (conv => whnf)
      refine ⟨_, H2.hx, ?_⟩
      (conv => whnf)
      refine ⟨_, H2.hdx, ?_⟩
      (conv => whnf)
      refine ⟨by show 12 ≤ 1000; decide, ?_⟩
      (conv => whnf)
      refine ⟨_, H4.hx, ?_⟩
      (conv => whnf)
      refine ⟨_, H4.hdx, ?_⟩
      (conv => whnf)
      first | refine goF1 (by simp; show (((l.line + 1 : Nat) : Int)) < _; omega) ?_ | refine goF2 (by simp; show (((l.line + 1 : Nat) : Int)) < _; omega) ?_
      (conv => whnf)
      exact h _ (k2.trans Kp.upd_dx) H4
    · first | refine goF1 (by show isNL (hd ((l.mv 1).t.drop (l.mv 1).at')) = false; rw [ht2]; simpa using q1) ?_ | refine goF2 (by show isNL (hd ((l.mv 1).t.drop (l.mv 1).at')) = false; rw [ht2]; simpa using q1) ?_
      (conv => whnf)
      first | refine goF1 (rfl) ?_ | refine goF2 (rfl) ?_
      (conv => whnf)
      refine ⟨_, H2.hx, ?_⟩
      (conv => whnf)
      refine ⟨_, H2.hdx, ?_⟩
      (conv => whnf)
      refine ⟨_, H2.hx, ?_⟩
      (conv => whnf)
      refine ⟨_, H2.hdx, ?_⟩
      (conv => whnf)
      refine ⟨by show 12 ≤ 1000; decide, ?_⟩
      (conv => whnf)
      refine ⟨_, H4.hx, ?_⟩
      (conv => whnf)
      refine ⟨_, H4.hdx, ?_⟩
      (conv => whnf)
      first | refine goF1 (by simp; show (((l.line + 1 : Nat) : Int)) < _; omega) ?_ | refine goF2 (by simp; show (((l.line + 1 : Nat) : Int)) < _; omega) ?_
      (conv => whnf)
      exact h _ (k2.trans Kp.upd_dx) H4
theorem C_sign_behind {w : World} {h₀ : Heap} (W : Wld w h₀) {n : Nat} {x dx : Addr} {l : LX} {B : List UInt8} {σ : St} {k : kV} (H : LexAt w σ x dx l B)
    (h : k (.int (hd (l.t.drop (l.at' + 1)))) σ) : CALL w h₀ (n + 1) (.ref 574) [.ref x] σ k := by
  have hz := H.tz
  refine E_574 W fun L => ?_
  (conv => whnf)
  refine ⟨_, H.hx, ?_⟩
  (conv => whnf)
  refine ⟨_, H.hdx, ?_⟩
  (conv => whnf)
  refine ⟨_, H.hx, ?_⟩
  (conv => whnf)
  refine ⟨_, H.hdx, ?_⟩
  (conv => whnf)
  refine ⟨by omega, ?_⟩
  (conv => whnf)
  rcases Nat.lt_or_ge (l.at' + 1) l.t.length with hq | hq
  · first | refine goT1 (by simp; omega) ?_ | refine goT2 (by simp; omega) ?_
    (conv => whnf)
    refine ⟨_, H.hx, ?_⟩
    (conv => whnf)
    refine ⟨_, H.hdx, ?_⟩
    (conv => whnf)
    refine ⟨_, H.hx, ?_⟩
    (conv => whnf)
    refine ⟨_, H.hdx, ?_⟩
    (conv => whnf)
    refine ⟨by omega, by omega, ?_⟩
    (conv => whnf)
    rw [hd_getD hq] at h
    exact h
  · first | refine goF1 (by simp; omega) ?_ | refine goF2 (by simp; omega) ?_
    (conv => whnf)
    rw [List.drop_eq_nil_of_le hq] at h
    exact h

end Mine

end
section
open PySem PySem.W PyProof.Rows PySem.Calls
set_option maxHeartbeats 4000000
set_option linter.unusedVariables false
set_option linter.unusedSimpArgs false
namespace Mine
open MineK
open PySem.Challenge (pw_xm0629_01 rw_xm0629_01)
/-! ## The lexer's state, its fields hidden -/
noncomputable def LxAt (w : World) (σ : St) (x dx : Addr) (t r B : List UInt8) : Prop := ∃ l : LX, l.t = t ∧ t.drop l.at' = r ∧ LexAt w σ x dx l B
section
variable {w : World} {h₀ : Heap} {n : Nat} {x dx : Addr} {t r B : List UInt8} {c : UInt8} {σ : St} {k : kV}
theorem LxAt.grow {σ' : St} (h : LxAt w σ x dx t r B) (g : Grow σ σ') : LxAt w σ' x dx t r B := by
  obtain ⟨l, a, b, H⟩ := h; exact ⟨l, a, b, H.grow g⟩
theorem LxAt.get (h : LxAt w σ x dx t r B) : ∃ l : LX, l.t = t ∧ hd (l.t.drop l.at') = hd r ∧ LexAt w σ x dx l B ∧ r.length ≤ 100000 := by
  obtain ⟨l, rfl, b, H⟩ := h
  refine ⟨l, rfl, by rw [b], H, ?_⟩
  have := H.tz
  rw [← b, List.length_drop]; omega
theorem X_move (W : Wld w h₀) (h : LxAt w σ x dx t (c :: r) B) (hk : ∀ σ', Kp dx σ σ' → LxAt w σ' x dx t r B → k .none σ') : CALL w h₀ (n + 1) (.ref 518) [.ref x] σ k := by
  obtain ⟨l, rfl, b, H⟩ := h
  obtain ⟨h1, h2, h3⟩ := drop_cons b
  exact C_move W H h1 fun σ' k1 H1 => hk σ' k1 ⟨l.mv 1, rfl, h3, H1⟩
theorem X_keep (W : Wld w h₀) {i : Int} (h : LxAt w σ x dx t r B) (hi : 0 ≤ i ∧ i < 256) (hB : B.length ≤ 150000) (hk : ∀ σ', Kp dx σ σ' → LxAt w σ' x dx t r (B ++ [i.toNat.toUInt8]) → k .none σ') : CALL w h₀ (n + 1) (.ref 525) [.ref x, .int i] σ k := by
  obtain ⟨l, rfl, b, H⟩ := h
  exact C_keep W H hi hB fun σ' k1 H1 => hk σ' k1 ⟨l, rfl, b, H1⟩
theorem X_kam (W : Wld w h₀) (h : LxAt w σ x dx t (c :: r) B) (hB : B.length ≤ 150000) (hk : ∀ σ', Kp dx σ σ' → LxAt w σ' x dx t r (B ++ [c]) → k .none σ') : CALL w h₀ (n + 2) (.ref 532) [.ref x] σ k := by
  obtain ⟨l, rfl, b, H⟩ := h
  exact C_keep_and_move W H b hB fun σ' k1 H1 => hk σ' k1 ⟨l.mv 1, rfl, (drop_cons b).2.2, H1⟩
theorem X_clear (W : Wld w h₀) (h : LxAt w σ x dx t r B) (hk : ∀ σ', Kp dx σ σ' → LxAt w σ' x dx t r [] → k .none σ') : CALL w h₀ (n + 1) (.ref 546) [.ref x] σ k := by
  obtain ⟨l, rfl, b, H⟩ := h
  exact C_clear W H fun σ' b' k1 H1 => hk σ' k1 ⟨{ l with buf := b' }, rfl, b, H1⟩
noncomputable def eolR (c : UInt8) (r : List UInt8) : List UInt8 := r.drop (eolN c r - 1)
theorem X_eol (W : Wld w h₀) (h : LxAt w σ x dx t (c :: r) B) (hk : ∀ σ', Kp dx σ σ' → LxAt w σ' x dx t (eolR c r) B → k .none σ') : CALL w h₀ (n + 2) (.ref 553) [.ref x] σ k := by
  obtain ⟨l, rfl, b, H⟩ := h
  refine C_end_line W H b fun σ' k1 H1 => hk σ' k1 ⟨l.nl (eolN c r), rfl, ?_, H1⟩
  obtain ⟨h1, h2, h3⟩ := drop_cons b
  show l.t.drop (l.at' + eolN c r) = _
  unfold eolR
  rw [← h3, List.drop_drop]
  congr 1
  have : 1 ≤ eolN c r := by
    unfold eolN; split
    · exact Nat.le_refl _
    · split <;> decide
  rw [h3]; omega
theorem LexAt.setBuf2 {b : Addr} {l l' : LX} {B B' : List UInt8} {fs : Nm} (h : LexAt w σ x dx l B) (hb : σ b = none) (hB : B'.length ≤ 200000) (e : fs = lexNs l') (e' : l' = { l with buf := b }) : LexAt w ((σ.upd b (.barr B')).upd dx (.ns fs)) x dx l' B' := by
  subst e'
  subst e
  have g := Grow.upd (o := .barr B') hb
  have hbd : b ≠ dx := by intro e; have := h.hdx; rw [← e, hb] at this; cases this
  obtain ⟨dl, q1, q2, q3⟩ := h.hlim
  obtain ⟨o, n, p1, p2⟩ := h.hkd
  refine ⟨?_, by rw [St.upd_same], ?_, ⟨dl, ?_, ?_, q3⟩, ⟨o, n, ?_, p2⟩, hB, h.linz, h.tz, h.atz⟩
  · rw [St.upd_ne h.ne]; exact g _ _ h.hx
  · show ((σ.upd b (.barr B')).upd dx _) b = _
    rw [St.upd_ne hbd, St.upd_same]
  · show ((σ.upd b (.barr B')).upd dx _) l.lim = _
    rw [St.upd_ne]; exact g _ _ q1
    intro e; rw [e, h.hdx] at q1; cases q1
  · rw [St.upd_ne q3]; exact g _ _ q2
  · show ((σ.upd b (.barr B')).upd dx _) l.kd = _
    rw [St.upd_ne]; exact g _ _ p1
    intro e; rw [e, h.hdx] at p1; cases p1
/-! ### brackets -/
theorem C_read_level (W : Wld w h₀) (h : LxAt w σ x dx t (c :: c :: r) B) (hc : c ≠ 61) (hB : B.length ≤ 150000) (hk : ∀ σ', Kp dx σ σ' → LxAt w σ' x dx t (c :: r) (B ++ [c]) → k (.int 0) σ') : CALL w h₀ (n + 3) (.ref 623) [.ref x] σ k := by
  obtain ⟨l, rfl, hs, H, -⟩ := h.get
  refine E_623 W fun L => ?_
  (conv => whnf)
  refine ⟨_, H.hx, ?_⟩
  (conv => whnf)
  refine ⟨_, H.hdx, ?_⟩
  (conv => whnf)
  refine ⟨_, H.hx, ?_⟩
  (conv => whnf)
  refine ⟨_, H.hdx, ?_⟩
  (conv => whnf)
  refine X_kam W h hB fun σ1 k1 X1 => ?_
  obtain ⟨l1, e1, hs1, H1, -⟩ := X1.get
  (conv => whnf)
  refine ⟨1, ?_⟩
  (conv => whnf)
  refine ⟨_, H1.hx, ?_⟩
  (conv => whnf)
  refine ⟨_, H1.hdx, ?_⟩
  (conv => whnf)
  rw [hs1]
  have h61 : (hd (c :: r) == (61 : Int)) = false := by
    simp [hd, ← UInt8.toNat_inj] at hc ⊢; omega
  first | refine goF1 (h61) ?_ | refine goF2 (h61) ?_
  (conv => whnf)
  refine ⟨_, H1.hx, ?_⟩
  (conv => whnf)
  refine ⟨_, H1.hdx, ?_⟩
  (conv => whnf)
  rw [hs1, hs]
  first | refine goT1 (by simp [hd]) ?_ | refine goT2 (by simp [hd]) ?_
  (conv => whnf)
  exact hk σ1 k1 X1
theorem nl_no {i : Int} (h : i ≠ 10 ∧ i ≠ 13) : isNL i = false := by unfold isNL; simp; omega
/-- the long text -/
theorem C_read_long_t (W : Wld w h₀) (h : LxAt w σ x dx t (91 :: 97 :: 10 :: 93 :: 93 :: r) [91]) (hk : ∀ σ' B', Kp dx σ σ' → LxAt w σ' x dx t r B' → k (.bytes [97, 10]) σ') : CALL w h₀ (n + 5) (.ref 630) [.ref x, .int 0, .bool true] σ k := by
  obtain ⟨l, rfl, hs, H, -⟩ := h.get
  refine E_630 W fun L => ?_
  (conv => whnf)
  refine ⟨_, H.hx, ?_⟩
  (conv => whnf)
  refine ⟨_, H.hdx, ?_⟩
  (conv => whnf)
  refine X_kam W h (by simp) fun σ1 k1 X1 => ?_
  obtain ⟨l1, e1, hs1, H1, -⟩ := X1.get
  (conv => whnf)
  refine ⟨_, H1.hx, ?_⟩
  (conv => whnf)
  refine ⟨_, H1.hdx, ?_⟩
  (conv => whnf)
  rw [hs1]
  refine C_newline W fun σ2 g2 => ?_
  have X2 := X1.grow g2
  obtain ⟨l2, e2, hs2, H2, -⟩ := X2.get
  first | refine goF1 (rfl) ?_ | refine goF2 (rfl) ?_
  (conv => whnf)
  refine ⟨_, H2.hx, ?_⟩
  (conv => whnf)
  refine ⟨_, H2.hdx, ?_⟩
  (conv => whnf)
  refine ⟨_, H2.hbuf, ?_⟩
  (conv => whnf)
  refine ⟨by decide, ?_⟩
  (conv => whnf)
  refine ⟨4, ?_⟩
  (conv => whnf)
  first | refine goT1 (rfl) ?_ | refine goT2 (rfl) ?_
  (conv => whnf)
  refine ⟨_, H2.hx, ?_⟩
  (conv => whnf)
  refine ⟨_, H2.hdx, ?_⟩
  (conv => whnf)
  rw [hs2]
  first | refine goF1 (rfl) ?_ | refine goF2 (rfl) ?_
  (conv => whnf)
  refine ⟨_, H2.hx, ?_⟩
  (conv => whnf)
  refine ⟨_, H2.hdx, ?_⟩
  (conv => whnf)
  rw [hs2]
  first | refine goF1 (rfl) ?_ | refine goF2 (rfl) ?_
  (conv => whnf)
  refine ⟨_, H2.hx, ?_⟩
  (conv => whnf)
  refine ⟨_, H2.hdx, ?_⟩
  (conv => whnf)
  rw [hs2]
  first | refine goF1 (rfl) ?_ | refine goF2 (rfl) ?_
  (conv => whnf)
  refine ⟨_, H2.hx, ?_⟩
  (conv => whnf)
  refine ⟨_, H2.hdx, ?_⟩
  (conv => whnf)
  rw [hs2]
  refine C_newline W fun σ3 g3 => ?_
  have X3 := X2.grow g3
  obtain ⟨l3, e3, hs3, H3, -⟩ := X3.get
  first | refine goF1 (rfl) ?_ | refine goF2 (rfl) ?_
  (conv => whnf)
  first | refine goT1 (rfl) ?_ | refine goT2 (rfl) ?_
  (conv => whnf)
  refine ⟨_, H3.hx, ?_⟩
  (conv => whnf)
  refine ⟨_, H3.hdx, ?_⟩
  (conv => whnf)
  refine X_kam W X3 (by simp) fun σ4 k4 X4 => ?_
  obtain ⟨l4, e4, hs4, H4, -⟩ := X4.get
  (conv => whnf)
  first | refine goT1 (rfl) ?_ | refine goT2 (rfl) ?_
  (conv => whnf)
  refine ⟨_, H4.hx, ?_⟩
  (conv => whnf)
  refine ⟨_, H4.hdx, ?_⟩
  (conv => whnf)
  rw [hs4]
  first | refine goF1 (rfl) ?_ | refine goF2 (rfl) ?_
  (conv => whnf)
  refine ⟨_, H4.hx, ?_⟩
  (conv => whnf)
  refine ⟨_, H4.hdx, ?_⟩
  (conv => whnf)
  rw [hs4]
  first | refine goF1 (rfl) ?_ | refine goF2 (rfl) ?_
  (conv => whnf)
  refine ⟨_, H4.hx, ?_⟩
  (conv => whnf)
  refine ⟨_, H4.hdx, ?_⟩
  (conv => whnf)
  rw [hs4]
  first | refine goF1 (rfl) ?_ | refine goF2 (rfl) ?_
  (conv => whnf)
  refine ⟨_, H4.hx, ?_⟩
  (conv => whnf)
  refine ⟨_, H4.hdx, ?_⟩
  (conv => whnf)
  rw [hs4]
  refine C_newline W fun σ5 g5 => ?_
  have X5 := X4.grow g5
  obtain ⟨l5, e5, hs5, H5, -⟩ := X5.get
  first | refine goT1 (rfl) ?_ | refine goT2 (rfl) ?_
  (conv => whnf)
  refine ⟨_, H5.hx, ?_⟩
  (conv => whnf)
  refine ⟨_, H5.hdx, ?_⟩
  (conv => whnf)
  refine X_keep W X5 (by decide) (by simp) fun σ6 k6 X6 => ?_
  obtain ⟨l6, e6, hs6, H6, -⟩ := X6.get
  (conv => whnf)
  refine ⟨_, H6.hx, ?_⟩
  (conv => whnf)
  refine ⟨_, H6.hdx, ?_⟩
  (conv => whnf)
  refine X_eol W X6 fun σ7 k7 X7 => ?_
  have X7 : LxAt w σ7 x dx l.t (93 :: 93 :: r) [91, 91, 97, 10] := X7
  obtain ⟨l7, e7, hs7, H7, -⟩ := X7.get
  (conv => whnf)
  first | refine goF1 (rfl) ?_ | refine goF2 (rfl) ?_
  (conv => whnf)
  first | refine goT1 (rfl) ?_ | refine goT2 (rfl) ?_
  (conv => whnf)
  refine ⟨_, H7.hx, ?_⟩
  (conv => whnf)
  refine ⟨_, H7.hdx, ?_⟩
  (conv => whnf)
  rw [hs7]
  first | refine goF1 (rfl) ?_ | refine goF2 (rfl) ?_
  (conv => whnf)
  refine ⟨_, H7.hx, ?_⟩
  (conv => whnf)
  refine ⟨_, H7.hdx, ?_⟩
  (conv => whnf)
  rw [hs7]
  first | refine goF1 (rfl) ?_ | refine goF2 (rfl) ?_
  (conv => whnf)
  refine ⟨_, H7.hx, ?_⟩
  (conv => whnf)
  refine ⟨_, H7.hdx, ?_⟩
  (conv => whnf)
  rw [hs7]
  first | refine goT1 (rfl) ?_ | refine goT2 (rfl) ?_
  (conv => whnf)
  refine ⟨_, H7.hx, ?_⟩
  (conv => whnf)
  refine ⟨_, H7.hdx, ?_⟩
  (conv => whnf)
  refine C_read_level W X7 (by decide) (by simp) fun σ8 k8 X8 => ?_
  obtain ⟨l8, e8, hs8, H8, -⟩ := X8.get
  first | refine goT1 (rfl) ?_ | refine goT2 (rfl) ?_
  (conv => whnf)
  refine ⟨_, H8.hx, ?_⟩
  (conv => whnf)
  refine ⟨_, H8.hdx, ?_⟩
  (conv => whnf)
  refine X_kam W X8 (by simp) fun σ9 k9 X9 => ?_
  have X9 : LxAt w σ9 x dx l.t r [91, 91, 97, 10, 93, 93] := X9
  obtain ⟨l9, e9, hs9, H9, -⟩ := X9.get
  (conv => whnf)
  refine ⟨_, H9.hx, ?_⟩
  (conv => whnf)
  refine ⟨_, H9.hdx, ?_⟩
  (conv => whnf)
  refine ⟨_, H9.hx, ?_⟩
  (conv => whnf)
  refine ⟨_, H9.hdx, ?_⟩
  (conv => whnf)
  refine ⟨_, H9.hbuf, ?_⟩
  (conv => whnf)
  refine ⟨by decide, ?_⟩
  (conv => whnf)
  refine ⟨some 2, some 4, by simp [partN], by simp [partN], ?_⟩
  refine ⟨_, H9.hbuf, by decide, fun b hb => ?_⟩
  (conv => whnf)
  refine ⟨_, by rw [St.upd_same], ?_⟩
  (conv => whnf)
  refine ⟨by decide, ?_⟩
  (conv => whnf)
  have kk : Kp dx σ (σ9.upd b (.barr (cut [91, 91, 97, 10, 93, 93] (some 2) (some 4)))) := ((((((k1.trans (Kp.grow g2)).trans (Kp.grow g3)).trans k4).trans (Kp.grow g5)).trans k6).trans k7).trans ((k8.trans k9).trans (Kp.grow (Grow.upd hb)))
  exact hk _ _ kk (X9.grow (Grow.upd hb))
/-- the long comment -/
theorem C_read_long_c (W : Wld w h₀) (h : LxAt w σ x dx t (91 :: 37 :: 10 :: 93 :: 93 :: r) []) (hk : ∀ v σ' B', Kp dx σ σ' → LxAt w σ' x dx t r B' → k v σ') : CALL w h₀ (n + 5) (.ref 630) [.ref x, .int 0, .bool false] σ k := by
  obtain ⟨l, rfl, hs, H, -⟩ := h.get
  refine E_630 W fun L => ?_
  (conv => whnf)
  refine ⟨_, H.hx, ?_⟩
  (conv => whnf)
  refine ⟨_, H.hdx, ?_⟩
  (conv => whnf)
  refine X_kam W h (by simp) fun σ1 k1 X1 => ?_
  obtain ⟨l1, e1, hs1, H1, -⟩ := X1.get
  (conv => whnf)
  refine ⟨_, H1.hx, ?_⟩
  (conv => whnf)
  refine ⟨_, H1.hdx, ?_⟩
  (conv => whnf)
  rw [hs1]
  refine C_newline W fun σ2 g2 => ?_
  have X2 := X1.grow g2
  obtain ⟨l2, e2, hs2, H2, -⟩ := X2.get
  first | refine goF1 (rfl) ?_ | refine goF2 (rfl) ?_
  (conv => whnf)
  refine ⟨_, H2.hx, ?_⟩
  (conv => whnf)
  refine ⟨_, H2.hdx, ?_⟩
  (conv => whnf)
  refine ⟨_, H2.hbuf, ?_⟩
  (conv => whnf)
  refine ⟨by decide, ?_⟩
  (conv => whnf)
  refine ⟨4, ?_⟩
  (conv => whnf)
  first | refine goT1 (rfl) ?_ | refine goT2 (rfl) ?_
  (conv => whnf)
  refine ⟨_, H2.hx, ?_⟩
  (conv => whnf)
  refine ⟨_, H2.hdx, ?_⟩
  (conv => whnf)
  rw [hs2]
  first | refine goF1 (rfl) ?_ | refine goF2 (rfl) ?_
  (conv => whnf)
  refine ⟨_, H2.hx, ?_⟩
  (conv => whnf)
  refine ⟨_, H2.hdx, ?_⟩
  (conv => whnf)
  rw [hs2]
  first | refine goF1 (rfl) ?_ | refine goF2 (rfl) ?_
  (conv => whnf)
  refine ⟨_, H2.hx, ?_⟩
  (conv => whnf)
  refine ⟨_, H2.hdx, ?_⟩
  (conv => whnf)
  rw [hs2]
  first | refine goF1 (rfl) ?_ | refine goF2 (rfl) ?_
  (conv => whnf)
  refine ⟨_, H2.hx, ?_⟩
  (conv => whnf)
  refine ⟨_, H2.hdx, ?_⟩
  (conv => whnf)
  rw [hs2]
  refine C_newline W fun σ3 g3 => ?_
  have X3 := X2.grow g3
  obtain ⟨l3, e3, hs3, H3, -⟩ := X3.get
  first | refine goF1 (rfl) ?_ | refine goF2 (rfl) ?_
  (conv => whnf)
  first | refine goF1 (rfl) ?_ | refine goF2 (rfl) ?_
  (conv => whnf)
  refine ⟨_, H3.hx, ?_⟩
  (conv => whnf)
  refine ⟨_, H3.hdx, ?_⟩
  (conv => whnf)
  refine X_move W X3 fun σ4 k4 X4 => ?_
  obtain ⟨l4, e4, hs4, H4, -⟩ := X4.get
  (conv => whnf)
  first | refine goT1 (rfl) ?_ | refine goT2 (rfl) ?_
  (conv => whnf)
  refine ⟨_, H4.hx, ?_⟩
  (conv => whnf)
  refine ⟨_, H4.hdx, ?_⟩
  (conv => whnf)
  rw [hs4]
  first | refine goF1 (rfl) ?_ | refine goF2 (rfl) ?_
  (conv => whnf)
  refine ⟨_, H4.hx, ?_⟩
  (conv => whnf)
  refine ⟨_, H4.hdx, ?_⟩
  (conv => whnf)
  rw [hs4]
  first | refine goF1 (rfl) ?_ | refine goF2 (rfl) ?_
  (conv => whnf)
  refine ⟨_, H4.hx, ?_⟩
  (conv => whnf)
  refine ⟨_, H4.hdx, ?_⟩
  (conv => whnf)
  rw [hs4]
  first | refine goF1 (rfl) ?_ | refine goF2 (rfl) ?_
  (conv => whnf)
  refine ⟨_, H4.hx, ?_⟩
  (conv => whnf)
  refine ⟨_, H4.hdx, ?_⟩
  (conv => whnf)
  rw [hs4]
  refine C_newline W fun σ5 g5 => ?_
  have X5 := X4.grow g5
  obtain ⟨l5, e5, hs5, H5, -⟩ := X5.get
  first | refine goT1 (rfl) ?_ | refine goT2 (rfl) ?_
  (conv => whnf)
  refine ⟨_, H5.hx, ?_⟩
  (conv => whnf)
  refine ⟨_, H5.hdx, ?_⟩
  (conv => whnf)
  refine X_keep W X5 (by decide) (by simp) fun σ6 k6 X6 => ?_
  obtain ⟨l6, e6, hs6, H6, -⟩ := X6.get
  (conv => whnf)
  refine ⟨_, H6.hx, ?_⟩
  (conv => whnf)
  refine ⟨_, H6.hdx, ?_⟩
  (conv => whnf)
  refine X_eol W X6 fun σ7 k7 X7 => ?_
  have X7 : LxAt w σ7 x dx l.t (93 :: 93 :: r) [91, 10] := X7
  obtain ⟨l7, e7, hs7', H7⟩ := X7
  (conv => whnf)
  first | refine goT1 (rfl) ?_ | refine goT2 (rfl) ?_
  (conv => whnf)
  refine ⟨_, H7.hx, ?_⟩
  (conv => whnf)
  refine ⟨_, H7.hdx, ?_⟩
  (conv => whnf)
  refine ⟨none, some 1, by simp [partN], by simp [partN], ?_⟩
  refine ⟨_, H7.hbuf, by decide, fun b hb => ?_⟩
  (conv => whnf)
  refine ⟨_, (H7.grow (Grow.upd hb)).hx, ?_⟩
  (conv => whnf)
  refine ⟨_, (H7.grow (Grow.upd hb)).hdx, ?_⟩
  (conv => whnf)
  refine ⟨by show 12 ≤ 1000; decide, ?_⟩
  (conv => whnf)
  have H8 := H7.setBuf2 (b := b) (B' := cut [91, 10] none (some 1)) (l' := { l7 with buf := b }) hb (by decide) rfl rfl
  have X8 : LxAt w ((σ7.upd b (.barr (cut [91, 10] none (some 1)))).upd dx (.ns (lexNs { l7 with buf := b }))) x dx l.t (93 :: 93 :: r) [91] := ⟨{ l7 with buf := b }, e7, hs7', H8⟩
  have k8 : Kp dx σ7 ((σ7.upd b (.barr (cut [91, 10] none (some 1)))).upd dx (.ns (lexNs { l7 with buf := b }))) := (Kp.grow (Grow.upd hb)).trans Kp.upd_dx
  clear H8
  obtain ⟨l8, e8, hs8, H8, -⟩ := X8.get
  first | refine goT1 (rfl) ?_ | refine goT2 (rfl) ?_
  (conv => whnf)
  refine ⟨_, H8.hx, ?_⟩
  (conv => whnf)
  refine ⟨_, H8.hdx, ?_⟩
  (conv => whnf)
  rw [hs8]
  first | refine goF1 (rfl) ?_ | refine goF2 (rfl) ?_
  (conv => whnf)
  refine ⟨_, H8.hx, ?_⟩
  (conv => whnf)
  refine ⟨_, H8.hdx, ?_⟩
  (conv => whnf)
  rw [hs8]
  first | refine goF1 (rfl) ?_ | refine goF2 (rfl) ?_
  (conv => whnf)
  refine ⟨_, H8.hx, ?_⟩
  (conv => whnf)
  refine ⟨_, H8.hdx, ?_⟩
  (conv => whnf)
  rw [hs8]
  first | refine goT1 (rfl) ?_ | refine goT2 (rfl) ?_
  (conv => whnf)
  refine ⟨_, H8.hx, ?_⟩
  (conv => whnf)
  refine ⟨_, H8.hdx, ?_⟩
  (conv => whnf)
  refine C_read_level W X8 (by decide) (by simp) fun σ9 k9 X9 => ?_
  obtain ⟨l9, e9, hs9, H9, -⟩ := X9.get
  first | refine goT1 (rfl) ?_ | refine goT2 (rfl) ?_
  (conv => whnf)
  refine ⟨_, H9.hx, ?_⟩
  (conv => whnf)
  refine ⟨_, H9.hdx, ?_⟩
  (conv => whnf)
  refine X_kam W X9 (by simp) fun σ10 k10 X10 => ?_
  have X10 : LxAt w σ10 x dx l.t r [91, 93, 93] := X10
  obtain ⟨l10, e10, hs10, H10, -⟩ := X10.get
  (conv => whnf)
  refine ⟨_, H10.hx, ?_⟩
  (conv => whnf)
  refine ⟨_, H10.hdx, ?_⟩
  (conv => whnf)
  refine ⟨_, H10.hx, ?_⟩
  (conv => whnf)
  refine ⟨_, H10.hdx, ?_⟩
  (conv => whnf)
  refine ⟨_, H10.hbuf, ?_⟩
  (conv => whnf)
  refine ⟨by decide, ?_⟩
  (conv => whnf)
  refine ⟨some 1, some 1, by simp [partN], by simp [partN], ?_⟩
  refine ⟨_, H10.hbuf, by decide, fun b2 hb2 => ?_⟩
  (conv => whnf)
  refine ⟨_, by rw [St.upd_same], ?_⟩
  (conv => whnf)
  refine ⟨by decide, ?_⟩
  (conv => whnf)
  have ka : Kp dx σ σ7 := (((((k1.trans (Kp.grow g2)).trans (Kp.grow g3)).trans k4).trans (Kp.grow g5)).trans k6).trans k7
  exact hk _ _ _ ((ka.trans k8).trans ((k9.trans k10).trans (Kp.grow (Grow.upd hb2)))) (X10.grow (Grow.upd hb2))
end

end Mine

end
section
open PySem PySem.W PyProof.Rows PySem.Calls
set_option maxHeartbeats 4000000
set_option linter.unusedVariables false
set_option linter.unusedSimpArgs false
namespace Mine
open MineK
open PySem.Challenge (pw_xm0629_01 rw_xm0629_01)
/-! ## blanks -/
section
variable {w : World} {h₀ : Heap} {n : Nat} {x dx : Addr} {t r B : List UInt8} {c : UInt8} {σ : St} {k : kV}
theorem C_comment_s (W : Wld w h₀) (h : LxAt w σ x dx t (45 :: 45 :: 10 :: r) B) (hk : ∀ σ', Kp dx σ σ' → LxAt w σ' x dx t (10 :: r) B → k .none σ') : CALL w h₀ (n + 6) (.ref 581) [.ref x] σ k := by
  obtain ⟨l, rfl, hs, H, -⟩ := h.get
  refine E_581 W fun L => ?_
  (conv => whnf)
  refine ⟨_, H.hx, ?_⟩
  (conv => whnf)
  refine ⟨_, H.hdx, ?_⟩
  (conv => whnf)
  refine X_move W h fun σ1 k1 X1 => ?_
  obtain ⟨l1, e1, hs1, H1, -⟩ := X1.get
  (conv => whnf)
  refine ⟨_, H1.hx, ?_⟩
  (conv => whnf)
  refine ⟨_, H1.hdx, ?_⟩
  (conv => whnf)
  refine X_move W X1 fun σ2 k2 X2 => ?_
  obtain ⟨l2, e2, hs2, H2, -⟩ := X2.get
  (conv => whnf)
  refine ⟨_, H2.hx, ?_⟩
  (conv => whnf)
  refine ⟨_, H2.hdx, ?_⟩
  (conv => whnf)
  rw [hs2]
  first | refine goF1 (rfl) ?_ | refine goF2 (rfl) ?_
  (conv => whnf)
  refine ⟨1, ?_⟩
  (conv => whnf)
  refine ⟨_, H2.hx, ?_⟩
  (conv => whnf)
  refine ⟨_, H2.hdx, ?_⟩
  (conv => whnf)
  rw [hs2]
  refine C_newline W fun σ3 g3 => ?_
  first | refine goF1 (rfl) ?_ | refine goF2 (rfl) ?_
  (conv => whnf)
  first | refine goF1 (rfl) ?_ | refine goF2 (rfl) ?_
  (conv => whnf)
  exact hk _ ((k1.trans k2).trans (Kp.grow g3)) (X2.grow g3)
theorem C_comment_l (W : Wld w h₀) (h : LxAt w σ x dx t (45 :: 45 :: 91 :: 91 :: 37 :: 10 :: 93 :: 93 :: r) []) (hk : ∀ σ', Kp dx σ σ' → LxAt w σ' x dx t r [] → k .none σ') : CALL w h₀ (n + 6) (.ref 581) [.ref x] σ k := by
  obtain ⟨l, rfl, hs, H, -⟩ := h.get
  refine E_581 W fun L => ?_
  (conv => whnf)
  refine ⟨_, H.hx, ?_⟩
  (conv => whnf)
  refine ⟨_, H.hdx, ?_⟩
  (conv => whnf)
  refine X_move W h fun σ1 k1 X1 => ?_
  obtain ⟨l1, e1, hs1, H1, -⟩ := X1.get
  (conv => whnf)
  refine ⟨_, H1.hx, ?_⟩
  (conv => whnf)
  refine ⟨_, H1.hdx, ?_⟩
  (conv => whnf)
  refine X_move W X1 fun σ2 k2 X2 => ?_
  obtain ⟨l2, e2, hs2, H2, -⟩ := X2.get
  (conv => whnf)
  refine ⟨_, H2.hx, ?_⟩
  (conv => whnf)
  refine ⟨_, H2.hdx, ?_⟩
  (conv => whnf)
  rw [hs2]
  first | refine goT1 (rfl) ?_ | refine goT2 (rfl) ?_
  (conv => whnf)
  refine ⟨_, H2.hx, ?_⟩
  (conv => whnf)
  refine ⟨_, H2.hdx, ?_⟩
  (conv => whnf)
  refine C_read_level W X2 (by decide) (by simp) fun σ3 k3 X3 => ?_
  obtain ⟨l3, e3, hs3, H3, -⟩ := X3.get
  (conv => whnf)
  refine ⟨_, H3.hx, ?_⟩
  (conv => whnf)
  refine ⟨_, H3.hdx, ?_⟩
  (conv => whnf)
  refine X_clear W X3 fun σ4 k4 X4 => ?_
  obtain ⟨l4, e4, hs4, H4, -⟩ := X4.get
  (conv => whnf)
  first | refine goT1 (rfl) ?_ | refine goT2 (rfl) ?_
  (conv => whnf)
  refine ⟨_, H4.hx, ?_⟩
  (conv => whnf)
  refine ⟨_, H4.hdx, ?_⟩
  (conv => whnf)
  refine C_read_long_c W X4 fun v σ5 B5 k5 X5 => ?_
  obtain ⟨l5, e5, hs5, H5, -⟩ := X5.get
  (conv => whnf)
  refine ⟨_, H5.hx, ?_⟩
  (conv => whnf)
  refine ⟨_, H5.hdx, ?_⟩
  (conv => whnf)
  refine X_clear W X5 fun σ6 k6 X6 => ?_
  (conv => whnf)
  exact hk _ (((k1.trans k2).trans k3).trans ((k4.trans k5).trans k6)) X6
theorem X_sb (W : Wld w h₀) (h : LxAt w σ x dx t (c :: r) B) (hk : k (.int (hd r)) σ) : CALL w h₀ (n + 1) (.ref 574) [.ref x] σ k := by
  obtain ⟨l, rfl, b, H⟩ := h
  refine C_sign_behind W H ?_
  rw [(drop_cons b).2.2]
  exact hk
/-- one step over blanks -/
inductive Sk : List UInt8 → List UInt8 → Prop
  | nl {c : UInt8} {r : List UInt8} (h : isNL c.toNat = true) : Sk (c :: r) (eolR c r)
  | bl {c : UInt8} {r : List UInt8} (h1 : isNL c.toNat = false) (h : isBlk c.toNat = true) : Sk (c :: r) r
  | cs {r : List UInt8} : Sk (45 :: 45 :: 10 :: r) (10 :: r)
  | cl {r : List UInt8} : Sk (45 :: 45 :: 91 :: 91 :: 37 :: 10 :: 93 :: 93 :: r) r
theorem C_skip_yes (W : Wld w h₀) {r' : List UInt8} (h : LxAt w σ x dx t r []) (hS : Sk r r') (hk : ∀ σ', Kp dx σ σ' → LxAt w σ' x dx t r' [] → k (.bool true) σ') : CALL w h₀ (n + 7) (.ref 567) [.ref x] σ k := by
  obtain ⟨l, rfl, hs, H, -⟩ := h.get
  refine E_567 W fun L => ?_
  (conv => whnf)
  refine ⟨_, H.hx, ?_⟩
  (conv => whnf)
  refine ⟨_, H.hdx, ?_⟩
  (conv => whnf)
  rw [hs]
  refine C_newline W fun σ1 g1 => ?_
  have X1 := h.grow g1
  obtain ⟨l1, e1, hs1, H1, -⟩ := X1.get
  cases hS with
  | nl q =>
    first | refine goT1 (q) ?_ | refine goT2 (q) ?_
    (conv => whnf)
    refine ⟨_, H1.hx, ?_⟩
    (conv => whnf)
    refine ⟨_, H1.hdx, ?_⟩
    (conv => whnf)
    refine X_eol W X1 fun σ2 k2 X2 => ?_
    (conv => whnf)
    exact hk _ ((Kp.grow g1).trans k2) X2
  | bl q q2 =>
    first | refine goF1 (q) ?_ | refine goF2 (q) ?_
    (conv => whnf)
    refine ⟨_, H1.hx, ?_⟩
    (conv => whnf)
    refine ⟨_, H1.hdx, ?_⟩
    (conv => whnf)
    rw [hs1]
    refine C_blank_lex W ?_
    first | refine goT1 (q2) ?_ | refine goT2 (q2) ?_
    (conv => whnf)
    refine ⟨_, H1.hx, ?_⟩
    (conv => whnf)
    refine ⟨_, H1.hdx, ?_⟩
    (conv => whnf)
    refine X_move W X1 fun σ2 k2 X2 => ?_
    (conv => whnf)
    exact hk _ ((Kp.grow g1).trans k2) X2
  | cs =>
    first | refine goF1 (rfl) ?_ | refine goF2 (rfl) ?_
    (conv => whnf)
    refine ⟨_, H1.hx, ?_⟩
    (conv => whnf)
    refine ⟨_, H1.hdx, ?_⟩
    (conv => whnf)
    rw [hs1]
    refine C_blank_lex W ?_
    first | refine goF1 (rfl) ?_ | refine goF2 (rfl) ?_
    (conv => whnf)
    refine ⟨_, H1.hx, ?_⟩
    (conv => whnf)
    refine ⟨_, H1.hdx, ?_⟩
    (conv => whnf)
    rw [hs1]
    first | refine goT1 (rfl) ?_ | refine goT2 (rfl) ?_
    (conv => whnf)
    refine ⟨_, H1.hx, ?_⟩
    (conv => whnf)
    refine ⟨_, H1.hdx, ?_⟩
    (conv => whnf)
    refine X_sb W X1 ?_
    (conv => whnf)
    first | refine goT1 (rfl) ?_ | refine goT2 (rfl) ?_
    (conv => whnf)
    first | refine goT1 (rfl) ?_ | refine goT2 (rfl) ?_
    (conv => whnf)
    refine ⟨_, H1.hx, ?_⟩
    (conv => whnf)
    refine ⟨_, H1.hdx, ?_⟩
    (conv => whnf)
    refine C_comment_s W X1 fun σ2 k2 X2 => ?_
    (conv => whnf)
    exact hk _ ((Kp.grow g1).trans k2) X2
  | cl =>
    first | refine goF1 (rfl) ?_ | refine goF2 (rfl) ?_
    (conv => whnf)
    refine ⟨_, H1.hx, ?_⟩
    (conv => whnf)
    refine ⟨_, H1.hdx, ?_⟩
    (conv => whnf)
    rw [hs1]
    refine C_blank_lex W ?_
    first | refine goF1 (rfl) ?_ | refine goF2 (rfl) ?_
    (conv => whnf)
    refine ⟨_, H1.hx, ?_⟩
    (conv => whnf)
    refine ⟨_, H1.hdx, ?_⟩
    (conv => whnf)
    rw [hs1]
    first | refine goT1 (rfl) ?_ | refine goT2 (rfl) ?_
    (conv => whnf)
    refine ⟨_, H1.hx, ?_⟩
    (conv => whnf)
    refine ⟨_, H1.hdx, ?_⟩
    (conv => whnf)
    refine X_sb W X1 ?_
    (conv => whnf)
    first | refine goT1 (rfl) ?_ | refine goT2 (rfl) ?_
    (conv => whnf)
    first | refine goT1 (rfl) ?_ | refine goT2 (rfl) ?_
    (conv => whnf)
    refine ⟨_, H1.hx, ?_⟩
    (conv => whnf)
    refine ⟨_, H1.hdx, ?_⟩
    (conv => whnf)
    refine C_comment_l W X1 fun σ2 k2 X2 => ?_
    (conv => whnf)
    exact hk _ ((Kp.grow g1).trans k2) X2
theorem C_skip_no (W : Wld w h₀) (h : LxAt w σ x dx t r []) (h1 : isNL (hd r) = false) (h2 : isBlk (hd r) = false) (h3 : hd r ≠ 45) (hk : ∀ σ', Kp dx σ σ' → LxAt w σ' x dx t r [] → k (.bool false) σ') : CALL w h₀ (n + 7) (.ref 567) [.ref x] σ k := by
  obtain ⟨l, rfl, hs, H, -⟩ := h.get
  refine E_567 W fun L => ?_
  (conv => whnf)
  refine ⟨_, H.hx, ?_⟩
  (conv => whnf)
  refine ⟨_, H.hdx, ?_⟩
  (conv => whnf)
  rw [hs]
  refine C_newline W fun σ1 g1 => ?_
  have X1 := h.grow g1
  obtain ⟨l1, e1, hs1, H1, -⟩ := X1.get
  first | refine goF1 (h1) ?_ | refine goF2 (h1) ?_
  (conv => whnf)
  refine ⟨_, H1.hx, ?_⟩
  (conv => whnf)
  refine ⟨_, H1.hdx, ?_⟩
  (conv => whnf)
  rw [hs1]
  refine C_blank_lex W ?_
  first | refine goF1 (h2) ?_ | refine goF2 (h2) ?_
  (conv => whnf)
  refine ⟨_, H1.hx, ?_⟩
  (conv => whnf)
  refine ⟨_, H1.hdx, ?_⟩
  (conv => whnf)
  rw [hs1]
  first | refine goF1 (by simpa using h3) ?_ | refine goF2 (by simpa using h3) ?_
  (conv => whnf)
  first | refine goF1 (rfl) ?_ | refine goF2 (rfl) ?_
  (conv => whnf)
  exact hk _ (Kp.grow g1) X1
end

end Mine

end
section
open PySem PySem.W PyProof.Rows PySem.Calls
set_option maxHeartbeats 4000000
set_option linter.unusedVariables false
set_option linter.unusedSimpArgs false
namespace Mine
open MineK
open PySem.Challenge (pw_xm0629_01 rw_xm0629_01)
/-! ## the numeral -/
section
variable {w : World} {h₀ : Heap} {n : Nat} {x dx : Addr} {t r B : List UInt8} {c : UInt8} {σ : St} {k : kV}
theorem C_read_digits_7 (W : Wld w h₀) (hk : ∀ a σ', Grow σ σ' → σ' a = some (.tuple [.int 7, .int 1]) → k (.ref a) σ') : CALL w h₀ (n + 2) (.ref 124) [.bytes [55], .int 0, .int 10, .int 64] σ k := by
  refine E_124 W fun L => ?_
  (conv => whnf)
  refine ⟨by decide, ?_⟩
  (conv => whnf)
  refine ⟨by decide, ?_⟩
  (conv => whnf)
  refine fun a ha => ?_
  (conv => whnf)
  refine ⟨_, by rw [St.upd_same], ?_⟩
  (conv => whnf)
  refine ⟨⟨rfl, rfl⟩, ?_⟩
  (conv => whnf)
  refine ⟨2, ?_⟩
  (conv => whnf)
  refine ⟨by decide, ?_⟩
  (conv => whnf)
  first | refine goT1 (rfl) ?_ | refine goT2 (rfl) ?_
  (conv => whnf)
  refine ⟨by decide, by decide, ?_⟩
  (conv => whnf)
  refine CALL_digit_of W ?_
  (conv => whnf)
  first | refine goF1 (rfl) ?_ | refine goF2 (rfl) ?_
  (conv => whnf)
  first | refine goF1 (rfl) ?_ | refine goF2 (rfl) ?_
  (conv => whnf)
  first | refine goF1 (rfl) ?_ | refine goF2 (rfl) ?_
  (conv => whnf)
  refine ⟨by decide, ?_⟩
  (conv => whnf)
  refine ⟨by decide, ?_⟩
  (conv => whnf)
  first | refine goF1 (rfl) ?_ | refine goF2 (rfl) ?_
  (conv => whnf)
  refine ⟨by show 2 ≤ 1000; decide, fun a2 ha2 => ?_⟩
  (conv => whnf)
  have e7 : Builtin.bitAnd ((0 : Int) * 10 + 7) (1 * 2 ^ 64 - 1) = 7 := by kernel_rfl
  exact hk a2 _ (grow_upd (by rw [St.upd_get] at ha2; split at ha2; cases ha2; exact ha2) (Grow.upd ha)) (by rw [St.upd_same]; exact congrArg (fun z => some (MObj.tuple [MV.int z, MV.int 1])) e7)
theorem C_tib_7 (W : Wld w h₀) {lim dl : Addr} (h1 : σ lim = some (.inst 53 dl)) (h2 : σ dl = some (.ns limNs)) (hk : ∀ σ', Grow σ σ' → k (.int 7) σ') : CALL w h₀ (n + 3) (.ref 145) [.bytes [55], .int 0, .ref lim] σ k := by
  refine E_145 W fun L => ?_
  (conv => whnf)
  refine C_skip_blanks W (t := [55]) (i := 0) (by decide) ?_
  have e0 : blkAt [55] 0 = 0 := by decide
  rw [e0]
  (conv => whnf)
  refine ⟨by show 2 ≤ 1000; decide, fun a ha => ?_⟩
  (conv => whnf)
  refine ⟨_, by rw [St.upd_same], ?_⟩
  (conv => whnf)
  refine ⟨⟨rfl, rfl⟩, ?_⟩
  (conv => whnf)
  refine ⟨by decide, ?_⟩
  (conv => whnf)
  first | refine goT1 (rfl) ?_ | refine goT2 (rfl) ?_
  (conv => whnf)
  refine ⟨by decide, by decide, ?_⟩
  (conv => whnf)
  refine ⟨by decide, ?_⟩
  (conv => whnf)
  first | refine goF1 (rfl) ?_ | refine goF2 (rfl) ?_
  (conv => whnf)
  first | refine goF1 (rfl) ?_ | refine goF2 (rfl) ?_
  (conv => whnf)
  refine ⟨by decide, ?_⟩
  (conv => whnf)
  first | refine goF1 (rfl) ?_ | refine goF2 (rfl) ?_
  (conv => whnf)
  first | refine goF1 (rfl) ?_ | refine goF2 (rfl) ?_
  (conv => whnf)
  first | refine goF1 (rfl) ?_ | refine goF2 (rfl) ?_
  (conv => whnf)
  first | refine goT1 (rfl) ?_ | refine goT2 (rfl) ?_
  (conv => whnf)
  refine ⟨_, Grow.upd ha _ _ h1, ?_⟩
  (conv => whnf)
  refine ⟨_, Grow.upd ha _ _ h2, ?_⟩
  (conv => whnf)
  refine C_read_digits_7 W fun a2 σ2 g2 ha2 => ?_
  have g := (Grow.upd (o := .tuple [.int 0, .bool false]) ha).trans g2
  (conv => whnf)
  refine ⟨_, ha2, ?_⟩
  (conv => whnf)
  refine ⟨rfl, ?_⟩
  (conv => whnf)
  first | refine goF1 (rfl) ?_ | refine goF2 (rfl) ?_
  (conv => whnf)
  refine C_skip_blanks W (t := [55]) (i := 1) (by decide) ?_
  have e1 : blkAt [55] 1 = 1 := by decide
  rw [e1]
  (conv => whnf)
  refine ⟨by decide, ?_⟩
  (conv => whnf)
  first | refine goF1 (rfl) ?_ | refine goF2 (rfl) ?_
  (conv => whnf)
  first | refine goF1 (rfl) ?_ | refine goF2 (rfl) ?_
  (conv => whnf)
  first | refine goF1 (rfl) ?_ | refine goF2 (rfl) ?_
  (conv => whnf)
  refine ⟨_, g _ _ h1, ?_⟩
  (conv => whnf)
  refine ⟨_, g _ _ h2, ?_⟩
  (conv => whnf)
  refine C_wrap W ?_
  have e7 : wrapV 7 = 7 := by kernel_rfl
  rw [e7]
  exact hk _ g
theorem C_stn_7 (W : Wld w h₀) {lim dl : Addr} (h1 : σ lim = some (.inst 53 dl)) (h2 : σ dl = some (.ns limNs)) (hk : ∀ σ', Grow σ σ' → k (.int 7) σ') : CALL w h₀ (n + 4) (.ref 138) [.bytes [55], .ref lim] σ k := by
  refine E_138 W fun L => ?_
  (conv => whnf)
  refine C_tib_7 W h1 h2 fun σ' g => ?_
  exact hk _ g
/-! ## tokens -/
/-- a token object -/
noncomputable def TokAt (σ : St) (x : Addr) (kd v : MV) : Prop := ∃ dx, σ x = some (.inst 458 dx) ∧ σ dx = some (.ns [("kind", kd), ("value", v)])
theorem X_token (W : Wld w h₀) {a b : MV} (hk : ∀ y σ', Grow σ σ' → TokAt σ' y a b → k (.ref y) σ') : CALL w h₀ (n + 2) (.ref 458) [a, b] σ k := by
  refine C_token W fun y dy hy hdy hne => ?_
  exact hk y _ (grow_upd hy (Grow.upd hdy)) ⟨dy, by rw [St.upd_same], by rw [St.upd_ne (Ne.symm hne), St.upd_same]⟩
theorem X_kif_no (W : Wld w h₀) {tu : Addr} (ns : List Int) (h : LxAt w σ x dx t r B) (hB : B.length ≤ 150000) (ht : σ tu = some (.tuple (ns.map .int))) (hneg : ∀ n ∈ ns, 0 ≤ n) (hq : kifL ns (hd r) = false) (hk : k (.bool false) σ) : CALL w h₀ (n + 3) (.ref 539) [.ref x, .ref tu] σ k := by
  obtain ⟨l, rfl, b, H⟩ := h
  refine C_keep_if W H hB ht hneg (fun _ => hk) fun c r' hr q => ?_
  rw [b] at hr
  rw [hr] at hq
  exact absurd (hq.symm.trans q) (by decide)
theorem X_kif_yes (W : Wld w h₀) {tu : Addr} (ns : List Int) (h : LxAt w σ x dx t (c :: r) B) (hB : B.length ≤ 150000) (ht : σ tu = some (.tuple (ns.map .int))) (hneg : ∀ n ∈ ns, 0 ≤ n) (hq : kifL ns c.toNat = true) (hk : ∀ σ', Kp dx σ σ' → LxAt w σ' x dx t r (B ++ [c]) → k (.bool true) σ') : CALL w h₀ (n + 3) (.ref 539) [.ref x, .ref tu] σ k := by
  obtain ⟨l, rfl, b, H⟩ := h
  refine C_keep_if W H hB ht hneg (fun q => ?_) fun c' r' hr q σ' k1 H1 => ?_
  · rw [b] at q
    exact absurd (q.symm.trans hq) (by decide)
  · rw [b] at hr
    obtain ⟨rfl, rfl⟩ := List.cons.inj hr
    exact hk σ' k1 ⟨l.mv 1, rfl, (drop_cons b).2.2, H1⟩
theorem C_numeral (W : Wld w h₀) (h : LxAt w σ x dx t (55 :: 32 :: r) []) (hk : ∀ y σ' B', Kp dx σ σ' → LxAt w σ' x dx t (32 :: r) B' → TokAt σ' y (.int 284) (.int 7) → k (.ref y) σ') : CALL w h₀ (n + 5) (.ref 609) [.ref x] σ k := by
  obtain ⟨l, rfl, hs, H, -⟩ := h.get
  refine E_609 W fun L => ?_
  (conv => whnf)
  refine ⟨2, ?_⟩
  (conv => whnf)
  refine ⟨_, H.hx, ?_⟩
  (conv => whnf)
  refine ⟨_, H.hdx, ?_⟩
  (conv => whnf)
  rw [hs]
  refine C_digit_lex W ?_
  first | refine goT1 (rfl) ?_ | refine goT2 (rfl) ?_
  (conv => whnf)
  first | refine goT1 (rfl) ?_ | refine goT2 (rfl) ?_
  (conv => whnf)
  refine ⟨_, H.hx, ?_⟩
  (conv => whnf)
  refine ⟨_, H.hdx, ?_⟩
  (conv => whnf)
  refine X_kam W h (by simp) fun σ1 k1 X1 => ?_
  obtain ⟨l1, e1, hs1, H1, -⟩ := X1.get
  (conv => whnf)
  refine ⟨_, H1.hx, ?_⟩
  (conv => whnf)
  refine ⟨_, H1.hdx, ?_⟩
  (conv => whnf)
  rw [hs1]
  refine C_digit_lex W ?_
  first | refine goF1 (rfl) ?_ | refine goF2 (rfl) ?_
  (conv => whnf)
  refine ⟨_, H1.hx, ?_⟩
  (conv => whnf)
  refine ⟨_, H1.hdx, ?_⟩
  (conv => whnf)
  rw [hs1]
  first | refine goF1 (rfl) ?_ | refine goF2 (rfl) ?_
  (conv => whnf)
  first | refine goF1 (rfl) ?_ | refine goF2 (rfl) ?_
  (conv => whnf)
  refine ⟨_, H1.hx, ?_⟩
  (conv => whnf)
  refine ⟨_, H1.hdx, ?_⟩
  (conv => whnf)
  refine ⟨by show 2 ≤ 1000; decide, fun tu htu => ?_⟩
  (conv => whnf)
  have X2 := X1.grow (Grow.upd (o := .tuple [.int 69, .int 101]) htu)
  obtain ⟨l2, e2, hs2, H2, -⟩ := X2.get
  refine X_kif_no W [69, 101] X2 (by simp) (by rw [St.upd_same]; rfl) (by decide) rfl ?_
  (conv => whnf)
  first | refine goF1 (rfl) ?_ | refine goF2 (rfl) ?_
  (conv => whnf)
  refine ⟨1, ?_⟩
  (conv => whnf)
  refine ⟨_, H2.hx, ?_⟩
  (conv => whnf)
  refine ⟨_, H2.hdx, ?_⟩
  (conv => whnf)
  rw [hs2]
  refine C_namesign W ?_
  first | refine goF1 (rfl) ?_ | refine goF2 (rfl) ?_
  (conv => whnf)
  refine ⟨_, H2.hx, ?_⟩
  (conv => whnf)
  refine ⟨_, H2.hdx, ?_⟩
  (conv => whnf)
  refine ⟨_, H2.hbuf, ?_⟩
  (conv => whnf)
  refine ⟨by simp, ?_⟩
  (conv => whnf)
  refine ⟨_, H2.hx, ?_⟩
  (conv => whnf)
  refine ⟨_, H2.hdx, ?_⟩
  (conv => whnf)
  obtain ⟨dl, q1, q2, q3⟩ := H2.hlim
  refine C_stn_7 W q1 q2 fun σ3 g3 => ?_
  (conv => whnf)
  refine ⟨fun u e => (by cases e), ?_⟩
  (conv => whnf)
  first | refine goF1 (rfl) ?_ | refine goF2 (rfl) ?_
  (conv => whnf)
  refine X_token W fun y σ4 g4 hy => ?_
  (conv => whnf)
  exact hk y _ _ ((k1.trans (Kp.grow (Grow.upd htu))).trans (Kp.grow (g3.trans g4))) ((X2.grow g3).grow g4) hy
theorem C_compared_1 (W : Wld w h₀) (h : LxAt w σ x dx t (61 :: r) B) (hr : hd r ≠ 61) (hk : ∀ y σ', Kp dx σ σ' → LxAt w σ' x dx t r B → TokAt σ' y (.int 61) .none → k (.ref y) σ') : CALL w h₀ (n + 3) (.ref 588) [.ref x, .int 61] σ k := by
  obtain ⟨l, rfl, hs, H, -⟩ := h.get
  refine E_588 W fun L => ?_
  (conv => whnf)
  refine ⟨_, H.hx, ?_⟩
  (conv => whnf)
  refine ⟨_, H.hdx, ?_⟩
  (conv => whnf)
  refine X_move W h fun σ1 k1 X1 => ?_
  obtain ⟨l1, e1, hs1, H1, -⟩ := X1.get
  (conv => whnf)
  refine ⟨_, H1.hx, ?_⟩
  (conv => whnf)
  refine ⟨_, H1.hdx, ?_⟩
  (conv => whnf)
  rw [hs1]
  first | refine goT1 (by simpa using hr) ?_ | refine goT2 (by simpa using hr) ?_
  (conv => whnf)
  refine X_token W fun y σ4 g4 hy => ?_
  (conv => whnf)
  exact hk y _ (k1.trans (Kp.grow g4)) (X1.grow g4) hy
theorem C_compared_2 (W : Wld w h₀) (h : LxAt w σ x dx t (61 :: 61 :: r) B) (hk : ∀ y σ', Kp dx σ σ' → LxAt w σ' x dx t r B → TokAt σ' y (.int 280) .none → k (.ref y) σ') : CALL w h₀ (n + 3) (.ref 588) [.ref x, .int 61] σ k := by
  obtain ⟨l, rfl, hs, H, -⟩ := h.get
  refine E_588 W fun L => ?_
  (conv => whnf)
  refine ⟨_, H.hx, ?_⟩
  (conv => whnf)
  refine ⟨_, H.hdx, ?_⟩
  (conv => whnf)
  refine X_move W h fun σ1 k1 X1 => ?_
  obtain ⟨l1, e1, hs1, H1, -⟩ := X1.get
  (conv => whnf)
  refine ⟨_, H1.hx, ?_⟩
  (conv => whnf)
  refine ⟨_, H1.hdx, ?_⟩
  (conv => whnf)
  rw [hs1]
  first | refine goF1 (rfl) ?_ | refine goF2 (rfl) ?_
  (conv => whnf)
  refine ⟨_, H1.hx, ?_⟩
  (conv => whnf)
  refine ⟨_, H1.hdx, ?_⟩
  (conv => whnf)
  refine X_move W X1 fun σ2 k2 X2 => ?_
  obtain ⟨l2, e2, hs2, H2, -⟩ := X2.get
  (conv => whnf)
  first | refine goT1 (rfl) ?_ | refine goT2 (rfl) ?_
  (conv => whnf)
  refine X_token W fun y σ4 g4 hy => ?_
  (conv => whnf)
  exact hk y _ ((k1.trans k2).trans (Kp.grow g4)) (X2.grow g4) hy
theorem C_dots (W : Wld w h₀) (h : LxAt w σ x dx t (46 :: 46 :: 32 :: r) []) (hk : ∀ y σ' B', Kp dx σ σ' → LxAt w σ' x dx t (32 :: r) B' → TokAt σ' y (.int 278) .none → k (.ref y) σ') : CALL w h₀ (n + 5) (.ref 595) [.ref x] σ k := by
  obtain ⟨l, rfl, hs, H, -⟩ := h.get
  refine E_595 W fun L => ?_
  (conv => whnf)
  refine ⟨_, H.hx, ?_⟩
  (conv => whnf)
  refine ⟨_, H.hdx, ?_⟩
  (conv => whnf)
  refine X_kam W h (by simp) fun σ1 k1 X1 => ?_
  obtain ⟨l1, e1, hs1, H1, -⟩ := X1.get
  (conv => whnf)
  refine ⟨_, H1.hx, ?_⟩
  (conv => whnf)
  refine ⟨_, H1.hdx, ?_⟩
  (conv => whnf)
  refine ⟨by show 1 ≤ 1000; decide, fun tu htu => ?_⟩
  (conv => whnf)
  have X2 := X1.grow (Grow.upd (o := .tuple [.int 46]) htu)
  obtain ⟨l2, e2, hs2, H2, -⟩ := X2.get
  refine X_kif_yes W [46] X2 (by simp) (by rw [St.upd_same]; rfl) (by decide) rfl fun σ3 k3 X3 => ?_
  obtain ⟨l3, e3, hs3, H3, -⟩ := X3.get
  (conv => whnf)
  first | refine goT1 (rfl) ?_ | refine goT2 (rfl) ?_
  (conv => whnf)
  refine ⟨_, H3.hx, ?_⟩
  (conv => whnf)
  refine ⟨_, H3.hdx, ?_⟩
  (conv => whnf)
  refine ⟨by show 1 ≤ 1000; decide, fun tu2 htu2 => ?_⟩
  (conv => whnf)
  have X4 := X3.grow (Grow.upd (o := .tuple [.int 46]) htu2)
  obtain ⟨l4, e4, hs4, H4, -⟩ := X4.get
  refine X_kif_no W [46] X4 (by simp) (by rw [St.upd_same]; rfl) (by decide) rfl ?_
  (conv => whnf)
  first | refine goF1 (rfl) ?_ | refine goF2 (rfl) ?_
  (conv => whnf)
  refine X_token W fun y σ5 g5 hy => ?_
  (conv => whnf)
  exact hk y _ _ (((k1.trans (Kp.grow (Grow.upd htu))).trans k3).trans ((Kp.grow (Grow.upd htu2)).trans (Kp.grow g5))) (X4.grow g5) hy
theorem C_bracket (W : Wld w h₀) (h : LxAt w σ x dx t (91 :: 91 :: 97 :: 10 :: 93 :: 93 :: r) []) (hk : ∀ y σ' B', Kp dx σ σ' → LxAt w σ' x dx t r B' → TokAt σ' y (.int 286) (.bytes [97, 10]) → k (.ref y) σ') : CALL w h₀ (n + 6) (.ref 616) [.ref x] σ k := by
  obtain ⟨l, rfl, hs, H, -⟩ := h.get
  refine E_616 W fun L => ?_
  (conv => whnf)
  refine ⟨_, H.hx, ?_⟩
  (conv => whnf)
  refine ⟨_, H.hdx, ?_⟩
  (conv => whnf)
  refine C_read_level W h (by decide) (by simp) fun σ1 k1 X1 => ?_
  obtain ⟨l1, e1, hs1, H1, -⟩ := X1.get
  (conv => whnf)
  first | refine goT1 (rfl) ?_ | refine goT2 (rfl) ?_
  (conv => whnf)
  refine ⟨_, H1.hx, ?_⟩
  (conv => whnf)
  refine ⟨_, H1.hdx, ?_⟩
  (conv => whnf)
  refine C_read_long_t W X1 fun σ2 B2 k2 X2 => ?_
  (conv => whnf)
  refine X_token W fun y σ5 g5 hy => ?_
  (conv => whnf)
  exact hk y _ _ ((k1.trans k2).trans (Kp.grow g5)) (X2.grow g5) hy
end

end Mine

end
section
open PySem PySem.W PyProof.Rows PySem.Calls
set_option maxHeartbeats 4000000
set_option linter.unusedVariables false
set_option linter.unusedSimpArgs false
namespace Mine
open MineK
open PySem.Challenge (pw_xm0629_01 rw_xm0629_01)
section
variable {w : World} {h₀ : Heap} {n : Nat} {x dx : Addr} {t r B : List UInt8} {c : UInt8} {σ : St} {k : kV}
noncomputable def isNam (i : Int) : Bool := isLet i || isDig i
theorem C_word (W : Wld w h₀) {wd : List UInt8} (hz : wd.length ≤ 100000) (h : LxAt w σ x dx t (wd ++ r) []) (hw : ∀ c ∈ wd, isNam c.toNat = true) (hr : isNam (hd r) = false) (hkd : kindF wd = none) (hk : ∀ y σ' B', Kp dx σ σ' → LxAt w σ' x dx t r B' → TokAt σ' y (.int 285) (.bytes wd) → k (.ref y) σ') : CALL w h₀ (n + 5) (.ref 602) [.ref x] σ k := by
  refine E_602 W fun L => ?_
  (conv => whnf)
  refine while_inv (fun m ρ σ' => ∃ wd1 wd2 : List UInt8, wd = wd1 ++ wd2 ∧ m = wd2.length ∧ ρ = ([("self", .ref x)] : Nm) ∧ LxAt w σ' x dx t (wd2 ++ r) wd1 ∧ Kp dx σ σ') ?_ (N := wd.length) ⟨[], wd, rfl, rfl, rfl, h, Kp.refl _ _⟩
  rintro m ρ σ' K ⟨wd1, wd2, e1, e2, rfl, X, kp⟩ hK - - -
  have hl := congrArg List.length e1
  rw [List.length_append] at hl
  obtain ⟨l, rfl, hs, H, -⟩ := X.get
  (conv => whnf)
  refine ⟨_, H.hx, ?_⟩
  (conv => whnf)
  refine ⟨_, H.hdx, ?_⟩
  (conv => whnf)
  rw [hs]
  refine C_namesign W ?_
  match wd2, e1, e2, X, hs with
  | [], e1, e2, X, hs =>
    rw [List.nil_append] at hs X
    rw [List.append_nil] at e1
    subst e1
    have e0 : (isLet (hd ([] ++ r)) || isDig (hd ([] ++ r))) = false := hr
    rw [e0]
    first | refine goF1 (rfl) ?_ | refine goF2 (rfl) ?_
    (conv => whnf)
    refine ⟨_, H.hx, ?_⟩
    (conv => whnf)
    refine ⟨_, H.hdx, ?_⟩
    (conv => whnf)
    refine ⟨_, H.hbuf, ?_⟩
    (conv => whnf)
    refine ⟨by omega, ?_⟩
    (conv => whnf)
    refine ⟨_, H.hx, ?_⟩
    (conv => whnf)
    refine ⟨_, H.hdx, ?_⟩
    (conv => whnf)
    obtain ⟨o, nn, p1, p2, p3⟩ := H.hkd
    refine ⟨_, p1, ?_⟩
    (conv => whnf)
    refine ⟨⟨_, _, p3⟩, ?_⟩
    (conv => whnf)
    refine ⟨o, _, nn, ⟨p1, p2, p3⟩, ?_⟩
    rw [hkd]
    (conv => whnf)
    refine ⟨fun u e => (by cases e), ?_⟩
    (conv => whnf)
    first | refine goT1 (rfl) ?_ | refine goT2 (rfl) ?_
    (conv => whnf)
    refine X_token W fun y σ5 g5 hy => ?_
    (conv => whnf)
    exact hk y _ _ (kp.trans (Kp.grow g5)) (X.grow g5) hy
  | d :: wd2, e1, e2, X, hs =>
    have hd1 := hw d (by rw [e1]; simp)
    have e0 : (isLet (hd ((d :: wd2) ++ r)) || isDig (hd ((d :: wd2) ++ r))) = true := hd1
    rw [e0]
    rw [List.length_cons] at hl
    first | refine goT1 (rfl) ?_ | refine goT2 (rfl) ?_
    (conv => whnf)
    refine ⟨_, H.hx, ?_⟩
    (conv => whnf)
    refine ⟨_, H.hdx, ?_⟩
    (conv => whnf)
    refine X_kam W (r := wd2 ++ r) (c := d) X (by omega) fun σ1 k1 X1 => ?_
    (conv => whnf)
    exact hK wd2.length _ _ (by rw [e2]; simp) ⟨wd1 ++ [d], wd2, by rw [e1]; simp, rfl, rfl, X1, kp.trans k1⟩
/-! ## escapes -/
noncomputable def escTab : List (UInt8 × MV) := [(114, .int 13), (110, .int 10), (34, .none), (92, .none)]
theorem C_escaped (W : Wld w h₀) {s : UInt8} {o : MV} (h : (s, o) ∈ escTab) (hk : ∀ σ', Grow σ σ' → k o σ') : CALL w h₀ (n + 1) (.ref 427) [.int s.toNat] σ k := by
  unfold escTab at h
  simp only [List.mem_cons, Prod.mk.injEq, List.not_mem_nil, or_false] at h
  rcases h with ⟨rfl, rfl⟩ | ⟨rfl, rfl⟩ | ⟨rfl, rfl⟩ | ⟨rfl, rfl⟩
  · refine E_427 W fun L => ?_
    (conv => whnf)
    refine ⟨by show 1 ≤ 1000; decide, fun a ha => ?_⟩
    (conv => whnf)
    refine ⟨_, by rw [St.upd_same], ?_⟩
    (conv => whnf)
    refine ⟨[114], ⟨rfl, by decide, by decide⟩, ?_⟩
    have ef : findI (bytesOf [114]) [97, 98, 102, 110, 114, 116, 118] = 4 := by decide +kernel
    (conv => whnf)
    rw [ef]
    first | refine goF1 (rfl) ?_ | refine goF2 (rfl) ?_
    (conv => whnf)
    refine ⟨by decide, by decide, ?_⟩
    (conv => whnf)
    exact hk _ (Grow.upd ha)
  · refine E_427 W fun L => ?_
    (conv => whnf)
    refine ⟨by show 1 ≤ 1000; decide, fun a ha => ?_⟩
    (conv => whnf)
    refine ⟨_, by rw [St.upd_same], ?_⟩
    (conv => whnf)
    refine ⟨[110], ⟨rfl, by decide, by decide⟩, ?_⟩
    have ef : findI (bytesOf [110]) [97, 98, 102, 110, 114, 116, 118] = 3 := by decide +kernel
    (conv => whnf)
    rw [ef]
    first | refine goF1 (rfl) ?_ | refine goF2 (rfl) ?_
    (conv => whnf)
    refine ⟨by decide, by decide, ?_⟩
    (conv => whnf)
    exact hk _ (Grow.upd ha)
  · refine E_427 W fun L => ?_
    (conv => whnf)
    refine ⟨by show 1 ≤ 1000; decide, fun a ha => ?_⟩
    (conv => whnf)
    refine ⟨_, by rw [St.upd_same], ?_⟩
    (conv => whnf)
    refine ⟨[34], ⟨rfl, by decide, by decide⟩, ?_⟩
    have ef : findI (bytesOf [34]) [97, 98, 102, 110, 114, 116, 118] = -1 := by decide +kernel
    (conv => whnf)
    rw [ef]
    first | refine goT1 (rfl) ?_ | refine goT2 (rfl) ?_
    (conv => whnf)
    exact hk _ (Grow.upd ha)
  · refine E_427 W fun L => ?_
    (conv => whnf)
    refine ⟨by show 1 ≤ 1000; decide, fun a ha => ?_⟩
    (conv => whnf)
    refine ⟨_, by rw [St.upd_same], ?_⟩
    (conv => whnf)
    refine ⟨[92], ⟨rfl, by decide, by decide⟩, ?_⟩
    have ef : findI (bytesOf [92]) [97, 98, 102, 110, 114, 116, 118] = -1 := by decide +kernel
    (conv => whnf)
    rw [ef]
    first | refine goT1 (rfl) ?_ | refine goT2 (rfl) ?_
    (conv => whnf)
    exact hk _ (Grow.upd ha)
theorem C_esc_digits (W : Wld w h₀) (h : LxAt w σ x dx t (48 :: 48 :: 48 :: r) B) (hB : B.length ≤ 150000) (hk : ∀ σ', Kp dx σ σ' → LxAt w σ' x dx t r (B ++ [0]) → k .none σ') : CALL w h₀ (n + 2) (.ref 658) [.ref x] σ k := by
  obtain ⟨l, rfl, hs, H, -⟩ := h.get
  refine E_658 W fun L => ?_
  (conv => whnf)
  refine ⟨by show 2 ≤ 1000; decide, fun a ha => ?_⟩
  (conv => whnf)
  refine ⟨_, by rw [St.upd_same], ?_⟩
  (conv => whnf)
  refine ⟨rfl, ?_⟩
  (conv => whnf)
  refine ⟨4, ?_⟩
  (conv => whnf)
  first | refine goT1 (rfl) ?_ | refine goT2 (rfl) ?_
  (conv => whnf)
  have X1 := h.grow (Grow.upd (o := .tuple [.int 0, .int 0]) ha)
  obtain ⟨l1, e1, hs1, H1, -⟩ := X1.get
  refine ⟨_, H1.hx, ?_⟩
  (conv => whnf)
  refine ⟨_, H1.hdx, ?_⟩
  (conv => whnf)
  rw [hs1]
  refine C_digit_lex W ?_
  first | refine goT1 (rfl) ?_ | refine goT2 (rfl) ?_
  (conv => whnf)
  first | refine goT1 (rfl) ?_ | refine goT2 (rfl) ?_
  (conv => whnf)
  refine ⟨by decide, ?_⟩
  (conv => whnf)
  refine ⟨_, H1.hx, ?_⟩
  (conv => whnf)
  refine ⟨_, H1.hdx, ?_⟩
  (conv => whnf)
  rw [hs1]
  refine ⟨_, H1.hx, ?_⟩
  (conv => whnf)
  refine ⟨_, H1.hdx, ?_⟩
  (conv => whnf)
  refine X_move W X1 fun σ2 k2 X2 => ?_
  obtain ⟨l2, e2, hs2, H2, -⟩ := X2.get
  (conv => whnf)
  first | refine goT1 (rfl) ?_ | refine goT2 (rfl) ?_
  (conv => whnf)
  refine ⟨_, H2.hx, ?_⟩
  (conv => whnf)
  refine ⟨_, H2.hdx, ?_⟩
  (conv => whnf)
  rw [hs2]
  refine C_digit_lex W ?_
  first | refine goT1 (rfl) ?_ | refine goT2 (rfl) ?_
  (conv => whnf)
  first | refine goT1 (rfl) ?_ | refine goT2 (rfl) ?_
  (conv => whnf)
  refine ⟨by decide, ?_⟩
  (conv => whnf)
  refine ⟨_, H2.hx, ?_⟩
  (conv => whnf)
  refine ⟨_, H2.hdx, ?_⟩
  (conv => whnf)
  rw [hs2]
  refine ⟨_, H2.hx, ?_⟩
  (conv => whnf)
  refine ⟨_, H2.hdx, ?_⟩
  (conv => whnf)
  refine X_move W X2 fun σ3 k3 X3 => ?_
  obtain ⟨l3, e3, hs3, H3, -⟩ := X3.get
  (conv => whnf)
  first | refine goT1 (rfl) ?_ | refine goT2 (rfl) ?_
  (conv => whnf)
  refine ⟨_, H3.hx, ?_⟩
  (conv => whnf)
  refine ⟨_, H3.hdx, ?_⟩
  (conv => whnf)
  rw [hs3]
  refine C_digit_lex W ?_
  first | refine goT1 (rfl) ?_ | refine goT2 (rfl) ?_
  (conv => whnf)
  first | refine goT1 (rfl) ?_ | refine goT2 (rfl) ?_
  (conv => whnf)
  refine ⟨by decide, ?_⟩
  (conv => whnf)
  refine ⟨_, H3.hx, ?_⟩
  (conv => whnf)
  refine ⟨_, H3.hdx, ?_⟩
  (conv => whnf)
  rw [hs3]
  refine ⟨_, H3.hx, ?_⟩
  (conv => whnf)
  refine ⟨_, H3.hdx, ?_⟩
  (conv => whnf)
  refine X_move W X3 fun σ4 k4 X4 => ?_
  obtain ⟨l4, e4, hs4, H4, -⟩ := X4.get
  (conv => whnf)
  first | refine goF1 (rfl) ?_ | refine goF2 (rfl) ?_
  (conv => whnf)
  first | refine goF1 (rfl) ?_ | refine goF2 (rfl) ?_
  (conv => whnf)
  first | refine goF1 (rfl) ?_ | refine goF2 (rfl) ?_
  (conv => whnf)
  refine ⟨_, H4.hx, ?_⟩
  (conv => whnf)
  refine ⟨_, H4.hdx, ?_⟩
  (conv => whnf)
  refine X_keep W X4 (by constructor <;> simp [hd]) hB fun σ5 k5 X5 => ?_
  (conv => whnf)
  exact hk _ (((Kp.grow (Grow.upd ha)).trans k2).trans ((k3.trans k4).trans k5)) X5
/-- an escape -/
inductive Esc : List UInt8 → UInt8 → List UInt8 → Prop
  | nl {r : List UInt8} (h : hd r ≠ 13) : Esc (10 :: r) 10 r
  | zero {r : List UInt8} : Esc (48 :: 48 :: 48 :: r) 0 r
  | r {r : List UInt8} : Esc (114 :: r) 13 r
  | n {r : List UInt8} : Esc (110 :: r) 10 r
  | self {c : UInt8} {r : List UInt8} (h : c = 34 ∨ c = 92) : Esc (c :: r) c r
theorem C_escape (W : Wld w h₀) {r' : List UInt8} {v : UInt8} (h : LxAt w σ x dx t r B) (hB : B.length ≤ 150000) (hE : Esc r v r') (hk : ∀ σ', Kp dx σ σ' → LxAt w σ' x dx t r' (B ++ [v]) → k .none σ') : CALL w h₀ (n + 3) (.ref 651) [.ref x] σ k := by
  obtain ⟨l, rfl, hs, H, -⟩ := h.get
  refine E_651 W fun L => ?_
  (conv => whnf)
  refine ⟨_, H.hx, ?_⟩
  (conv => whnf)
  refine ⟨_, H.hdx, ?_⟩
  (conv => whnf)
  rw [hs]
  cases hE with
  | nl h13 =>
    first | refine goF1 (rfl) ?_ | refine goF2 (rfl) ?_
    (conv => whnf)
    refine ⟨_, H.hx, ?_⟩
    (conv => whnf)
    refine ⟨_, H.hdx, ?_⟩
    (conv => whnf)
    rw [hs]
    refine C_newline W fun σ1 g1 => ?_
    have X1 := h.grow g1
    obtain ⟨l1, e1, hs1, H1, -⟩ := X1.get
    first | refine goT1 (rfl) ?_ | refine goT2 (rfl) ?_
    (conv => whnf)
    refine ⟨_, H1.hx, ?_⟩
    (conv => whnf)
    refine ⟨_, H1.hdx, ?_⟩
    (conv => whnf)
    refine X_keep W X1 (by decide) hB fun σ2 k2 X2 => ?_
    obtain ⟨l2, e2, hs2, H2, -⟩ := X2.get
    (conv => whnf)
    refine ⟨_, H2.hx, ?_⟩
    (conv => whnf)
    refine ⟨_, H2.hdx, ?_⟩
    (conv => whnf)
    refine X_eol W X2 fun σ3 k3 X3 => ?_
    (conv => whnf)
    have ee : eolR 10 r' = r' := by
      unfold eolR eolN
      split
      · rfl
      · rename_i d r2
        by_cases hq : isNL d.toNat = true ∧ d ≠ 10
        · exfalso
          apply h13
          obtain ⟨q1, q2⟩ := hq
          unfold isNL at q1
          simp [← UInt8.toNat_inj] at q1 q2
          show (d.toNat : Int) = 13
          omega
        · rw [if_neg hq]; rfl
    rw [ee] at X3
    exact hk _ ((Kp.grow g1).trans (k2.trans k3)) X3
  | zero =>
    first | refine goF1 (rfl) ?_ | refine goF2 (rfl) ?_
    (conv => whnf)
    refine ⟨_, H.hx, ?_⟩
    (conv => whnf)
    refine ⟨_, H.hdx, ?_⟩
    (conv => whnf)
    rw [hs]
    refine C_newline W fun σ1 g1 => ?_
    have X1 := h.grow g1
    obtain ⟨l1, e1, hs1, H1, -⟩ := X1.get
    first | refine goF1 (rfl) ?_ | refine goF2 (rfl) ?_
    (conv => whnf)
    refine ⟨_, H1.hx, ?_⟩
    (conv => whnf)
    refine ⟨_, H1.hdx, ?_⟩
    (conv => whnf)
    rw [hs1]
    refine C_digit_lex W ?_
    first | refine goT1 (rfl) ?_ | refine goT2 (rfl) ?_
    (conv => whnf)
    refine ⟨_, H1.hx, ?_⟩
    (conv => whnf)
    refine ⟨_, H1.hdx, ?_⟩
    (conv => whnf)
    refine C_esc_digits W X1 hB fun σ2 k2 X2 => ?_
    (conv => whnf)
    exact hk _ ((Kp.grow g1).trans k2) X2
  | r =>
    first | refine goF1 (rfl) ?_ | refine goF2 (rfl) ?_
    (conv => whnf)
    refine ⟨_, H.hx, ?_⟩
    (conv => whnf)
    refine ⟨_, H.hdx, ?_⟩
    (conv => whnf)
    rw [hs]
    refine C_newline W fun σ1 g1 => ?_
    have X1 := h.grow g1
    obtain ⟨l1, e1, hs1, H1, -⟩ := X1.get
    first | refine goF1 (rfl) ?_ | refine goF2 (rfl) ?_
    (conv => whnf)
    refine ⟨_, H1.hx, ?_⟩
    (conv => whnf)
    refine ⟨_, H1.hdx, ?_⟩
    (conv => whnf)
    rw [hs1]
    refine C_digit_lex W ?_
    first | refine goF1 (rfl) ?_ | refine goF2 (rfl) ?_
    (conv => whnf)
    refine ⟨_, H1.hx, ?_⟩
    (conv => whnf)
    refine ⟨_, H1.hdx, ?_⟩
    (conv => whnf)
    rw [hs1]
    refine C_escaped W (s := 114) (o := .int 13) (by simp [escTab]) fun σ2 g2 => ?_
    have X2 := X1.grow g2
    obtain ⟨l2, e2, hs2, H2, -⟩ := X2.get
    (conv => whnf)
    refine ⟨_, H2.hx, ?_⟩
    (conv => whnf)
    refine ⟨_, H2.hdx, ?_⟩
    (conv => whnf)
    refine ⟨fun u e => (by cases e), ?_⟩
    (conv => whnf)
    first | refine goF1 (rfl) ?_ | refine goF2 (rfl) ?_
    (conv => whnf)
    refine X_keep W X2 (by decide) hB fun σ3 k3 X3 => ?_
    obtain ⟨l3, e3, hs3, H3, -⟩ := X3.get
    (conv => whnf)
    refine ⟨_, H3.hx, ?_⟩
    (conv => whnf)
    refine ⟨_, H3.hdx, ?_⟩
    (conv => whnf)
    refine X_move W X3 fun σ4 k4 X4 => ?_
    (conv => whnf)
    exact hk _ (((Kp.grow g1).trans (Kp.grow g2)).trans (k3.trans k4)) X4
  | n =>
    first | refine goF1 (rfl) ?_ | refine goF2 (rfl) ?_
    (conv => whnf)
    refine ⟨_, H.hx, ?_⟩
    (conv => whnf)
    refine ⟨_, H.hdx, ?_⟩
    (conv => whnf)
    rw [hs]
    refine C_newline W fun σ1 g1 => ?_
    have X1 := h.grow g1
    obtain ⟨l1, e1, hs1, H1, -⟩ := X1.get
    first | refine goF1 (rfl) ?_ | refine goF2 (rfl) ?_
    (conv => whnf)
    refine ⟨_, H1.hx, ?_⟩
    (conv => whnf)
    refine ⟨_, H1.hdx, ?_⟩
    (conv => whnf)
    rw [hs1]
    refine C_digit_lex W ?_
    first | refine goF1 (rfl) ?_ | refine goF2 (rfl) ?_
    (conv => whnf)
    refine ⟨_, H1.hx, ?_⟩
    (conv => whnf)
    refine ⟨_, H1.hdx, ?_⟩
    (conv => whnf)
    rw [hs1]
    refine C_escaped W (s := 110) (o := .int 10) (by simp [escTab]) fun σ2 g2 => ?_
    have X2 := X1.grow g2
    obtain ⟨l2, e2, hs2, H2, -⟩ := X2.get
    (conv => whnf)
    refine ⟨_, H2.hx, ?_⟩
    (conv => whnf)
    refine ⟨_, H2.hdx, ?_⟩
    (conv => whnf)
    refine ⟨fun u e => (by cases e), ?_⟩
    (conv => whnf)
    first | refine goF1 (rfl) ?_ | refine goF2 (rfl) ?_
    (conv => whnf)
    refine X_keep W X2 (by decide) hB fun σ3 k3 X3 => ?_
    obtain ⟨l3, e3, hs3, H3, -⟩ := X3.get
    (conv => whnf)
    refine ⟨_, H3.hx, ?_⟩
    (conv => whnf)
    refine ⟨_, H3.hdx, ?_⟩
    (conv => whnf)
    refine X_move W X3 fun σ4 k4 X4 => ?_
    (conv => whnf)
    exact hk _ (((Kp.grow g1).trans (Kp.grow g2)).trans (k3.trans k4)) X4
  | self hc =>
    have hc1 : (hd (v :: r') == (-1 : Int)) = false := by rcases hc with rfl | rfl <;> rfl
    have hc2 : isNL (hd (v :: r')) = false := by rcases hc with rfl | rfl <;> rfl
    have hc3 : isDig (hd (v :: r')) = false := by rcases hc with rfl | rfl <;> rfl
    first | refine goF1 (hc1) ?_ | refine goF2 (hc1) ?_
    (conv => whnf)
    refine ⟨_, H.hx, ?_⟩
    (conv => whnf)
    refine ⟨_, H.hdx, ?_⟩
    (conv => whnf)
    rw [hs]
    refine C_newline W fun σ1 g1 => ?_
    have X1 := h.grow g1
    obtain ⟨l1, e1, hs1, H1, -⟩ := X1.get
    first | refine goF1 (hc2) ?_ | refine goF2 (hc2) ?_
    (conv => whnf)
    refine ⟨_, H1.hx, ?_⟩
    (conv => whnf)
    refine ⟨_, H1.hdx, ?_⟩
    (conv => whnf)
    rw [hs1]
    refine C_digit_lex W ?_
    first | refine goF1 (hc3) ?_ | refine goF2 (hc3) ?_
    (conv => whnf)
    refine ⟨_, H1.hx, ?_⟩
    (conv => whnf)
    refine ⟨_, H1.hdx, ?_⟩
    (conv => whnf)
    rw [hs1]
    refine C_escaped W (s := v) (o := .none) (by rcases hc with rfl | rfl <;> simp [escTab]) fun σ2 g2 => ?_
    have X2 := X1.grow g2
    obtain ⟨l2, e2, hs2, H2, -⟩ := X2.get
    have hv := v.toNat_lt
    (conv => whnf)
    refine ⟨_, H2.hx, ?_⟩
    (conv => whnf)
    refine ⟨_, H2.hdx, ?_⟩
    (conv => whnf)
    refine ⟨fun u e => (by cases e), ?_⟩
    (conv => whnf)
    first | refine goT1 (rfl) ?_ | refine goT2 (rfl) ?_
    (conv => whnf)
    refine ⟨_, H2.hx, ?_⟩
    (conv => whnf)
    refine ⟨_, H2.hdx, ?_⟩
    (conv => whnf)
    rw [hs2]
    refine X_keep W (i := (v.toNat : Int)) X2 ⟨by omega, by omega⟩ hB fun σ3 k3 X3 => ?_
    obtain ⟨l3, e3, hs3, H3, -⟩ := X3.get
    (conv => whnf)
    refine ⟨_, H3.hx, ?_⟩
    (conv => whnf)
    refine ⟨_, H3.hdx, ?_⟩
    (conv => whnf)
    refine X_move W X3 fun σ4 k4 X4 => ?_
    (conv => whnf)
    have e : (Int.toNat (v.toNat : Int)).toUInt8 = v := by simp
    rw [e] at X4
    exact hk _ (((Kp.grow g1).trans (Kp.grow g2)).trans (k3.trans k4)) X4
end

end Mine

end
section
open PySem PySem.W PyProof.Rows PySem.Calls
set_option maxHeartbeats 4000000
set_option linter.unusedVariables false
set_option linter.unusedSimpArgs false
namespace Mine
open MineK
open PySem.Challenge (pw_xm0629_01 rw_xm0629_01)
section
variable {w : World} {h₀ : Heap} {n : Nat} {x dx : Addr} {t r B : List UInt8} {c : UInt8} {σ : St} {k : kV}
/-! ## strings -/
inductive SB (q : UInt8) : List UInt8 → List UInt8 → List UInt8 → Prop
  | nil {r : List UInt8} : SB q (q :: r) [] r
  | plain {c : UInt8} {r v r' : List UInt8} (h1 : c ≠ q) (h2 : c ≠ 92) (h3 : isNL c.toNat = false) (h : SB q r v r') : SB q (c :: r) (c :: v) r'
  | esc {c : UInt8} {r r1 v r' : List UInt8} (he : Esc r c r1) (h : SB q r1 v r') : SB q (92 :: r) (c :: v) r'
theorem Esc.len {c : UInt8} {r r1 : List UInt8} (h : Esc r c r1) : r1.length < r.length := by cases h <;> simp <;> omega
theorem SB.len {q : UInt8} {r v r' : List UInt8} (h : SB q r v r') : v.length + r'.length < r.length := by
  induction h with
  | nil => simp
  | plain _ _ _ _ ih => simp; omega
  | esc he _ ih => have := he.len; simp; omega
theorem C_string (W : Wld w h₀) {q : UInt8} {v r' : List UInt8} (hq : q = 34 ∨ q = 39) (h : LxAt w σ x dx t (q :: r) []) (hS : SB q r v r') (hk : ∀ y σ' B', Kp dx σ σ' → LxAt w σ' x dx t r' B' → TokAt σ' y (.int 286) (.bytes v) → k (.ref y) σ') : CALL w h₀ (n + 4) (.ref 644) [.ref x, .int q.toNat] σ k := by
  obtain ⟨l, rfl, hs, H, hrl⟩ := h.get
  have hvl := hS.len
  rw [List.length_cons] at hrl
  refine E_644 W fun L => ?_
  (conv => whnf)
  refine ⟨_, H.hx, ?_⟩
  (conv => whnf)
  refine ⟨_, H.hdx, ?_⟩
  (conv => whnf)
  refine X_kam W h (by simp) fun σ1 k1 X1 => ?_
  (conv => whnf)
  refine while_inv (fun m ρ σ' => ∃ ra v1 v2 : List UInt8, SB q ra v2 r' ∧ v1 ++ v2 = v ∧ m = ra.length ∧ ρ = ([("self", .ref x), ("quote", .int q.toNat)] : Nm) ∧ LxAt w σ' x dx l.t ra (q :: v1) ∧ Kp dx σ σ') ?_ (N := r.length) ⟨r, [], v, hS, rfl, rfl, rfl, X1, k1⟩
  rintro m ρ σ2 K ⟨ra, v1, v2, S2, ev, em, rfl, X2, k2⟩ hK - - -
  have hl := congrArg List.length ev
  rw [List.length_append] at hl
  obtain ⟨l2, e2, hs2, H2, -⟩ := X2.get
  have hB : (q :: v1).length ≤ 150000 := by rw [List.length_cons]; omega
  (conv => whnf)
  refine ⟨_, H2.hx, ?_⟩
  (conv => whnf)
  refine ⟨_, H2.hdx, ?_⟩
  (conv => whnf)
  rw [hs2]
  cases S2 with
  | nil =>
    first | refine goF1 (by simp [hd]) ?_ | refine goF2 (by simp [hd]) ?_
    (conv => whnf)
    refine ⟨_, H2.hx, ?_⟩
    (conv => whnf)
    refine ⟨_, H2.hdx, ?_⟩
    (conv => whnf)
    refine X_kam W X2 hB fun σ3 k3 X3 => ?_
    obtain ⟨l3, e3, hs3, H3, -⟩ := X3.get
    rw [List.append_nil] at ev
    subst ev
    (conv => whnf)
    refine ⟨_, H3.hx, ?_⟩
    (conv => whnf)
    refine ⟨_, H3.hdx, ?_⟩
    (conv => whnf)
    refine ⟨_, H3.hx, ?_⟩
    (conv => whnf)
    refine ⟨_, H3.hdx, ?_⟩
    (conv => whnf)
    refine ⟨_, H3.hbuf, ?_⟩
    (conv => whnf)
    refine ⟨by simp; omega, ?_⟩
    (conv => whnf)
    refine ⟨some 1, some (v1.length + 1), by simp [partN], ?_, ?_⟩
    · have e : (((q :: v1 ++ [q]).length : Nat) : Int) - 1 = ((v1.length + 1 : Nat) : Int) := by simp
      show partN (.int ((((q :: v1 ++ [q]).length : Nat) : Int) - 1)) = _
      rw [e]
      simp [partN]; omega
    refine ⟨_, H3.hbuf, by simp; omega, fun b hb => ?_⟩
    have ec : cut (q :: v1 ++ [q]) (some 1) (some (v1.length + 1)) = v1 := by simp [cut]
    (conv => whnf)
    refine ⟨_, by rw [St.upd_same], ?_⟩
    (conv => whnf)
    rw [ec]
    refine ⟨by omega, ?_⟩
    (conv => whnf)
    refine X_token W fun y σ5 g5 hy => ?_
    (conv => whnf)
    exact hk y _ _ ((k2.trans k3).trans ((Kp.grow (Grow.upd hb)).trans (Kp.grow g5))) ((X3.grow (Grow.upd hb)).grow g5) hy
  | plain c1 c2 c3 S3 =>
    rename_i c ra v2
    rw [List.length_cons] at hl
    first | refine goT1 (by simp [hd, ← UInt8.toNat_inj] at c1 ⊢; omega) ?_ | refine goT2 (by simp [hd, ← UInt8.toNat_inj] at c1 ⊢; omega) ?_
    (conv => whnf)
    refine ⟨_, H2.hx, ?_⟩
    (conv => whnf)
    refine ⟨_, H2.hdx, ?_⟩
    (conv => whnf)
    rw [hs2]
    first | refine goF1 (by simp [hd]) ?_ | refine goF2 (by simp [hd]) ?_
    (conv => whnf)
    refine ⟨_, H2.hx, ?_⟩
    (conv => whnf)
    refine ⟨_, H2.hdx, ?_⟩
    (conv => whnf)
    rw [hs2]
    refine C_newline W fun σ3 g3 => ?_
    have X3 := X2.grow g3
    obtain ⟨l3, e3, hs3, H3, -⟩ := X3.get
    first | refine goF1 (c3) ?_ | refine goF2 (c3) ?_
    (conv => whnf)
    refine ⟨_, H3.hx, ?_⟩
    (conv => whnf)
    refine ⟨_, H3.hdx, ?_⟩
    (conv => whnf)
    rw [hs3]
    first | refine goF1 (by simp [hd, ← UInt8.toNat_inj] at c2 ⊢; omega) ?_ | refine goF2 (by simp [hd, ← UInt8.toNat_inj] at c2 ⊢; omega) ?_
    (conv => whnf)
    refine ⟨_, H3.hx, ?_⟩
    (conv => whnf)
    refine ⟨_, H3.hdx, ?_⟩
    (conv => whnf)
    refine X_kam W X3 hB fun σ4 k4 X4 => ?_
    (conv => whnf)
    exact hK ra.length _ _ (by rw [em]; simp) ⟨ra, v1 ++ [c], v2, S3, by rw [← ev]; simp, rfl, rfl, X4, (k2.trans (Kp.grow g3)).trans k4⟩
  | esc he S3 =>
    rename_i c ra r1 v2
    rw [List.length_cons] at hl
    first | refine goT1 (by rcases hq with rfl | rfl <;> rfl) ?_ | refine goT2 (by rcases hq with rfl | rfl <;> rfl) ?_
    (conv => whnf)
    refine ⟨_, H2.hx, ?_⟩
    (conv => whnf)
    refine ⟨_, H2.hdx, ?_⟩
    (conv => whnf)
    rw [hs2]
    first | refine goF1 (rfl) ?_ | refine goF2 (rfl) ?_
    (conv => whnf)
    refine ⟨_, H2.hx, ?_⟩
    (conv => whnf)
    refine ⟨_, H2.hdx, ?_⟩
    (conv => whnf)
    rw [hs2]
    refine C_newline W fun σ3 g3 => ?_
    have X3 := X2.grow g3
    obtain ⟨l3, e3, hs3, H3, -⟩ := X3.get
    first | refine goF1 (rfl) ?_ | refine goF2 (rfl) ?_
    (conv => whnf)
    refine ⟨_, H3.hx, ?_⟩
    (conv => whnf)
    refine ⟨_, H3.hdx, ?_⟩
    (conv => whnf)
    rw [hs3]
    first | refine goT1 (rfl) ?_ | refine goT2 (rfl) ?_
    (conv => whnf)
    refine ⟨_, H3.hx, ?_⟩
    (conv => whnf)
    refine ⟨_, H3.hdx, ?_⟩
    (conv => whnf)
    refine X_move W X3 fun σ4 k4 X4 => ?_
    obtain ⟨l4, e4, hs4, H4, -⟩ := X4.get
    (conv => whnf)
    refine ⟨_, H4.hx, ?_⟩
    (conv => whnf)
    refine ⟨_, H4.hdx, ?_⟩
    (conv => whnf)
    refine C_escape W X4 hB he fun σ5 k5 X5 => ?_
    (conv => whnf)
    have hel := he.len
    exact hK r1.length _ _ (by rw [em]; simp; omega) ⟨r1, v1 ++ [c], v2, S3, by rw [← ev]; simp, rfl, rfl, X5, ((k2.trans (Kp.grow g3)).trans k4).trans k5⟩
/-! ## read -/
inductive Sks : List UInt8 → List UInt8 → Prop
  | refl {r : List UInt8} : Sks r r
  | step {r r1 r2 : List UInt8} (h : Sk r r1) (h2 : Sks r1 r2) : Sks r r2
inductive Tk : List UInt8 → Int → MV → List UInt8 → Prop
  | word {wd r : List UInt8} (h0 : isLet (hd wd) = true) (hw : ∀ c ∈ wd, isNam c.toNat = true) (hr : isNam (hd r) = false) (hkd : kindF wd = none) : Tk (wd ++ r) 285 (.bytes wd) r
  | str {q : UInt8} {r v r' : List UInt8} (hq : q = 34 ∨ q = 39) (h : SB q r v r') : Tk (q :: r) 286 (.bytes v) r'
  | long {r : List UInt8} : Tk (91 :: 91 :: 97 :: 10 :: 93 :: 93 :: r) 286 (.bytes [97, 10]) r
  | dots {r : List UInt8} : Tk (46 :: 46 :: 32 :: r) 278 .none (32 :: r)
  | num {r : List UInt8} : Tk (55 :: 32 :: r) 284 (.int 7) (32 :: r)
  | eq1 {r : List UInt8} (h : hd r ≠ 61) : Tk (61 :: r) 61 .none r
  | eq2 {r : List UInt8} : Tk (61 :: 61 :: r) 280 .none r
  | pct {r : List UInt8} : Tk (37 :: r) 37 .none r
  | par {r : List UInt8} : Tk (40 :: r) 40 .none r
theorem Sk.len {r r1 : List UInt8} (h : Sk r r1) : r1.length < r.length := by
  cases h with
  | nl h => unfold eolR; simp; omega
  | bl => simp
  | cs => simp
  | cl => simp; omega
theorem let_facts {i : Int} (h : isLet i = true) : isNL i = false ∧ isBlk i = false ∧ isDig i = false ∧ i ≠ -1 ∧ i ≠ 34 ∧ i ≠ 39 ∧ i ≠ 91 ∧ i ≠ 46 ∧ i ≠ 45 := by
  unfold isLet at h
  simp only [Bool.or_eq_true, Bool.and_eq_true, decide_eq_true_eq, beq_iff_eq] at h
  unfold isNL isBlk isDig
  refine ⟨by simp; omega, by simp; omega, by simp; omega, ?_⟩
  omega
theorem Tk.start {r : List UInt8} {kd : Int} {v : MV} {r' : List UInt8} (h : Tk r kd v r') : isNL (hd r) = false ∧ isBlk (hd r) = false ∧ hd r ≠ 45 := by
  cases h with
  | word h0 hw hr hkd =>
    rename_i wd
    cases wd with
    | nil => exact absurd h0 (by decide)
    | cons c wd => obtain ⟨a, b, _, _, _, _, _, _, d⟩ := let_facts h0; exact ⟨a, b, d⟩
  | str hq h => rcases hq with rfl | rfl <;> exact ⟨rfl, rfl, fun e => by cases e⟩
  | long => exact ⟨rfl, rfl, fun e => by cases e⟩
  | dots => exact ⟨rfl, rfl, fun e => by cases e⟩
  | num => exact ⟨rfl, rfl, fun e => by cases e⟩
  | eq1 h => exact ⟨rfl, rfl, fun e => by cases e⟩
  | eq2 => exact ⟨rfl, rfl, fun e => by cases e⟩
  | pct => exact ⟨rfl, rfl, fun e => by cases e⟩
  | par => exact ⟨rfl, rfl, fun e => by cases e⟩
end

end Mine

end
section
open PySem PySem.W PyProof.Rows PySem.Calls
set_option maxHeartbeats 4000000
set_option linter.unusedVariables false
set_option linter.unusedSimpArgs false
namespace Mine
open MineK
open PySem.Challenge (pw_xm0629_01 rw_xm0629_01)
section
variable {w : World} {h₀ : Heap} {n : Nat} {x dx : Addr} {t r B : List UInt8} {c : UInt8} {σ : St} {k : kV}
noncomputable def TokK (w : World) (x dx : Addr) (t r : List UInt8) (kd : Int) (v : MV) (k : kV) (σ : St) : Prop := ∀ y σ' B', Kp dx σ σ' → LxAt w σ' x dx t r B' → TokAt σ' y (.int kd) v → k (.ref y) σ'
theorem TokK.grow {r : List UInt8} {kd : Int} {v : MV} {σ σ' : St} (h : TokK w x dx t r kd v k σ) (g : Grow σ σ') : TokK w x dx t r kd v k σ' := fun y σ2 B' kp => h y σ2 B' ((Kp.grow g).trans kp)
noncomputable def LeafC (w : World) (h₀ : Heap) (n : Nat) (x dx : Addr) (t r : List UInt8) (σ : St) (k : kV) (a : Addr) (as : List MV) : Prop := ∀ σ', Grow σ σ' → LxAt w σ' x dx t r [] → CALL w h₀ (n + 7) (.ref a) as σ' k
/-- what the sign ahead leads to -/
structure Leaf (w : World) (h₀ : Heap) (n : Nat) (x dx : Addr) (t r : List UInt8) (s : Int) (σ : St) (k : kV) : Prop where
  eos : s ≠ -1
  str : s = 34 ∨ s = 39 → LeafC w h₀ n x dx t r σ k 644 [.ref x, .int s]
  long : s = 91 → LeafC w h₀ n x dx t r σ k 616 [.ref x]
  dots : s = 46 → LeafC w h₀ n x dx t r σ k 595 [.ref x]
  num : isDig s = true → LeafC w h₀ n x dx t r σ k 609 [.ref x]
  word : isLet s = true → LeafC w h₀ n x dx t r σ k 602 [.ref x]
  minus : s ≠ 45
  cmp : s = 61 ∨ s = 60 ∨ s = 62 ∨ s = 126 → LeafC w h₀ n x dx t r σ k 588 [.ref x, .int s]
  oth : isLet s = false → s ≠ 61 → (s = 34 ∨ s = 39 → False) → s ≠ 91 → s ≠ 46 → isDig s = false → ∃ c r2, r = c :: r2 ∧ TokK w x dx t r2 s .none k σ
theorem Tk.leaf (W : Wld w h₀) {r1 r2 : List UInt8} {kd : Int} {v : MV} {σ3 : St} (ht : Tk r1 kd v r2) (hz : r1.length ≤ 100000) (hk : TokK w x dx t r2 kd v k σ3) : Leaf w h₀ n x dx t r1 (hd r1) σ3 k := by
  cases ht with
  | word h0 hw hr hkd =>
    rename_i wd
    have hwd : hd (wd ++ r2) = hd wd := by
      cases wd with
      | nil => exact absurd h0 (by decide)
      | cons c wd => rfl
    obtain ⟨f1, f2, f3, f4, f5, f6, f7, f8, f9⟩ := let_facts h0
    rw [hwd]
    have hwl : wd.length ≤ 100000 := by
      rw [List.length_append] at hz
      omega
    exact ⟨f4, fun h => (h.elim f5 f6).elim, fun h => (f7 h).elim, fun h => (f8 h).elim, fun h => (by rw [f3] at h; cases h), fun _ σ' g X => C_word W hwl X hw hr hkd (hk.grow g), f9, fun h => (by rcases h with h | h | h | h <;> rw [h] at h0 <;> exact absurd h0 (by decide)), fun h => (by rw [h0] at h; cases h)⟩
  | str hq hsb =>
    rename_i q r v
    have hh : (q.toNat : Int) = 34 ∨ (q.toNat : Int) = 39 := by rcases hq with rfl | rfl <;> decide
    show Leaf w h₀ n x dx t (q :: r) (q.toNat : Int) σ3 k
    exact ⟨by omega, fun _ σ' g X => C_string W hq X hsb (hk.grow g), fun h => by omega, fun h => by omega, fun h => by rcases hq with rfl | rfl <;> exact absurd h (by decide), fun h => by rcases hq with rfl | rfl <;> exact absurd h (by decide), by omega, fun h => by omega, fun _ _ h => (h hh).elim⟩
  | long =>
    show Leaf w h₀ n x dx t _ 91 σ3 k
    exact ⟨by decide, fun h => absurd h (by decide), fun _ σ' g X => C_bracket W X (hk.grow g), fun h => absurd h (by decide), fun h => absurd h (by decide), fun h => absurd h (by decide), by decide, fun h => absurd h (by decide), fun _ _ _ h => (h rfl).elim⟩
  | dots =>
    show Leaf w h₀ n x dx t _ 46 σ3 k
    exact ⟨by decide, fun h => absurd h (by decide), fun h => absurd h (by decide), fun _ σ' g X => C_dots W X (hk.grow g), fun h => absurd h (by decide), fun h => absurd h (by decide), by decide, fun h => absurd h (by decide), fun _ _ _ _ h => (h rfl).elim⟩
  | num =>
    show Leaf w h₀ n x dx t _ 55 σ3 k
    exact ⟨by decide, fun h => absurd h (by decide), fun h => absurd h (by decide), fun h => absurd h (by decide), fun _ σ' g X => C_numeral W X (hk.grow g), fun h => absurd h (by decide), by decide, fun h => absurd h (by decide), fun _ _ _ _ _ h => absurd h (by decide)⟩
  | eq1 hne =>
    show Leaf w h₀ n x dx t _ 61 σ3 k
    exact ⟨by decide, fun h => absurd h (by decide), fun h => absurd h (by decide), fun h => absurd h (by decide), fun h => absurd h (by decide), fun h => absurd h (by decide), by decide, fun _ σ' g X => C_compared_1 W X hne fun y σ'' => hk.grow g y σ'' [], fun _ h => (h rfl).elim⟩
  | eq2 =>
    show Leaf w h₀ n x dx t _ 61 σ3 k
    exact ⟨by decide, fun h => absurd h (by decide), fun h => absurd h (by decide), fun h => absurd h (by decide), fun h => absurd h (by decide), fun h => absurd h (by decide), by decide, fun _ σ' g X => C_compared_2 W X fun y σ'' => hk.grow g y σ'' [], fun _ h => (h rfl).elim⟩
  | pct =>
    show Leaf w h₀ n x dx t _ 37 σ3 k
    exact ⟨by decide, fun h => absurd h (by decide), fun h => absurd h (by decide), fun h => absurd h (by decide), fun h => absurd h (by decide), fun h => absurd h (by decide), by decide, fun h => absurd h (by decide), fun _ _ _ _ _ _ => ⟨_, _, rfl, hk⟩⟩
  | par =>
    show Leaf w h₀ n x dx t _ 40 σ3 k
    exact ⟨by decide, fun h => absurd h (by decide), fun h => absurd h (by decide), fun h => absurd h (by decide), fun h => absurd h (by decide), fun h => absurd h (by decide), by decide, fun h => absurd h (by decide), fun _ _ _ _ _ _ => ⟨_, _, rfl, hk⟩⟩
theorem C_read (W : Wld w h₀) {r1 : List UInt8} (h : LxAt w σ x dx t r B) (hS : Sks r r1)
    (h1 : r1 = [] → ∀ y σ' B', Kp dx σ σ' → LxAt w σ' x dx t [] B' → TokAt σ' y (.int 287) .none → k (.ref y) σ')
    (h2 : r1 = [] ∨ ∃ kd v r2, Tk r1 kd v r2 ∧ ∀ y σ' B', Kp dx σ σ' → LxAt w σ' x dx t r2 B' → TokAt σ' y (.int kd) v → k (.ref y) σ') : CALL w h₀ (n + 8) (.ref 560) [.ref x] σ k := by
  obtain ⟨l, rfl, hs, H, hrl⟩ := h.get
  have start : isNL (hd r1) = false ∧ isBlk (hd r1) = false ∧ hd r1 ≠ 45 := by
    rcases h2 with rfl | ⟨kd, v, r2, ht, -⟩
    · decide
    · exact ht.start
  refine E_560 W fun L => ?_
  (conv => whnf)
  refine ⟨_, H.hx, ?_⟩
  (conv => whnf)
  refine ⟨_, H.hdx, ?_⟩
  (conv => whnf)
  refine X_clear W h fun σ1 k1 X1 => ?_
  (conv => whnf)
  refine while_inv (fun m ρ σ' => ∃ ra : List UInt8, Sks ra r1 ∧ m = ra.length ∧ ρ = ([("self", .ref x)] : Nm) ∧ LxAt w σ' x dx l.t ra [] ∧ Kp dx σ σ') ?_ (N := r.length) ⟨r, hS, rfl, rfl, X1, k1⟩
  rintro m ρ σ2 K ⟨ra, Sa, em, rfl, X2, k2⟩ hK - - -
  obtain ⟨l2, e2, hs2, H2, -⟩ := X2.get
  (conv => whnf)
  refine ⟨_, H2.hx, ?_⟩
  (conv => whnf)
  refine ⟨_, H2.hdx, ?_⟩
  (conv => whnf)
  cases Sa with
  | step sk Sb =>
    rename_i rb
    refine C_skip_yes W X2 sk fun σ3 k3 X3 => ?_
    have hsl := sk.len
    (conv => whnf)
    first | refine goT1 (rfl) ?_ | refine goT2 (rfl) ?_
    (conv => whnf)
    exact hK rb.length _ _ (by omega) ⟨rb, Sb, rfl, rfl, X3, k2.trans k3⟩
  | refl =>
  refine C_skip_no W X2 start.1 start.2.1 start.2.2 fun σ3 k3 X3 => ?_
  obtain ⟨l3, e3, hs3, H3, -⟩ := X3.get
  have k3 := k2.trans k3
  clear hK
  (conv => whnf)
  first | refine goF1 (rfl) ?_ | refine goF2 (rfl) ?_
  (conv => whnf)
  refine ⟨_, H3.hx, ?_⟩
  (conv => whnf)
  refine ⟨_, H3.hdx, ?_⟩
  (conv => whnf)
  rw [hs3]
  rcases h2 with rfl | ⟨kd, v, r2, ht, h2⟩
  · first | refine goT1 (rfl) ?_ | refine goT2 (rfl) ?_
    (conv => whnf)
    refine X_token W fun y σ4 g4 hy => ?_
    (conv => whnf)
    exact h1 rfl y _ _ (k3.trans (Kp.grow g4)) (X3.grow g4) hy
  obtain ⟨_, _, _, _, hrz⟩ := X3.get
  have lf := Tk.leaf (n := n) W ht hrz fun y σ' B' kp => h2 y σ' B' (k3.trans kp)
  clear h1 h2 ht
  revert lf
  generalize hd r1 = s
  intro lf
  first | refine goF1 (by have := lf.eos; simp; omega) ?_ | refine goF2 (by have := lf.eos; simp; omega) ?_
  (conv => whnf)
  refine ⟨by decide, fun aq haq => ?_⟩
  (conv => whnf)
  refine ⟨[34, 39], by rw [St.upd_same]; rfl, ?_⟩
  have ga := Grow.upd (o := .tuple [.int 34, .int 39]) haq
  have X4 := X3.grow ga
  revert ga X4
  generalize σ3.upd aq (.tuple [.int 34, .int 39]) = σ4
  intro ga X4
  obtain ⟨l4, e4, hs4, H4, -⟩ := X4.get
  clear haq
  (conv => whnf)
  refine ⟨fun e => ?_, fun q1 => ?_⟩
  · (conv => whnf)
    refine ⟨_, H4.hx, ?_⟩
    (conv => whnf)
    refine ⟨_, H4.hdx, ?_⟩
    (conv => whnf)
    refine (lf.str (by simp at e; omega) σ4 ga X4).mono (Nat.le_refl _) fun v σ5 hv => ?_
    (conv => whnf)
    exact hv
  (conv => whnf)
  refine ⟨fun e => ?_, fun q2 => ?_⟩
  · (conv => whnf)
    refine ⟨_, H4.hx, ?_⟩
    (conv => whnf)
    refine ⟨_, H4.hdx, ?_⟩
    (conv => whnf)
    refine (lf.long (by simpa using e) σ4 ga X4).mono (Nat.le_refl _) fun v σ5 hv => ?_
    (conv => whnf)
    exact hv
  (conv => whnf)
  refine ⟨fun e => ?_, fun q3 => ?_⟩
  · (conv => whnf)
    refine ⟨_, H4.hx, ?_⟩
    (conv => whnf)
    refine ⟨_, H4.hdx, ?_⟩
    (conv => whnf)
    refine (lf.dots (by simpa using e) σ4 ga X4).mono (Nat.le_refl _) fun v σ5 hv => ?_
    (conv => whnf)
    exact hv
  (conv => whnf)
  refine C_digit_lex W ?_
  (conv => whnf)
  refine ⟨fun e => ?_, fun q4 => ?_⟩
  · (conv => whnf)
    refine ⟨_, H4.hx, ?_⟩
    (conv => whnf)
    refine ⟨_, H4.hdx, ?_⟩
    (conv => whnf)
    refine (lf.num (e) σ4 ga X4).mono (Nat.le_refl _) fun v σ5 hv => ?_
    (conv => whnf)
    exact hv
  (conv => whnf)
  refine C_letter W ?_
  (conv => whnf)
  refine ⟨fun e => ?_, fun q5 => ?_⟩
  · (conv => whnf)
    refine ⟨_, H4.hx, ?_⟩
    (conv => whnf)
    refine ⟨_, H4.hdx, ?_⟩
    (conv => whnf)
    refine (lf.word (e) σ4 ga X4).mono (Nat.le_refl _) fun v σ5 hv => ?_
    (conv => whnf)
    exact hv
  (conv => whnf)
  first | refine goF1 (by have := lf.minus; simp; omega) ?_ | refine goF2 (by have := lf.minus; simp; omega) ?_
  (conv => whnf)
  refine ⟨by decide, fun ac hac => ?_⟩
  (conv => whnf)
  refine ⟨[61, 60, 62, 126], by rw [St.upd_same]; rfl, ?_⟩
  have gb := Grow.upd (o := .tuple [.int 61, .int 60, .int 62, .int 126]) hac
  have X5 := X4.grow gb
  have gc := ga.trans gb
  revert gc X5
  clear ga X4 H4 hs4 gb
  generalize σ4.upd ac (.tuple [.int 61, .int 60, .int 62, .int 126]) = σ5
  intro X5 gc
  obtain ⟨l5, e5, hs5, H5, -⟩ := X5.get
  clear hac
  (conv => whnf)
  refine ⟨fun e => ?_, fun q6 => ?_⟩
  · (conv => whnf)
    refine ⟨_, H5.hx, ?_⟩
    (conv => whnf)
    refine ⟨_, H5.hdx, ?_⟩
    (conv => whnf)
    refine (lf.cmp (by simp at e; omega) σ5 gc X5).mono (Nat.le_refl _) fun v σ5 hv => ?_
    (conv => whnf)
    exact hv
  obtain ⟨c, r2, rfl, hk⟩ := lf.oth q5 (by simp at q6; omega) (by simp at q1; omega) (by simpa using q2) (by simpa using q3) q4
  (conv => whnf)
  refine ⟨_, H5.hx, ?_⟩
  (conv => whnf)
  refine ⟨_, H5.hdx, ?_⟩
  (conv => whnf)
  refine X_move W X5 fun σ6 k6 X6 => ?_
  (conv => whnf)
  refine X_token W fun y σ7 g7 hy => ?_
  (conv => whnf)
  exact hk y _ _ (((Kp.grow gc).trans k6).trans (Kp.grow g7)) (X6.grow g7) hy
end

end Mine

end
section
open PySem PySem.W PyProof.Rows PySem.Calls
set_option maxHeartbeats 4000000
set_option linter.unusedVariables false
set_option linter.unusedSimpArgs false
namespace Mine
open MineK
open PySem.Challenge (pw_xm0629_01 rw_xm0629_01)
section
variable {w : World} {h₀ : Heap} {n : Nat} {x dx : Addr} {t r B : List UInt8} {c : UInt8} {σ : St} {k : kV}
theorem TokAt.setDx {l : LX} {y : Addr} {a b : MV} {o : MObj} (h : TokAt σ y a b) (H : σ dx = some (.ns (lexNs l))) : TokAt (σ.upd dx o) y a b := by
  obtain ⟨dy, h1, h2⟩ := h
  refine ⟨dy, ?_, ?_⟩
  · rw [St.upd_ne]; exact h1
    intro e; rw [e, H] at h1; cases h1
  · rw [St.upd_ne]; exact h2
    intro e; rw [e, H] at h2
    have := congrArg (fun z => match z with | some (MObj.ns fs) => fs.length | _ => 0) h2
    simp [lexNs] at this
theorem C_next (W : Wld w h₀) {r1 : List UInt8} (h : LxAt w σ x dx t r B) (hS : Sks r r1)
    (h1 : r1 = [] → ∀ y σ' B', Kp dx σ σ' → LxAt w σ' x dx t [] B' → TokAt σ' y (.int 287) .none → k (.ref y) σ')
    (h2 : r1 = [] ∨ ∃ kd v r2, Tk r1 kd v r2 ∧ ∀ y σ' B', Kp dx σ σ' → LxAt w σ' x dx t r2 B' → TokAt σ' y (.int kd) v → k (.ref y) σ') : CALL w h₀ (n + 9) (.ref 483) [.ref x] σ k := by
  obtain ⟨l, rfl, hr, H⟩ := h
  refine E_483 W fun L => ?_
  (conv => whnf)
  refine ⟨_, H.hx, ?_⟩
  (conv => whnf)
  refine ⟨_, H.hdx, ?_⟩
  (conv => whnf)
  refine ⟨_, H.hx, ?_⟩
  (conv => whnf)
  refine ⟨_, H.hdx, ?_⟩
  (conv => whnf)
  refine ⟨by show 12 ≤ 1000; decide, ?_⟩
  (conv => whnf)
  have H1 := H.setDx2 (l' := { l with last := l.line }) (fs := put "last_line" (.int (l.line : Int)) (lexNs l)) rfl rfl rfl rfl rfl H.linz H.atz
  have X1 : LxAt w (σ.upd dx (.ns (put "last_line" (.int (l.line : Int)) (lexNs l)))) x dx l.t r B := ⟨{ l with last := l.line }, rfl, hr, H1⟩
  refine ⟨_, H1.hx, ?_⟩
  (conv => whnf)
  refine ⟨_, H1.hdx, ?_⟩
  (conv => whnf)
  refine ⟨fun u e => (by cases e), ?_⟩
  (conv => whnf)
  first | refine goF1 (rfl) ?_ | refine goF2 (rfl) ?_
  (conv => whnf)
  refine ⟨_, H1.hx, ?_⟩
  (conv => whnf)
  refine ⟨_, H1.hdx, ?_⟩
  (conv => whnf)
  have fin : ∀ (y : Addr) (σ' : St) (B' r2 : List UInt8) (a b : MV), Kp dx (σ.upd dx (.ns (put "last_line" (.int (l.line : Int)) (lexNs l)))) σ' → LxAt w σ' x dx l.t r2 B' → TokAt σ' y a b → (∀ σ'', Kp dx σ σ'' → LxAt w σ'' x dx l.t r2 B' → TokAt σ'' y a b → k (.ref y) σ'') → True := fun _ _ _ _ _ _ _ _ _ _ => trivial
  clear fin
  refine C_read W X1 hS (fun hn y σ2 B2 k2 X2 T2 => ?_) ?_
  · obtain ⟨l2, e2, hr2, H2⟩ := X2
    (conv => whnf)
    refine ⟨_, H2.hx, ?_⟩
    (conv => whnf)
    refine ⟨_, H2.hdx, ?_⟩
    (conv => whnf)
    refine ⟨by show 12 ≤ 1000; decide, ?_⟩
    (conv => whnf)
    have H3 := H2.setDx2 (l' := { l2 with cur := .ref y }) (fs := put "current" (.ref y) (lexNs l2)) rfl rfl rfl rfl rfl H2.linz H2.atz
    refine ⟨_, H3.hx, ?_⟩
    (conv => whnf)
    refine ⟨_, H3.hdx, ?_⟩
    (conv => whnf)
    exact h1 hn y _ B2 ((Kp.upd_dx.trans k2).trans Kp.upd_dx) ⟨{ l2 with cur := .ref y }, e2, hr2, H3⟩ (T2.setDx H2.hdx)
  · rcases h2 with h2 | ⟨kd, v, r2, ht, h2⟩
    · exact .inl h2
    · refine .inr ⟨kd, v, r2, ht, fun y σ2 B2 k2 X2 T2 => ?_⟩
      obtain ⟨l2, e2, hr2, H2⟩ := X2
      (conv => whnf)
      refine ⟨_, H2.hx, ?_⟩
      (conv => whnf)
      refine ⟨_, H2.hdx, ?_⟩
      (conv => whnf)
      refine ⟨by show 12 ≤ 1000; decide, ?_⟩
      (conv => whnf)
      have H3 := H2.setDx2 (l' := { l2 with cur := .ref y }) (fs := put "current" (.ref y) (lexNs l2)) rfl rfl rfl rfl rfl H2.linz H2.atz
      refine ⟨_, H3.hx, ?_⟩
      (conv => whnf)
      refine ⟨_, H3.hdx, ?_⟩
      (conv => whnf)
      exact h2 y _ B2 ((Kp.upd_dx.trans k2).trans Kp.upd_dx) ⟨{ l2 with cur := .ref y }, e2, hr2, H3⟩ (T2.setDx H2.hdx)
/-! ## the chunk's name -/
theorem C_c_text_t (W : Wld w h₀) (hk : k (.bytes [61, 116]) σ) : CALL w h₀ (n + 1) (.ref 173) [.bytes [61, 116]] σ k := by
  refine E_173 W fun L => ?_
  (conv => whnf)
  refine ⟨3, ?_⟩
  (conv => whnf)
  refine ⟨by decide, ?_⟩
  (conv => whnf)
  first | refine goT1 (rfl) ?_ | refine goT2 (rfl) ?_
  (conv => whnf)
  refine ⟨by decide, by decide, ?_⟩
  (conv => whnf)
  first | refine goT1 (rfl) ?_ | refine goT2 (rfl) ?_
  (conv => whnf)
  first | refine goT1 (rfl) ?_ | refine goT2 (rfl) ?_
  (conv => whnf)
  refine ⟨by decide, ?_⟩
  (conv => whnf)
  first | refine goT1 (rfl) ?_ | refine goT2 (rfl) ?_
  (conv => whnf)
  refine ⟨by decide, by decide, ?_⟩
  (conv => whnf)
  first | refine goT1 (rfl) ?_ | refine goT2 (rfl) ?_
  (conv => whnf)
  first | refine goT1 (rfl) ?_ | refine goT2 (rfl) ?_
  (conv => whnf)
  refine ⟨by decide, ?_⟩
  (conv => whnf)
  first | refine goF1 (rfl) ?_ | refine goF2 (rfl) ?_
  (conv => whnf)
  first | refine goF1 (rfl) ?_ | refine goF2 (rfl) ?_
  (conv => whnf)
  refine ⟨none, some 2, by simp [partN], by simp [partN], ?_⟩
  refine ⟨by decide, ?_⟩
  (conv => whnf)
  exact hk
theorem C_chunk_t (W : Wld w h₀) (hk : k (.bytes [116]) σ) : CALL w h₀ (n + 2) (.ref 187) [.bytes [61, 116], .int 80] σ k := by
  refine E_187 W fun L => ?_
  (conv => whnf)
  refine C_c_text_t W ?_
  (conv => whnf)
  refine ⟨none, some 1, by simp [partN], by simp [partN], ?_⟩
  refine ⟨by decide, ?_⟩
  (conv => whnf)
  first | refine goT1 (rfl) ?_ | refine goT2 (rfl) ?_
  (conv => whnf)
  refine ⟨some 1, some 80, by simp [partN], by simp [partN], ?_⟩
  refine ⟨by decide, ?_⟩
  (conv => whnf)
  exact hk
end

end Mine

end
section
open PySem PySem.W PyProof.Rows PySem.Calls
set_option maxHeartbeats 4000000
set_option linter.unusedVariables false
set_option linter.unusedSimpArgs false
namespace Mine
open MineK
open PySem.Challenge (pw_xm0629_01 rw_xm0629_01)
section
variable {c : Cx} {ρ : Nm} {σ : St} {env : Env}
theorem Rel.forget {G : Fz} {L a : Addr} {σ : St} {o : MObj} {h : Heap} (ha : σ a = none) (R : Rel G L ρ (σ.upd a o) h) : Rel G L ρ σ h ∧ G a = none ∧ a ≠ L := by
  have hne : a ≠ L := fun e => by have := R.freshL; rw [← e, St.upd_same] at this; cases this
  have up : ∀ b q, σ b = some q → (σ.upd a o) b = some q := fun b q e => by
    rw [St.upd_ne fun z => by rw [z, ha] at e; cases e]; exact e
  refine ⟨⟨⟨R.keep, fun b q e => R.obj b q (up b q e), fun b q e => R.new b q (up b q e)⟩, R.ns, ?_, R.offL⟩, R.new a o (St.upd_same ..), hne⟩
  have := R.freshL
  rwa [St.upd_ne (Ne.symm hne)] at this
theorem Rel.add {G : Fz} {L a : Addr} {σ : St} {o : MObj} {h : Heap} (R : Rel G L ρ σ h) (hG : G a = none) (hne : a ≠ L) (r : Rep h a o) : Rel G L ρ (σ.upd a o) h := by
  refine ⟨⟨R.keep, fun b q e => ?_, fun b q e => ?_⟩, R.ns, ?_, R.offL⟩
  · by_cases hb : b = a
    · subst hb; rw [St.upd_same] at e; cases e; exact r
    · rw [St.upd_ne hb] at e; exact R.obj b q e
  · by_cases hb : b = a
    · subst hb; exact hG
    · rw [St.upd_ne hb] at e; exact R.new b q e
  · rw [St.upd_ne (Ne.symm hne)]; exact R.freshL
theorem Rel.itTurn2 {G : Fz} {L e it : Addr} {σ : St} {h h' : Heap} (R : Rel G L ρ σ h) (hG : G it = none) (hG2 : G e = none) (h1 : it ≠ L) (h12 : e ≠ L) (h2 : σ it = none) (h22 : σ e = none) (hs : ∀ b o, b ≠ e → b ≠ it → h.get? b = some o → h'.get? b = some o) : Rel G L ρ σ h' where
  keep b o q := hs b o (fun e => by rw [e, hG2] at q; cases q) (fun e => by rw [e, hG] at q; cases q) (R.keep b o q)
  obj b o q := by
    have z := R.obj b o q
    obtain ⟨oo, ho⟩ := z.lives
    exact z.at ((hs b oo (fun e => by rw [e, h22] at q; cases q) (fun e => by rw [e, h2] at q; cases q) ho).trans ho.symm)
  new := R.new
  ns := by
    obtain ⟨m, ⟨o, es, ep, ho, r1⟩, r2⟩ := R.ns
    exact ⟨m, ⟨o, es, ep, hs L o (Ne.symm h12) (Ne.symm h1) ho, r1⟩, r2⟩
  freshL := R.freshL
  offL := R.offL
theorem T_assign_Tuple (hE : EnvOk c env) {ts : List Expr} {xs : List Str} {a : Addr} {vs : List MV} {n : Nat} {p : Pos} {k : Nm → St → Prop} (hxs : namesOf? env ts = some xs) (h1 : σ a = some (.tuple vs)) (hlen : vs.length = xs.length) (h : k (puts xs vs ρ) σ) :
    TU c (assign (.Tuple ts n p) env (.ref a)) ρ σ k := by
  obtain ⟨a1, a2, a3⟩ := namesOf_spec hxs
  show TU c (standAt p >>= fun _ => unpack (.ref a) (assignEach ts env)) ρ σ k
  refine T_at ?_
  unfold unpack
  rw [a2]
  have hst : ((xs.zip ts).map (fun p => ((false, fun v => standAt p.2.pos >>= fun _ => bindName env p.1 v) : Bool × (Value → Sem Unit)))).findIdx? (·.1) = none := by
    rw [List.findIdx?_eq_none_iff]
    intro x hx
    obtain ⟨y, _, rfl⟩ := List.mem_map.mp hx
    rfl
  rw [hst]
  refine T_bind (T_holding (T_unpackItems h1 (by simp [a3, hlen]) fun us hus => ?_))
  exact T_puts2 (hE := hE) a3 a1 hus h
noncomputable def forEn (xi xv : Str) (body : Nm → St → kX → Prop) : Nat → List MV → Nm → St → kX → Prop
  | _, [], ρ, σ, k => k .next ρ σ
  | i, v :: vs, ρ, σ, k => ∀ a, σ a = none → body (put xv v (put xi (.int i) ρ)) (σ.upd a (.tuple [.int i, v])) fun fl ρ σ => match fl with
      | .next => forEn xi xv body (i + 1) vs ρ σ k
      | .cont => forEn xi xv body (i + 1) vs ρ σ k
      | .brk => k .next ρ σ
      | .ret u => k (.ret u) ρ σ
theorem under_forT {A : Around} {target : Expr} {it : Value} {body orelse : List Stmt} {env : Env} : A.under (.forLoop target it body orelse env) = A := Around.under_of_weight (by rfl)
theorem forEn_sound (hE : EnvOk c env) {xi xv : Str} {pi pv pt : Pos} {x1 : Nat} {body : List Stmt} {l : Addr} {us : List Value} {items : List MV} (hl : c.h₀.IsList l us.toArray) (hv : VRs items us)
    (hxi : env.kindOf xi = some .local) (hxv : env.kindOf xv = some .local) {bd : Nm → St → kX → Prop} (hb : ∀ ρ σ k, bd ρ σ k → TX c (execs body env) ρ σ k) {e it : Addr} (hne : e ≠ it)
    {G : Fz} {A : Around} {s : Shared} {Q : Flow → Shared → Prop} {X' : Value → Shared → Prop} {k : kX} (hG : GOk c.h₀ G) (hA : AOk c.n A) (hGe : G e = none) (hGi : G it = none)
    (hQ : ∀ b a ρ' σ' h' t', k b ρ' σ' → FR b a → Rel G c.L ρ' σ' h' → Q a ⟨h', s.gens, s.drawn, t', s.os⟩) :
    ∀ (vs : List MV) (j : Nat) (old : Value) (ρ : Nm) (σ : St) (h : Heap) (t : Nat), items.drop j = vs → forEn xi xv bd j vs ρ σ k → Rel G c.L ρ σ h → IsEnum h e it (j : Nat) old → h.IsListIter it l j → e ≠ c.L → it ≠ c.L → σ e = none → σ it = none →
      codeAny (model pw_xm0629_01 c.w) A (.forLoop (.Tuple [.Name xi pi, .Name xv pv] x1 pt) (.ref e) body [] env) (fun r s' => match r with | .ok f => Q f s' | .error e => X' e s') ⟨h, s.gens, s.drawn, t, s.os⟩ := by
  intro vs
  induction vs with
  | nil =>
    intro j old ρ σ h t hd hN R he hit n1 n2 n3 n4
    refine codeAny_of_tree rfl ?_
    rw [under_forT]
    show wpAny _ A ((forTurn (.Tuple [.Name xi pi, .Name xv pv] x1 pt) (.ref e) body [] env).onRaise _) _ _ _
    refine wpAny_onRaise ?_
    unfold forTurn
    have hlen : us.toArray[j]? = none := by
      have h1 := congrArg List.length hd
      have h2 := hv.length
      rw [List.length_drop] at h1
      simp at h1 ⊢; omega
    have hlh : h.IsList l us.toArray := hl.at fun o x => R.keep l o (hG l o x)
    refine wpAny_bind (wpAny_standAt (wpAny_bind (wpAny_onRaise (lift (wpAny_pyNext_enum_end hA.handled he hit hlh hlen fun h' hk => ?_)))))
    refine wpAny_pure ⟨rfl, ?_⟩
    refine codeAny_of_tree rfl ?_
    rw [under_block]
    show wpAny _ A ((do return Fin.done (← (execs [] env).onRaise _)) : Sem Fin) _ _ _
    refine wpAny_bind (wpAny_onRaise (wpAny_execs_nil (wpAny_pure ?_)))
    exact hQ .next .next ρ σ h' _ hN rfl (R.itTurn hGi n2 n4 fun b o hb e => hk b o hb e)
  | cons v vs ih =>
    intro j old ρ σ h t hd hN R he hit n1 n2 n3 n4
    refine codeAny_of_tree rfl ?_
    rw [under_forT]
    show wpAny _ A ((forTurn (.Tuple [.Name xi pi, .Name xv pv] x1 pt) (.ref e) body [] env).onRaise _) _ _ _
    refine wpAny_onRaise ?_
    unfold forTurn
    have hitem : items[j]? = some v := by
      have := congrArg (fun l => l[0]?) hd
      simpa using this
    have hdrop : items.drop (j + 1) = vs := by
      have := congrArg List.tail hd
      simpa using this
    obtain ⟨u, hu1, hu2⟩ := hv.get hitem
    have hlh : h.IsList l us.toArray := hl.at fun o x => R.keep l o (hG l o x)
    refine wpAny_bind (wpAny_standAt (wpAny_bind (wpAny_onRaise (lift (wpAny_pyNext_enum_item he hit hlh (by simpa using hu1) hne fun h₁ heo hit₁ ht₁ hz₁ hk₁ => ?_)))))
    dsimp only
    refine wpAny_bind (lift (wpAny_letOwnedTupleGo_enum heo fun h₂ he₂ hs₂ => ?_))
    have R' : Rel G c.L ρ σ h₂ := R.itTurn2 hGi hGe n2 n1 n4 n3 fun b o hbe hbi x => (hs₂.2 b hbe).trans (hk₁ b o hbe hbi x)
    have hsz : e ≠ h.objs.size := Nat.ne_of_lt (Heap.lt_size he)
    have hszi : it ≠ h.objs.size := by obtain ⟨_, q, _⟩ := hit; exact Nat.ne_of_lt (Heap.lt_size q)
    have hszL : h.objs.size ≠ c.L := fun z => Nat.lt_irrefl _ (z ▸ R.ns.lt)
    have ht₂ : h₂.get? h.objs.size = some { cls := .type "tuple", data := .seq #[.int j t, u] } := (hs₂.2 _ (Ne.symm hsz)).trans ht₁
    have hit₂ : h₂.IsListIter it l (j + 1) := by obtain ⟨o, q, q2⟩ := hit₁; exact ⟨o, (hs₂.2 it (Ne.symm hne)).trans q, q2⟩
    have hfresh : σ h.objs.size = none := R.toRel0.none_of_ge (Nat.le_refl _)
    have hGf : G h.objs.size = none := R.toRel0.G_none_of_ge (Nat.le_refl _)
    have Ra : Rel G c.L ρ (σ.upd h.objs.size (.tuple [.int j, v])) h₂ := R'.add hGf hszL ⟨[.int j t, u], _, ht₂, ⟨t, rfl⟩, hu2, trivial⟩
    have n3' : (σ.upd h.objs.size (.tuple [.int j, v])) e = none := by rw [St.upd_ne hsz]; exact n3
    have n4' : (σ.upd h.objs.size (.tuple [.int j, v])) it = none := by rw [St.upd_ne hszi]; exact n4
    obtain ⟨oi, hoi, hoi2⟩ := hit₂
    have Rw := (Ra.withIt n1 n3').withIt n2 n4'
    rw [show h₂.get? e = _ from he₂, hoi] at Rw
    have hGw : GOk c.h₀ ((G.with e (some { cls := .type "enumerate", dict := none, data := .fields #[.none, .bool false, .ref it, rawInt ((j : Int) + 1), .none, u], slots := #[] })).with it (some oi)) := (hG.with hGe).with (by unfold Fz.with; rw [if_neg (Ne.symm hne)]; exact hGi)
    have hn : namesOf? env [.Name xi pi, .Name xv pv] = some [xi, xv] := by
      simp [namesOf?, nameOf?, hxi, hxv]
    refine wpAny_bind (T_assign_Tuple (c := c) hE (k := fun ρ' σ' => ρ' = put xv v (put xi (.int j) ρ) ∧ σ' = σ.upd h.objs.size (.tuple [.int j, v])) hn (St.upd_same ..) rfl ⟨rfl, rfl⟩ _ A ⟨h₂, s.gens, s.drawn, t + 1, s.os⟩ _ _ hGw hA Rw fun _ _ ρ₁ σ₁ h₃ t₃ q₁ _ R₁ => ?_)
    obtain ⟨rfl, rfl⟩ := q₁
    refine wpAny_bind (hb _ _ _ (hN _ hfresh) _ A ⟨h₃, s.gens, s.drawn, t₃, s.os⟩ _ _ hGw hA R₁ fun fl f ρ₂ σ₂ h₄ t₄ q₂ e₂ R₂ => ?_)
    obtain ⟨R₃, hi3, n5, n6⟩ := R₂.dropIt (by unfold Fz.with; rw [if_neg (Ne.symm hne)]; exact hGi)
    obtain ⟨R₄, he4, n7, n8⟩ := R₃.dropIt hGe
    have he5 : IsEnum h₄ e it ((j + 1 : Nat) : Int) u := he4
    have hit5 : h₄.IsListIter it l (j + 1) := ⟨oi, hi3, hoi2⟩
    cases fl with
    | next => cases e₂; exact wpAny_pure ⟨rfl, ih (j + 1) u ρ₂ σ₂ h₄ t₄ hdrop q₂ R₄ he5 hit5 n8 n6 n7 n5⟩
    | cont => cases e₂; exact wpAny_pure ⟨rfl, ih (j + 1) u ρ₂ σ₂ h₄ t₄ hdrop q₂ R₄ he5 hit5 n8 n6 n7 n5⟩
    | brk => cases e₂; exact wpAny_pure (hQ .next .next _ _ _ _ q₂ rfl R₄)
    | ret v => obtain ⟨u, rfl, hu⟩ := e₂; exact wpAny_pure (hQ (.ret v) (.ret u) _ _ _ _ q₂ ⟨u, rfl, hu⟩ R₄)
end

end Mine

end
section
open PySem PySem.W PyProof.Rows PySem.Calls
set_option maxHeartbeats 4000000
set_option linter.unusedVariables false
set_option linter.unusedSimpArgs false
namespace Mine
open MineK
open PySem.Challenge (pw_xm0629_01 rw_xm0629_01)
section
variable {c : Cx} {ρ : Nm} {σ : St} {env : Env}
theorem T_enumerate {l : Addr} {us : List Value} {n : Nat} (hl : c.h₀.get? l = some { cls := .type "list", dict := none, data := .seq us.toArray n, slots := #[] }) :
    TV c (call (.type "enumerate") [.ref l]) ρ σ (fun v ρ' σ' => ρ' = ρ ∧ ∃ e it o1, v = .ref e ∧ e ≠ it ∧ σ it = none ∧ σ e = none ∧ o1.cls = .type "list_iterator" ∧ o1.data = .fields #[.ref l, rawInt 0] ∧
      σ' = (σ.upd it (.raw o1)).upd e (.raw { cls := .type "enumerate", dict := none, data := .fields #[.none, .bool false, .ref it, rawInt 0, .none, .none], slots := #[] })) := fun G A s E Q hG hA hR hQ => by
  refine lift (call_enumerate_1 (hR.keep _ _ (hG _ _ hl)) fun h' he hit hsz hk => ?_)
  obtain ⟨o1, ho1, hc, hd⟩ := hit
  have hf1 : σ s.heap.objs.size = none := hR.toRel0.none_of_ge (Nat.le_refl _)
  have hf2 : σ (s.heap.objs.size + 1) = none := hR.toRel0.none_of_ge (Nat.le_succ _)
  have hLt := hR.ns.lt
  have R1 : Rel G c.L ρ σ h' := hR.grow hk
  have R2 := R1.add (a := s.heap.objs.size) (o := .raw o1) (hR.toRel0.G_none_of_ge (Nat.le_refl _)) (fun e => Nat.lt_irrefl _ (e ▸ hLt)) ho1
  have R3 := R2.add (a := s.heap.objs.size + 1) (o := .raw { cls := .type "enumerate", dict := none, data := .fields #[.none, .bool false, .ref s.heap.objs.size, rawInt 0, .none, .none], slots := #[] }) (hR.toRel0.G_none_of_ge (Nat.le_succ _)) (fun e => Nat.lt_irrefl _ (Nat.lt_trans (Nat.lt_succ_self _) (e ▸ hLt))) he
  exact hQ (.ref (s.heap.objs.size + 1)) _ ρ _ h' s.toks ⟨rfl, _, _, o1, rfl, Nat.succ_ne_self _, hf1, hf2, hc, hd, rfl⟩ rfl R3
theorem T_ForEnum (hE : EnvOk c env) {xi xv lname : Str} {pi pv pt pos p1 p2 p3 : Pos} {x1 : Nat} {body : List Stmt} {l : Addr} {us : List Value} {n : Nat} {items : List MV}
    (hl : c.h₀.get? l = some { cls := .type "list", dict := none, data := .seq us.toArray n, slots := #[] }) (hv : VRs items us) (hxi : env.kindOf xi = some .local) (hxv : env.kindOf xv = some .local)
    (hn1 : nameK env "enumerate" ρ σ fun v σ' => v = .other (.type "enumerate") ∧ σ' = σ) (hn2 : nameK env lname ρ σ fun v σ' => v = .ref l ∧ σ' = σ)
    {bd : Nm → St → kX → Prop} (hb : ∀ ρ σ k, bd ρ σ k → TX c (execs body env) ρ σ k) {k : kX} (h : forEn xi xv bd 0 items ρ σ k) :
    TX c (exec (.For (.Tuple [.Name xi pi, .Name xv pv] x1 pt) (.Call (.Name "enumerate" p1) [.Name lname p2] [] p3) body [] pos) env) ρ σ k := fun G A s E Q hG hA hR hQ => by
  show wpAny _ A (do
    standAt pos
    let x' ← foldedSetIterable (.Call (.Name "enumerate" p1) [.Name lname p2] [] p3) env (← eval (.Call (.Name "enumerate" p1) [.Name lname p2] [] p3) env)
    standAt p3
    runOwn (.forLoop (.Tuple [.Name xi pi, .Name xv pv] x1 pt) (← holding [x'] (pyIter x')) body [] env) env) Q E s
  have hev : TV c (eval (.Call (.Name "enumerate" p1) [.Name lname p2] [] p3) env) ρ σ (fun v ρ' σ' => ρ' = ρ ∧ ∃ e it o1, v = .ref e ∧ e ≠ it ∧ σ it = none ∧ σ e = none ∧ o1.cls = .type "list_iterator" ∧ o1.data = .fields #[.ref l, rawInt 0] ∧
      σ' = (σ.upd it (.raw o1)).upd e (.raw { cls := .type "enumerate", dict := none, data := .fields #[.none, .bool false, .ref it, rawInt 0, .none, .none], slots := #[] })) := by
    show TV c (eval (.Name "enumerate" p1) env >>= fun f => callWith p3 f [] (backTo p3 (starEach [.Name lname p2] env)) []) ρ σ _
    refine TE_bind (name_sound hE hn1) fun v u σ1 q hu => ?_
    obtain ⟨rfl, rfl⟩ := q
    cases hu
    refine T_callWith_type (by rfl) ((evs_ok (c := c) (env := env) (ev := fun e ρ σ k => match e with | .Name x _ => nameK env x ρ σ k | _ => False) (fun e ρ σ k h => ?_) (xs := [.Name lname p2]) (pos := p3) (k := fun vs σ' => vs = [.ref l] ∧ σ' = σ1) (by rfl) ?_).mono fun vs ρ' σ' q us' hus => ?_)
    · cases e <;> first | exact h.elim | exact name_sound hE h
    · show nameK env lname ρ σ1 fun v σ1' => [v] = [.ref l] ∧ σ1' = σ1
      revert hn2
      unfold nameK
      split
      · split
        · rintro ⟨e1, _⟩; exact ⟨by rw [e1], rfl⟩
        · exact id
      · split
        · split
          · rintro ⟨e1, _⟩; exact ⟨by rw [e1], rfl⟩
          · exact id
        · split
          · rintro ⟨q, _⟩; cases q
          · exact id
      · exact id
    · obtain ⟨rfl, rfl, rfl⟩ := q
      match us', hus with
      | [u], hus =>
        cases hus.1
        exact T_enumerate hl
  refine wpAny_bind (wpAny_standAt (wpAny_bind (hev G A s E _ hG hA hR fun v u ρ' σ' h' t' q hv' R => ?_)))
  obtain ⟨rfl, e, it, o1, rfl, hne, hf1, hf2, hc, hd, rfl⟩ := q
  cases hv'
  rw [folded_no (by rfl)]
  have ho2 := R.obj e _ (St.upd_same ..)
  have hne' : it ≠ e := Ne.symm hne
  have ho1 := R.obj it (.raw o1) (by rw [St.upd_ne hne', St.upd_same])
  obtain ⟨Ra, ga, na⟩ := R.forget (by rw [St.upd_ne hne]; exact hf2)
  obtain ⟨Rb, gb, nb⟩ := Ra.forget hf1
  refine wpAny_bind (wpAny_pure (wpAny_bind (wpAny_standAt (wpAny_bind (wpAny_holding (lift (wpAny_pyIter_enum (it := it) (i := 0) (old := .none) ho2 ?_)))))))
  refine wpAny_runOwn fun X' => ?_
  show codeAny _ A _ _ _
  exact forEn_sound hE ⟨_, hl, rfl, n, rfl⟩ hv hxi hxv hb hne hG hA ga gb hQ items 0 .none ρ' σ h' t' rfl h Rb ho2 ⟨o1, ho1, hc, hd⟩ na nb hf2 hf1
end

end Mine

end
section
open PySem PySem.W PyProof.Rows PySem.Calls
set_option maxHeartbeats 4000000
set_option linter.unusedVariables false
set_option linter.unusedSimpArgs false
namespace Mine
open MineK
open PySem.Challenge (pw_xm0629_01 rw_xm0629_01)
theorem CALL_defT {w : World} {h₀ : Heap} (W : Wld w h₀) {n : Nat} {f : Addr} {d : Option Stmt} {name qual : Str} {dV pm cd : Value} {xs : List Str} {args : List MV} {σ : St} {k : kV}
    (hf : (Kf pw_xm0629_01 w.params).lookup f = some (fnO d name qual dV pm cd)) (hcd : codeIn (Kf pw_xm0629_01 w.params) cd qual = true)
    (hco : ((fscope d).isCoroutine, (fscope d).isGenerator, (fscope d).kind, ((fscope d).names.all fun x => x.2 != .cell), (xs.all fun x => (fscope d).names.lookup x == some .local), decide xs.Nodup) = (false, false, .function, true, true, true))
    (hlen : args.length = xs.length)
    (hb : ∀ us : List Value, us.length = xs.length → bindArgs (fnOf name qual (fargs d) (fbody d) (fscope d) dV .none .none pm none cd .none) ⟨us, []⟩ = pure (xs.zip us))
    (h : ∀ L, EnvOk ⟨w, h₀, W, n, L⟩ (envOf d name qual dV pm cd L f) → TX ⟨w, h₀, W, n, L⟩ (execs (fbody d) (envOf d name qual dV pm cd L f)) (xs.zip args) σ (retK k)) : CALL w h₀ (n + 1) (.ref f) args σ k := by
  simp only [Prod.mk.injEq] at hco
  obtain ⟨h1, h2, h3, h4, h5, h6⟩ := hco
  refine CALL_fn W hf hcd h1 h2 h3 h4 h5 (of_decide_eq_true h6) hlen hb fun L => ?_
  have hE : EnvOk ⟨w, h₀, W, n, L⟩ (envOf d name qual dV pm cd L f) := ⟨rfl, rfl, rfl, h3⟩
  exact (h L hE).mono fun fl ρ' σ' q => by cases fl <;> exact q
theorem forEn_inv {xi xv : Str} {body : Nm → St → kX → Prop} {k : kX} (R : Nat → List MV → Nm → St → Prop)
    (hturn : ∀ i v vs ρ σ a (K : kX), R i (v :: vs) ρ σ → σ a = none → (∀ ρ' σ', R (i + 1) vs ρ' σ' → K .next ρ' σ') → body (put xv v (put xi (.int i) ρ)) (σ.upd a (.tuple [.int i, v])) K)
    (hend : ∀ i ρ σ, R i [] ρ σ → k .next ρ σ) : ∀ {items : List MV} {i : Nat} {ρ : Nm} {σ : St}, R i items ρ σ → forEn xi xv body i items ρ σ k
  | [], i, ρ, σ, h => hend _ _ _ h
  | v :: vs, i, ρ, σ, h => fun a ha => hturn i v vs ρ σ a _ h ha fun _ _ q => forEn_inv R hturn hend q
noncomputable def resVals : List Value := resWords.zipIdx.map fun p => Value.bytes p.1.toArray (736 + p.2)
theorem resVals_ok : VRs (resWords.map .bytes) resVals := by
  unfold resVals resWords
  repeat' (first | exact trivial | refine ⟨⟨_, rfl⟩, ?_⟩)
theorem C_reserved {w : World} {h₀ : Heap} (W : Wld w h₀) {n : Nat} {σ : St} {k : kV}
    (hk : ∀ d o nn σ', Grow σ σ' → σ' d = some (.raw o) → d ≠ sysModules → IsKD w o kindF nn → k (.ref d) σ') : CALL w h₀ (n + 1) (.ref 434) [] σ k := by
  refine CALL_defT W (xs := []) (d := (fst pw_xm0629_01 86 none)) (name := "reserved_kinds") (qual := "reserved_kinds") (dV := (.none)) (pm := (.str "lua.lexer" 729)) (cd := (.ref 433)) (by kernel_rfl) (by kernel_rfl) (by kernel_rfl) rfl (fun us hus => ?_) fun L hE => ?_
  · match us, hus with
    | [], _ => kernel_rfl
  have hx := exF_ok (evF_ok hE 40).1 (evF_ok hE 40).2 hE 40
  have hl : h₀.get? 377 = some { cls := .type "list", dict := none, data := .seq resVals.toArray 0, slots := #[] } := W.Y.objs _ _ (by kernel_rfl)
  refine T_execs_cons (hx _ _ _ _ ?_)
  (conv => whnf)
  refine fun d o hd hds ho => ?_
  (conv => whnf)
  refine T_execs_cons ?_
  refine T_ForEnum hE (l := 377) (us := resVals) (items := resWords.map .bytes) hl resVals_ok (by rfl) (by rfl) ?_ ?_ (bd := exs (exF ⟨w, h₀, W, n, L⟩ _ (evF ⟨w, h₀, W, n, L⟩ _ 40) 40) _) (fun ρ σ k q => exs_ok hx q) ?_
  · (conv => whnf)
    exact ⟨rfl, rfl⟩
  · (conv => whnf)
    exact ⟨rfl, rfl⟩
  refine forEn_inv (fun i vs ρ σ' => ∃ (ws : List (List UInt8)) (f : List UInt8 → Option MV) (nn : Nat) (o : Obj), vs = ws.map MV.bytes ∧ (∀ u v, put "word" v (put "at" u ρ) = ([("kinds", .ref d), ("at", u), ("word", v)] : Nm)) ∧ look "kinds" ρ = some (.ref d) ∧ σ' d = some (.raw o) ∧ IsKD w o f nn ∧ nn + ws.length ≤ 100 ∧ kindFrom i ws f = kindF ∧ Grow σ σ') ?_ ?_ ⟨resWords, fun _ => none, 0, o, rfl, fun _ _ => rfl, rfl, St.upd_same .., ho, by decide, rfl, Grow.upd hd⟩
  · rintro i v vs ρ σ' a K ⟨ws, f, nn, o', e1, e2, e3, e4, e5, e6, e7, e8⟩ ha hK
    match ws, e1 with
    | b :: ws, e1 =>
    obtain ⟨rfl, rfl⟩ := List.cons.inj e1
    rw [e2]
    rw [List.length_cons] at e6
    have hda : d ≠ a := fun e => by rw [← e, e4] at ha; cases ha
    (conv => whnf)
    refine ⟨o', f, nn, ⟨by rw [St.upd_ne hda]; exact e4, e5, by omega⟩, fun ob hob => ?_⟩
    (conv => whnf)
    refine hK _ _ ⟨ws, _, nn + 1, ob, rfl, fun _ _ => rfl, rfl, by rw [St.upd_same], hob, by omega, ?_, ?_⟩
    · rw [← e7]; rfl
    · exact grow_upd hd (e8.trans (Grow.upd ha))
  · rintro i ρ σ' ⟨ws, f, nn, o', e1, e2, e3, e4, e5, e6, e7, e8⟩
    match ws, e1 with
    | [], e1 =>
    refine exs_ok hx ?_
    (conv => whnf)
    rw [e3]
    (conv => whnf)
    have e7' : f = kindF := e7
    rw [e7'] at e5
    exact hk d o' nn σ' e8 e4 hds e5

end Mine

end
section
open PySem PySem.W PyProof.Rows PySem.Calls
set_option maxHeartbeats 4000000
set_option linter.unusedVariables false
set_option linter.unusedSimpArgs false
namespace Mine
open MineK
open PySem.Challenge (pw_xm0629_01 rw_xm0629_01)
/-- an object being made -/
noncomputable def Mk (σ0 : St) (C x dx : Addr) (σ : St) (fs : Nm) : Prop := σ x = some (.inst C dx) ∧ σ dx = some (.ns fs) ∧ Grow σ0 σ ∧ x ≠ dx ∧ σ0 dx = none
theorem Mk.set {σ0 σ : St} {C x dx : Addr} {fs fs' : Nm} (h : Mk σ0 C x dx σ fs) : Mk σ0 C x dx (σ.upd dx (.ns fs')) fs' :=
  ⟨by rw [St.upd_ne h.2.2.2.1]; exact h.1, St.upd_same .., grow_upd h.2.2.2.2 h.2.2.1, h.2.2.2⟩
theorem Mk.grow {σ0 σ σ' : St} {C x dx : Addr} {fs : Nm} (h : Mk σ0 C x dx σ fs) (g : Grow σ σ') : Mk σ0 C x dx σ' fs :=
  ⟨g _ _ h.1, g _ _ h.2.1, h.2.2.1.trans g, h.2.2.2⟩
theorem Mk.keep {σ0 σ : St} {C x dx a : Addr} {fs fs' : Nm} {o : MObj} (h : Mk σ0 C x dx σ fs) (ha : σ a = some o) (hn : ∀ f, o ≠ .ns f) : (σ.upd dx (.ns fs')) a = some o := by
  rw [St.upd_ne]; exact ha
  intro e; rw [e, h.2.1] at ha; cases ha; exact hn _ rfl
theorem C_lexer {w : World} {h₀ : Heap} (W : Wld w h₀) {n : Nat} {t : List UInt8} {lim dl : Addr} {σ : St} {k : kV} (ht : t.length ≤ 100000) (h1 : σ lim = some (.inst 53 dl)) (h2 : σ dl = some (.ns limNs))
    (hk : ∀ x dx σ', Grow σ σ' → σ dx = none → LxAt w σ' x dx t t [] → k (.ref x) σ') : CALL w h₀ (n + 4) (.ref 661) [.bytes t, .bytes [61, 116], .ref lim] σ k := by
  refine CALL_cls W (fI := 476) (by decide) fun x dx hx hdx hne => ?_
  have P0 : Mk σ 661 x dx ((σ.upd dx (.ns [])).upd x (.inst 661 dx)) [] := ⟨St.upd_same .., by rw [St.upd_ne (Ne.symm hne), St.upd_same], grow_upd hx (Grow.upd hdx), hne, hdx⟩
  refine E_476 W fun L => ?_
  (conv => whnf)
  refine ⟨_, P0.1, ?_⟩
  (conv => whnf)
  refine ⟨_, P0.2.1, ?_⟩
  (conv => whnf)
  refine ⟨by show 1 ≤ 1000; decide, ?_⟩
  (conv => whnf)
  have P1 := P0.set (fs' := ([("text", .bytes t)] : Nm))
  refine ⟨_, P1.1, ?_⟩
  (conv => whnf)
  refine ⟨_, P1.2.1, ?_⟩
  (conv => whnf)
  refine ⟨by show 2 ≤ 1000; decide, ?_⟩
  (conv => whnf)
  have P2 := P1.set (fs' := ([("text", .bytes t), ("source", .bytes [61, 116])] : Nm))
  refine C_chunk_t W ?_
  (conv => whnf)
  refine ⟨_, P2.1, ?_⟩
  (conv => whnf)
  refine ⟨_, P2.2.1, ?_⟩
  (conv => whnf)
  refine ⟨by show 3 ≤ 1000; decide, ?_⟩
  (conv => whnf)
  have P3 := P2.set (fs' := ([("text", .bytes t), ("source", .bytes [61, 116]), ("chunk", .bytes [116])] : Nm))
  refine ⟨_, P3.1, ?_⟩
  (conv => whnf)
  refine ⟨_, P3.2.1, ?_⟩
  (conv => whnf)
  refine ⟨by show 4 ≤ 1000; decide, ?_⟩
  (conv => whnf)
  have P4 := P3.set (fs' := ([("text", .bytes t), ("source", .bytes [61, 116]), ("chunk", .bytes [116]), ("limits", .ref lim)] : Nm))
  refine C_reserved W fun d o nn σk gk hd1 hd2 hd3 => ?_
  (conv => whnf)
  have Pk := P4.grow gk
  refine ⟨_, Pk.1, ?_⟩
  (conv => whnf)
  refine ⟨_, Pk.2.1, ?_⟩
  (conv => whnf)
  refine ⟨by show 5 ≤ 1000; decide, ?_⟩
  (conv => whnf)
  have P5 := Pk.set (fs' := ([("text", .bytes t), ("source", .bytes [61, 116]), ("chunk", .bytes [116]), ("limits", .ref lim), ("kinds", .ref d)] : Nm))
  have hd1 := Pk.keep (fs' := ([("text", .bytes t), ("source", .bytes [61, 116]), ("chunk", .bytes [116]), ("limits", .ref lim), ("kinds", .ref d)] : Nm)) hd1 (fun _ e => by cases e)
  refine ⟨_, P5.1, ?_⟩
  (conv => whnf)
  refine ⟨_, P5.2.1, ?_⟩
  (conv => whnf)
  refine ⟨by show 6 ≤ 1000; decide, ?_⟩
  (conv => whnf)
  have P6 := P5.set (fs' := ([("text", .bytes t), ("source", .bytes [61, 116]), ("chunk", .bytes [116]), ("limits", .ref lim), ("kinds", .ref d), ("at", .int 0)] : Nm))
  have hd1 := P5.keep (fs' := ([("text", .bytes t), ("source", .bytes [61, 116]), ("chunk", .bytes [116]), ("limits", .ref lim), ("kinds", .ref d), ("at", .int 0)] : Nm)) hd1 (fun _ e => by cases e)
  refine ⟨by omega, ?_⟩
  (conv => whnf)
  cases t with
  | nil =>
    first | refine goF1 (rfl) ?_ | refine goF2 (rfl) ?_
    (conv => whnf)
    refine ⟨_, P6.1, ?_⟩
    (conv => whnf)
    refine ⟨_, P6.2.1, ?_⟩
    (conv => whnf)
    refine ⟨by show 7 ≤ 1000; decide, ?_⟩
    (conv => whnf)
    have P7 := P6.set (fs' := ([("text", .bytes []), ("source", .bytes [61, 116]), ("chunk", .bytes [116]), ("limits", .ref lim), ("kinds", .ref d), ("at", .int 0), ("sign", .int (hd []))] : Nm))
    have hd1 := P6.keep (fs' := ([("text", .bytes []), ("source", .bytes [61, 116]), ("chunk", .bytes [116]), ("limits", .ref lim), ("kinds", .ref d), ("at", .int 0), ("sign", .int (hd []))] : Nm)) hd1 (fun _ e => by cases e)
    refine ⟨_, P7.1, ?_⟩
    (conv => whnf)
    refine ⟨_, P7.2.1, ?_⟩
    (conv => whnf)
    refine ⟨by show 8 ≤ 1000; decide, ?_⟩
    (conv => whnf)
    have P8 := P7.set (fs' := ([("text", .bytes []), ("source", .bytes [61, 116]), ("chunk", .bytes [116]), ("limits", .ref lim), ("kinds", .ref d), ("at", .int 0), ("sign", .int (hd [])), ("line", .int 1)] : Nm))
    have hd1 := P7.keep (fs' := ([("text", .bytes []), ("source", .bytes [61, 116]), ("chunk", .bytes [116]), ("limits", .ref lim), ("kinds", .ref d), ("at", .int 0), ("sign", .int (hd [])), ("line", .int 1)] : Nm)) hd1 (fun _ e => by cases e)
    refine ⟨_, P8.1, ?_⟩
    (conv => whnf)
    refine ⟨_, P8.2.1, ?_⟩
    (conv => whnf)
    refine ⟨by show 9 ≤ 1000; decide, ?_⟩
    (conv => whnf)
    have P9 := P8.set (fs' := ([("text", .bytes []), ("source", .bytes [61, 116]), ("chunk", .bytes [116]), ("limits", .ref lim), ("kinds", .ref d), ("at", .int 0), ("sign", .int (hd [])), ("line", .int 1), ("last_line", .int 1)] : Nm))
    have hd1 := P8.keep (fs' := ([("text", .bytes []), ("source", .bytes [61, 116]), ("chunk", .bytes [116]), ("limits", .ref lim), ("kinds", .ref d), ("at", .int 0), ("sign", .int (hd [])), ("line", .int 1), ("last_line", .int 1)] : Nm)) hd1 (fun _ e => by cases e)
    refine fun b hb => ?_
    (conv => whnf)
    have Pb := P9.grow (Grow.upd (o := .barr []) hb)
    have hd1 := Grow.upd (o := .barr []) hb _ _ hd1
    have hbb : ∀ s : St, (s.upd b (.barr [])) b = some (.barr []) := fun s => St.upd_same ..
    refine ⟨_, Pb.1, ?_⟩
    (conv => whnf)
    refine ⟨_, Pb.2.1, ?_⟩
    (conv => whnf)
    refine ⟨by show 10 ≤ 1000; decide, ?_⟩
    (conv => whnf)
    have P10 := Pb.set (fs' := ([("text", .bytes []), ("source", .bytes [61, 116]), ("chunk", .bytes [116]), ("limits", .ref lim), ("kinds", .ref d), ("at", .int 0), ("sign", .int (hd [])), ("line", .int 1), ("last_line", .int 1), ("buffer", .ref b)] : Nm))
    have hd1 := Pb.keep (fs' := ([("text", .bytes []), ("source", .bytes [61, 116]), ("chunk", .bytes [116]), ("limits", .ref lim), ("kinds", .ref d), ("at", .int 0), ("sign", .int (hd [])), ("line", .int 1), ("last_line", .int 1), ("buffer", .ref b)] : Nm)) hd1 (fun _ e => by cases e)
    have hbb := Pb.keep (fs' := ([("text", .bytes []), ("source", .bytes [61, 116]), ("chunk", .bytes [116]), ("limits", .ref lim), ("kinds", .ref d), ("at", .int 0), ("sign", .int (hd [])), ("line", .int 1), ("last_line", .int 1), ("buffer", .ref b)] : Nm)) (hbb _) (fun _ e => by cases e)
    refine X_token W fun y σy gy hy => ?_
    (conv => whnf)
    have Py := P10.grow gy
    have hd1 := gy _ _ hd1
    have hbb := gy _ _ hbb
    refine ⟨_, Py.1, ?_⟩
    (conv => whnf)
    refine ⟨_, Py.2.1, ?_⟩
    (conv => whnf)
    refine ⟨by show 11 ≤ 1000; decide, ?_⟩
    (conv => whnf)
    have P11 := Py.set (fs' := ([("text", .bytes []), ("source", .bytes [61, 116]), ("chunk", .bytes [116]), ("limits", .ref lim), ("kinds", .ref d), ("at", .int 0), ("sign", .int (hd [])), ("line", .int 1), ("last_line", .int 1), ("buffer", .ref b), ("current", .ref y)] : Nm))
    have hd1 := Py.keep (fs' := ([("text", .bytes []), ("source", .bytes [61, 116]), ("chunk", .bytes [116]), ("limits", .ref lim), ("kinds", .ref d), ("at", .int 0), ("sign", .int (hd [])), ("line", .int 1), ("last_line", .int 1), ("buffer", .ref b), ("current", .ref y)] : Nm)) hd1 (fun _ e => by cases e)
    have hbb := Py.keep (fs' := ([("text", .bytes []), ("source", .bytes [61, 116]), ("chunk", .bytes [116]), ("limits", .ref lim), ("kinds", .ref d), ("at", .int 0), ("sign", .int (hd [])), ("line", .int 1), ("last_line", .int 1), ("buffer", .ref b), ("current", .ref y)] : Nm)) hbb (fun _ e => by cases e)
    refine ⟨_, P11.1, ?_⟩
    (conv => whnf)
    refine ⟨_, P11.2.1, ?_⟩
    (conv => whnf)
    refine ⟨by show 12 ≤ 1000; decide, ?_⟩
    (conv => whnf)
    have P12 := P11.set (fs' := ([("text", .bytes []), ("source", .bytes [61, 116]), ("chunk", .bytes [116]), ("limits", .ref lim), ("kinds", .ref d), ("at", .int 0), ("sign", .int (hd [])), ("line", .int 1), ("last_line", .int 1), ("buffer", .ref b), ("current", .ref y), ("ahead", .none)] : Nm))
    have hd1 := P11.keep (fs' := ([("text", .bytes []), ("source", .bytes [61, 116]), ("chunk", .bytes [116]), ("limits", .ref lim), ("kinds", .ref d), ("at", .int 0), ("sign", .int (hd [])), ("line", .int 1), ("last_line", .int 1), ("buffer", .ref b), ("current", .ref y), ("ahead", .none)] : Nm)) hd1 (fun _ e => by cases e)
    have hbb := P11.keep (fs' := ([("text", .bytes []), ("source", .bytes [61, 116]), ("chunk", .bytes [116]), ("limits", .ref lim), ("kinds", .ref d), ("at", .int 0), ("sign", .int (hd [])), ("line", .int 1), ("last_line", .int 1), ("buffer", .ref b), ("current", .ref y), ("ahead", .none)] : Nm)) hbb (fun _ e => by cases e)
    refine ⟨rfl, hk x dx _ P12.2.2.1 hdx ⟨⟨[], .bytes [61, 116], .bytes [116], lim, d, 0, 1, 1, b, .ref y⟩, rfl, rfl, ?_⟩⟩
    exact ⟨P12.1, P12.2.1, hbb, ⟨dl, P12.2.2.1 _ _ h1, P12.2.2.1 _ _ h2, fun e => by rw [e, hdx] at h2; cases h2⟩, ⟨o, nn, hd1, hd2, hd3⟩, Nat.zero_le _, Nat.le_refl _, ht, Nat.zero_le _⟩
  | cons c0 r0 =>
    first | refine goT1 (by simp <;> omega) ?_ | refine goT2 (by simp <;> omega) ?_
    (conv => whnf)
    refine ⟨by omega, ⟨by omega, by simp <;> omega⟩, ?_⟩
    (conv => whnf)
    refine ⟨_, P6.1, ?_⟩
    (conv => whnf)
    refine ⟨_, P6.2.1, ?_⟩
    (conv => whnf)
    refine ⟨by show 7 ≤ 1000; decide, ?_⟩
    (conv => whnf)
    have P7 := P6.set (fs' := ([("text", .bytes (c0 :: r0)), ("source", .bytes [61, 116]), ("chunk", .bytes [116]), ("limits", .ref lim), ("kinds", .ref d), ("at", .int 0), ("sign", .int (hd (c0 :: r0)))] : Nm))
    have hd1 := P6.keep (fs' := ([("text", .bytes (c0 :: r0)), ("source", .bytes [61, 116]), ("chunk", .bytes [116]), ("limits", .ref lim), ("kinds", .ref d), ("at", .int 0), ("sign", .int (hd (c0 :: r0)))] : Nm)) hd1 (fun _ e => by cases e)
    refine ⟨_, P7.1, ?_⟩
    (conv => whnf)
    refine ⟨_, P7.2.1, ?_⟩
    (conv => whnf)
    refine ⟨by show 8 ≤ 1000; decide, ?_⟩
    (conv => whnf)
    have P8 := P7.set (fs' := ([("text", .bytes (c0 :: r0)), ("source", .bytes [61, 116]), ("chunk", .bytes [116]), ("limits", .ref lim), ("kinds", .ref d), ("at", .int 0), ("sign", .int (hd (c0 :: r0))), ("line", .int 1)] : Nm))
    have hd1 := P7.keep (fs' := ([("text", .bytes (c0 :: r0)), ("source", .bytes [61, 116]), ("chunk", .bytes [116]), ("limits", .ref lim), ("kinds", .ref d), ("at", .int 0), ("sign", .int (hd (c0 :: r0))), ("line", .int 1)] : Nm)) hd1 (fun _ e => by cases e)
    refine ⟨_, P8.1, ?_⟩
    (conv => whnf)
    refine ⟨_, P8.2.1, ?_⟩
    (conv => whnf)
    refine ⟨by show 9 ≤ 1000; decide, ?_⟩
    (conv => whnf)
    have P9 := P8.set (fs' := ([("text", .bytes (c0 :: r0)), ("source", .bytes [61, 116]), ("chunk", .bytes [116]), ("limits", .ref lim), ("kinds", .ref d), ("at", .int 0), ("sign", .int (hd (c0 :: r0))), ("line", .int 1), ("last_line", .int 1)] : Nm))
    have hd1 := P8.keep (fs' := ([("text", .bytes (c0 :: r0)), ("source", .bytes [61, 116]), ("chunk", .bytes [116]), ("limits", .ref lim), ("kinds", .ref d), ("at", .int 0), ("sign", .int (hd (c0 :: r0))), ("line", .int 1), ("last_line", .int 1)] : Nm)) hd1 (fun _ e => by cases e)
    refine fun b hb => ?_
    (conv => whnf)
    have Pb := P9.grow (Grow.upd (o := .barr []) hb)
    have hd1 := Grow.upd (o := .barr []) hb _ _ hd1
    have hbb : ∀ s : St, (s.upd b (.barr [])) b = some (.barr []) := fun s => St.upd_same ..
    refine ⟨_, Pb.1, ?_⟩
    (conv => whnf)
    refine ⟨_, Pb.2.1, ?_⟩
    (conv => whnf)
    refine ⟨by show 10 ≤ 1000; decide, ?_⟩
    (conv => whnf)
    have P10 := Pb.set (fs' := ([("text", .bytes (c0 :: r0)), ("source", .bytes [61, 116]), ("chunk", .bytes [116]), ("limits", .ref lim), ("kinds", .ref d), ("at", .int 0), ("sign", .int (hd (c0 :: r0))), ("line", .int 1), ("last_line", .int 1), ("buffer", .ref b)] : Nm))
    have hd1 := Pb.keep (fs' := ([("text", .bytes (c0 :: r0)), ("source", .bytes [61, 116]), ("chunk", .bytes [116]), ("limits", .ref lim), ("kinds", .ref d), ("at", .int 0), ("sign", .int (hd (c0 :: r0))), ("line", .int 1), ("last_line", .int 1), ("buffer", .ref b)] : Nm)) hd1 (fun _ e => by cases e)
    have hbb := Pb.keep (fs' := ([("text", .bytes (c0 :: r0)), ("source", .bytes [61, 116]), ("chunk", .bytes [116]), ("limits", .ref lim), ("kinds", .ref d), ("at", .int 0), ("sign", .int (hd (c0 :: r0))), ("line", .int 1), ("last_line", .int 1), ("buffer", .ref b)] : Nm)) (hbb _) (fun _ e => by cases e)
    refine X_token W fun y σy gy hy => ?_
    (conv => whnf)
    have Py := P10.grow gy
    have hd1 := gy _ _ hd1
    have hbb := gy _ _ hbb
    refine ⟨_, Py.1, ?_⟩
    (conv => whnf)
    refine ⟨_, Py.2.1, ?_⟩
    (conv => whnf)
    refine ⟨by show 11 ≤ 1000; decide, ?_⟩
    (conv => whnf)
    have P11 := Py.set (fs' := ([("text", .bytes (c0 :: r0)), ("source", .bytes [61, 116]), ("chunk", .bytes [116]), ("limits", .ref lim), ("kinds", .ref d), ("at", .int 0), ("sign", .int (hd (c0 :: r0))), ("line", .int 1), ("last_line", .int 1), ("buffer", .ref b), ("current", .ref y)] : Nm))
    have hd1 := Py.keep (fs' := ([("text", .bytes (c0 :: r0)), ("source", .bytes [61, 116]), ("chunk", .bytes [116]), ("limits", .ref lim), ("kinds", .ref d), ("at", .int 0), ("sign", .int (hd (c0 :: r0))), ("line", .int 1), ("last_line", .int 1), ("buffer", .ref b), ("current", .ref y)] : Nm)) hd1 (fun _ e => by cases e)
    have hbb := Py.keep (fs' := ([("text", .bytes (c0 :: r0)), ("source", .bytes [61, 116]), ("chunk", .bytes [116]), ("limits", .ref lim), ("kinds", .ref d), ("at", .int 0), ("sign", .int (hd (c0 :: r0))), ("line", .int 1), ("last_line", .int 1), ("buffer", .ref b), ("current", .ref y)] : Nm)) hbb (fun _ e => by cases e)
    refine ⟨_, P11.1, ?_⟩
    (conv => whnf)
    refine ⟨_, P11.2.1, ?_⟩
    (conv => whnf)
    refine ⟨by show 12 ≤ 1000; decide, ?_⟩
    (conv => whnf)
    have P12 := P11.set (fs' := ([("text", .bytes (c0 :: r0)), ("source", .bytes [61, 116]), ("chunk", .bytes [116]), ("limits", .ref lim), ("kinds", .ref d), ("at", .int 0), ("sign", .int (hd (c0 :: r0))), ("line", .int 1), ("last_line", .int 1), ("buffer", .ref b), ("current", .ref y), ("ahead", .none)] : Nm))
    have hd1 := P11.keep (fs' := ([("text", .bytes (c0 :: r0)), ("source", .bytes [61, 116]), ("chunk", .bytes [116]), ("limits", .ref lim), ("kinds", .ref d), ("at", .int 0), ("sign", .int (hd (c0 :: r0))), ("line", .int 1), ("last_line", .int 1), ("buffer", .ref b), ("current", .ref y), ("ahead", .none)] : Nm)) hd1 (fun _ e => by cases e)
    have hbb := P11.keep (fs' := ([("text", .bytes (c0 :: r0)), ("source", .bytes [61, 116]), ("chunk", .bytes [116]), ("limits", .ref lim), ("kinds", .ref d), ("at", .int 0), ("sign", .int (hd (c0 :: r0))), ("line", .int 1), ("last_line", .int 1), ("buffer", .ref b), ("current", .ref y), ("ahead", .none)] : Nm)) hbb (fun _ e => by cases e)
    refine ⟨rfl, hk x dx _ P12.2.2.1 hdx ⟨⟨c0 :: r0, .bytes [61, 116], .bytes [116], lim, d, 0, 1, 1, b, .ref y⟩, rfl, rfl, ?_⟩⟩
    exact ⟨P12.1, P12.2.1, hbb, ⟨dl, P12.2.2.1 _ _ h1, P12.2.2.1 _ _ h2, fun e => by rw [e, hdx] at h2; cases h2⟩, ⟨o, nn, hd1, hd2, hd3⟩, Nat.zero_le _, Nat.le_refl _, ht, Nat.zero_le _⟩

end Mine

end
section
open PySem PySem.W PyProof.Rows PySem.Calls
set_option maxHeartbeats 4000000
set_option linter.unusedVariables false
set_option linter.unusedSimpArgs false
namespace Mine
open MineK
open PySem.Challenge (pw_xm0629_01 rw_xm0629_01)
/-- what stands but the bytearrays -/
noncomputable def KB (σ σ' : St) : Prop := ∀ a o, σ a = some o → (∀ b, o ≠ .barr b) → σ' a = some o
theorem KB.refl (σ : St) : KB σ σ := fun _ _ e _ => e
theorem KB.trans {a b c : St} (h : KB a b) (k : KB b c) : KB a c := fun x o e m => k x o (h x o e m) m
theorem KB.grow {a b : St} (h : Grow a b) : KB a b := fun x o e _ => h x o e
theorem KB.kp {dx : Addr} {a b c : St} (h : KB a b) (k : Kp dx b c) (hd : a dx = none) : KB a c := fun x o e m => k x o (h x o e m) (fun z => by rw [z, hd] at e; cases e) m
theorem KB.upd {a b : St} {f : Addr} {o : MObj} (h : KB a b) (hf : a f = none) : KB a (b.upd f o) := fun x p e m => by
  rw [St.upd_ne fun z => by rw [z, hf] at e; cases e]; exact h x p e m
inductive ToksAt (σ : St) : List MV → List (Int × MV) → Prop
  | nil : ToksAt σ [] []
  | cons {a : Addr} {kd : Int} {v : MV} {xs : List MV} {ts : List (Int × MV)} (h : σ a = some (.tuple [.int kd, v])) (q : ToksAt σ xs ts) : ToksAt σ (.ref a :: xs) ((kd, v) :: ts)
theorem ToksAt.keep {σ σ' : St} (h : ∀ a ms, σ a = some (.tuple ms) → σ' a = some (.tuple ms)) {xs : List MV} {ts : List (Int × MV)} (q : ToksAt σ xs ts) : ToksAt σ' xs ts := by
  induction q with
  | nil => exact .nil
  | cons e _ ih => exact .cons (h _ _ e) ih
theorem ToksAt.snoc {σ : St} {a : Addr} {kd : Int} {v : MV} (h : σ a = some (.tuple [.int kd, v])) {xs : List MV} {ts : List (Int × MV)} (q : ToksAt σ xs ts) : ToksAt σ (xs ++ [.ref a]) (ts ++ [(kd, v)]) := by
  induction q with
  | nil => exact .cons h .nil
  | cons e _ ih => exact .cons e ih
theorem ToksAt.length {σ : St} {xs : List MV} {ts : List (Int × MV)} (q : ToksAt σ xs ts) : xs.length = ts.length := by
  induction q with
  | nil => rfl
  | cons _ _ ih => exact congrArg (· + 1) ih
inductive LexR : List UInt8 → List (Int × MV) → Prop
  | done {r : List UInt8} (h : Sks r []) : LexR r []
  | tok {r r1 r2 : List UInt8} {kd : Int} {v : MV} {ts : List (Int × MV)} (h : Sks r r1) (ht : Tk r1 kd v r2) (hk : LexR r2 ts) : LexR r ((kd, v) :: ts)
theorem Tk.ne_eos {r r2 : List UInt8} {kd : Int} {v : MV} (h : Tk r kd v r2) : kd ≠ 287 := by cases h <;> decide
theorem LexAt.updList {w : World} {σ : St} {x dx f : Addr} {l : LX} {B : List UInt8} {xs ys : List MV} (h : LexAt w σ x dx l B) (hf : σ f = some (.list xs)) : LexAt w (σ.upd f (.list ys)) x dx l B := by
  have up : ∀ a o, σ a = some o → (∀ zs, o ≠ .list zs) → (σ.upd f (.list ys)) a = some o := fun a o e m => by
    rw [St.upd_ne fun z => by rw [z, hf] at e; cases e; exact m _ rfl]; exact e
  obtain ⟨dl, q1, q2, q3⟩ := h.hlim
  obtain ⟨o, n, p1, p2⟩ := h.hkd
  exact ⟨up _ _ h.hx (fun _ e => by cases e), up _ _ h.hdx (fun _ e => by cases e), up _ _ h.hbuf (fun _ e => by cases e), ⟨dl, up _ _ q1 (fun _ e => by cases e), up _ _ q2 (fun _ e => by cases e), q3⟩,
    ⟨o, n, up _ _ p1 (fun _ e => by cases e), p2⟩, h.bufz, h.linz, h.tz, h.atz⟩
theorem LxAt.updList {w : World} {σ : St} {x dx f : Addr} {t r : List UInt8} {B : List UInt8} {xs ys : List MV} (h : LxAt w σ x dx t r B) (hf : σ f = some (.list xs)) : LxAt w (σ.upd f (.list ys)) x dx t r B := by
  obtain ⟨l, a, b, H⟩ := h; exact ⟨l, a, b, H.updList hf⟩
theorem Kp.keepTup {dx : Addr} {σ σ' : St} {l : LX} {w : World} {x : Addr} {B : List UInt8} (h : Kp dx σ σ') (H : LexAt w σ x dx l B) : ∀ a ms, σ a = some (.tuple ms) → σ' a = some (.tuple ms) := fun a ms e =>
  h a _ e (fun z => by rw [z, H.hdx] at e; cases e) (fun _ q => by cases q)
/-- what the token read tells of the rest -/
noncomputable def Turn (ts : List (Int × MV)) (ra : List UInt8) (kd : Int) (v : MV) : Prop := (kd = 287 ∧ ts = []) ∨ ∃ ts3, ts = (kd, v) :: ts3 ∧ kd ≠ 287 ∧ isOther v = false ∧ LexR ra ts3
theorem Tk.notOther {r r2 : List UInt8} {kd : Int} {v : MV} (h : Tk r kd v r2) : isOther v = false := by cases h <;> rfl
theorem Tk.nonnil {r r2 : List UInt8} {kd : Int} {v : MV} (h : Tk r kd v r2) : r ≠ [] := by
  cases h with
  | word h0 hw hr hkd =>
    rename_i wd
    cases wd with
    | nil => exact absurd h0 (by decide)
    | cons c wd => intro e; cases e
  | _ => intro e; cases e
theorem X_next {w : World} {h₀ : Heap} (W : Wld w h₀) {n : Nat} {x dx : Addr} {t r B : List UInt8} {ts : List (Int × MV)} {σ : St} {k : kV} (X : LxAt w σ x dx t r B) (hL : LexR r ts)
    (hk : ∀ y σ' B' ra kd v, Kp dx σ σ' → LxAt w σ' x dx t ra B' → TokAt σ' y (.int kd) v → Turn ts ra kd v → k (.ref y) σ') : CALL w h₀ (n + 9) (.ref 483) [.ref x] σ k := by
  cases hL with
  | done hS => exact C_next W X hS (fun _ y σ' B' kp X' T' => hk y σ' B' _ _ _ kp X' T' (.inl ⟨rfl, rfl⟩)) (.inl rfl)
  | tok hS hT hR =>
    refine C_next W X hS (fun e => absurd e hT.nonnil) (.inr ⟨_, _, _, hT, fun y σ' B' kp X' T' => hk y σ' B' _ _ _ kp X' T' (.inr ⟨_, rfl, hT.ne_eos, hT.notOther, hR⟩)⟩)
theorem KB.keepTup {σ σ' : St} (h : KB σ σ') : ∀ a ms, σ a = some (.tuple ms) → σ' a = some (.tuple ms) := fun a ms e => h a _ e (fun _ q => by cases q)
theorem C_all_tokens {w : World} {h₀ : Heap} (W : Wld w h₀) {n : Nat} {t : List UInt8} {ts : List (Int × MV)} {lim dl : Addr} {σ : St} {k : kV} (ht : t.length ≤ 100000) (htz : ts.length ≤ 100000) (h1 : σ lim = some (.inst 53 dl)) (h2 : σ dl = some (.ns limNs)) (hL : LexR t ts)
    (hk : ∀ f xs σ', KB σ σ' → σ f = none → σ' f = some (.list xs) → ToksAt σ' xs ts → k (.ref f) σ') : CALL w h₀ (n + 10) (.ref 672) [.bytes t, .bytes [61, 116], .ref lim] σ k := by
  refine E_672 W fun L => ?_
  (conv => whnf)
  refine C_lexer W ht h1 h2 fun x dx σ1 g1 hdx X1 => ?_
  (conv => whnf)
  refine ⟨by show 0 ≤ 1000; decide, fun f hf => ?_⟩
  (conv => whnf)
  refine ⟨by show 2 ≤ 1000; decide, fun tu htu => ?_⟩
  (conv => whnf)
  refine ⟨_, by rw [St.upd_same], ?_⟩
  (conv => whnf)
  refine ⟨⟨rfl, rfl⟩, ?_⟩
  (conv => whnf)
  have hft : f ≠ tu := fun e => by rw [← e, St.upd_same] at htu; cases htu
  have hff : ((σ1.upd f (.list [])).upd tu (.tuple [.ref x, .ref f])) f = some (.list []) := by rw [St.upd_ne hft, St.upd_same]
  have g2 : Grow σ1 ((σ1.upd f (.list [])).upd tu (.tuple [.ref x, .ref f])) := (Grow.upd hf).trans (Grow.upd htu)
  have X2 := X1.grow g2
  have hσf : σ f = none := by
    cases q : σ f with
    | none => rfl
    | some o => have := g1 _ _ q; rw [hf] at this; cases this
  revert X2 hff
  have kb2 : KB σ ((σ1.upd f (.list [])).upd tu (.tuple [.ref x, .ref f])) := KB.grow (g1.trans g2)
  revert kb2
  generalize ((σ1.upd f (.list [])).upd tu (.tuple [.ref x, .ref f])) = σ2
  intro kb2 hff X2
  obtain ⟨l2, e2, hs2, H2, -⟩ := X2.get
  refine ⟨_, H2.hx, ?_⟩
  (conv => whnf)
  refine ⟨_, H2.hdx, ?_⟩
  (conv => whnf)
  refine X_next W X2 hL fun y σ3 B3 ra kd v k3 X3 T3 tu3 => ?_
  have hff3 : σ3 f = some (.list []) := k3 _ _ hff (fun z => by rw [z, H2.hdx] at hff; cases hff) (fun _ q => by cases q)
  (conv => whnf)
  refine while_inv (fun m ρ σ' => ∃ (ra B : List UInt8) (xs : List MV) (ts1 ts2 : List (Int × MV)) (y : Addr) (kd : Int) (v : MV), ts = ts1 ++ ts2 ∧ LxAt w σ' x dx t ra B ∧ TokAt σ' y (.int kd) v ∧ Turn ts2 ra kd v ∧ σ' f = some (.list xs) ∧ ToksAt σ' xs ts1 ∧ KB σ σ' ∧
    ρ = ([("text", .bytes t), ("chunk", .bytes [61, 116]), ("limits", .ref lim), ("found", .ref f), ("lexer", .ref x), ("token", .ref y)] : Nm) ∧ m = ts2.length) ?_ (N := ts.length) ⟨ra, B3, [], [], ts, y, kd, v, rfl, X3, T3, tu3, hff3, .nil, kb2.kp k3 hdx, rfl, rfl⟩
  rintro m ρ σ4 K ⟨ra, B, xs, ts1, ts2, y, kd, v, e1, X4, ⟨dy, T4, T5⟩, e3, e4, e5, e6, rfl, em⟩ hK - - -
  have hxl := e5.length
  have htl := congrArg List.length e1
  rw [List.length_append] at htl
  (conv => whnf)
  refine ⟨_, T4, ?_⟩
  (conv => whnf)
  refine ⟨_, T5, ?_⟩
  (conv => whnf)
  rcases e3 with ⟨rfl, rfl⟩ | ⟨ts3, rfl, hne, hvo, hL3⟩
  · first | refine goF1 (rfl) ?_ | refine goF2 (rfl) ?_
    (conv => whnf)
    rw [List.append_nil] at e1
    subst e1
    exact hk f xs σ4 e6 hσf e4 e5
  · first | refine goT1 (by simpa using hne) ?_ | refine goT2 (by simpa using hne) ?_
    (conv => whnf)
    refine ⟨_, e4, ?_⟩
    (conv => whnf)
    refine ⟨_, T4, ?_⟩
    (conv => whnf)
    refine ⟨_, T5, ?_⟩
    (conv => whnf)
    refine ⟨_, T4, ?_⟩
    (conv => whnf)
    refine ⟨_, T5, ?_⟩
    (conv => whnf)
    rw [hvo]
    (conv => whnf)
    refine ⟨by show 2 ≤ 1000; decide, fun a ha => ?_⟩
    (conv => whnf)
    have hfa : f ≠ a := fun e => by rw [← e, e4] at ha; cases ha
    refine ⟨_, by rw [St.upd_ne hfa]; exact e4, ?_⟩
    (conv => whnf)
    refine ⟨by omega, ?_⟩
    (conv => whnf)
    have X5 : LxAt w ((σ4.upd a (.tuple [.int kd, v])).upd f (.list (xs ++ [.ref a]))) x dx t ra B := (X4.grow (Grow.upd ha)).updList (by rw [St.upd_ne hfa]; exact e4)
    have tk5 : ToksAt ((σ4.upd a (.tuple [.int kd, v])).upd f (.list (xs ++ [.ref a]))) (xs ++ [.ref a]) (ts1 ++ [(kd, v)]) := by
      refine ToksAt.snoc (by rw [St.upd_ne (Ne.symm hfa), St.upd_same]) (e5.keep fun b ms q => ?_)
      have hbf : b ≠ f := fun z => by rw [z, e4] at q; cases q
      rw [St.upd_ne hbf]
      exact Grow.upd ha _ _ q
    have kb5 : KB σ ((σ4.upd a (.tuple [.int kd, v])).upd f (.list (xs ++ [.ref a]))) := (e6.trans (KB.grow (Grow.upd ha))).upd hσf
    have ff5 : ((σ4.upd a (.tuple [.int kd, v])).upd f (.list (xs ++ [.ref a]))) f = some (.list (xs ++ [.ref a])) := St.upd_same ..
    revert X5 tk5 kb5 ff5
    generalize ((σ4.upd a (.tuple [.int kd, v])).upd f (.list (xs ++ [.ref a]))) = σ5
    intro X5 tk5 kb5 ff5
    obtain ⟨l5, e52, hs5, H5, -⟩ := X5.get
    refine ⟨_, H5.hx, ?_⟩
    (conv => whnf)
    refine ⟨_, H5.hdx, ?_⟩
    (conv => whnf)
    refine X_next W X5 hL3 fun y6 σ6 B6 ra6 kd6 v6 k6 X6 T6 tu6 => ?_
    (conv => whnf)
    refine hK ts3.length _ _ (by rw [em]; simp) ⟨ra6, B6, _, ts1 ++ [(kd, v)], ts3, y6, kd6, v6, by rw [e1]; simp, X6, T6, tu6, ?_, tk5.keep (k6.keepTup H5), kb5.kp k6 hdx, rfl, rfl⟩
    exact k6 _ _ ff5 (fun z => by rw [z, H5.hdx] at ff5; cases ff5) (fun _ q => by cases q)

end Mine

end
section
open PySem PySem.W PyProof.Rows PySem.Calls
set_option maxHeartbeats 4000000
set_option linter.unusedVariables false
set_option linter.unusedSimpArgs false
namespace Mine
open MineK
open PySem.Challenge (pw_xm0629_01 rw_xm0629_01)
theorem CALL_fnB {w : World} {h₀ : Heap} (W : Wld w h₀) {n : Nat} {f : Addr} {d : Option Stmt} {name qual : Str} {dV pm cd : Value} {xs : List Str} {args args' : List MV} {σ : St} {k : MV → St → Prop}
    (hf : (Kf pw_xm0629_01 w.params).lookup f = some (fnO d name qual dV pm cd)) (hcd : codeIn (Kf pw_xm0629_01 w.params) cd qual = true)
    (hco : ((fscope d).isCoroutine, (fscope d).isGenerator, (fscope d).kind, ((fscope d).names.all fun x => x.2 != .cell), (xs.all fun x => (fscope d).names.lookup x == some .local), decide xs.Nodup) = (false, false, .function, true, true, true))
    (hb : ∀ (s : Shared), (Kf pw_xm0629_01 w.params).In s.heap → ∀ us : List Value, VRs args us → ∃ us', us'.length = xs.length ∧ VRs args' us' ∧ BindsTo s (fnOf name qual (fargs d) (fbody d) (fscope d) dV .none .none pm none cd .none) ⟨us, []⟩ (xs.zip us'))
    (h : ∀ L, EnvOk ⟨w, h₀, W, n, L⟩ (envOf d name qual dV pm cd L f) → TX ⟨w, h₀, W, n, L⟩ (execs (fbody d) (envOf d name qual dV pm cd L f)) (xs.zip args') σ (retK k)) : CALL w h₀ (n + 1) (.ref f) args σ k := by
  refine ⟨fun G A s E Q us hG hA hR hv hQ => ?_⟩
  simp only [Prod.mk.injEq] at hco
  obtain ⟨hco, hge, hki, hce, hxs, hnd⟩ := hco
  have hnd : xs.Nodup := of_decide_eq_true hnd
  have st := hR.stays hG
  have X : (Kf pw_xm0629_01 w.params).In s.heap := W.Y.objs.keeps st
  obtain ⟨us', hul, hv', hB⟩ := hb s X us hv
  refine codeAny_call_def (fd := fnOf name qual (fargs d) (fbody d) (fscope d) dV .none .none pm none cd .none) (body := fbody d) (binds := xs.zip us') hA.depth (X _ _ hf) rfl (W.nolim.keeps st) (codeRec_of X hcd) rfl hB
    (fun x hx => by simpa using List.all_eq_true.mp hce x hx) (fun x hx => ?_) (fun h' hn hk X' => ?_) hco hge hki
  · have : x.1 ∈ xs := (List.of_mem_zip hx).1
    simpa using List.all_eq_true.mp hxs _ this
  · have R : Rel G s.heap.objs.size (xs.zip args') σ h' := by
      refine ⟨hR.grow hk, ⟨_, hn, fun x => ?_⟩, hR.none_of_ge (Nat.le_refl _), hR.G_none_of_ge (Nat.le_refl _)⟩
      rw [lookup_reverse_nodup (by rw [zip_map_fst hul]; exact hnd)]
      exact look_zip hv'
    refine h s.heap.objs.size ⟨rfl, rfl, rfl, hki⟩ G _ ⟨h', s.gens, s.drawn, _, s.os⟩ _ _ hG ?_ R (fun fl f' ρ' σ' h'' t' hk' hfl R' => ?_)
    · refine ⟨?_, ?_, hA.handled⟩
      · show A.depth + 1 + 4 * n + 4 < _
        have := hA.1; omega
      · show A.units + 3 + 16 * n + 16 < _
        have := hA.2.1; omega
    · have R0 : Rel0 G σ' h'' := R'.toRel0
      cases fl with
      | ret v =>
        obtain ⟨u, rfl, hu⟩ := hfl
        exact hQ v u σ' h'' t' hk' hu R0
      | next => cases hfl; exact hQ .none .none σ' h'' t' hk' rfl R0
      | brk => cases hfl; exact hQ .none .none σ' h'' t' hk' rfl R0
      | cont => cases hfl; exact hQ .none .none σ' h'' t' hk' rfl R0
noncomputable def limVals : List Value := [.int 64 210, .int 250 211, .int 60 212, .int 200 213, .int 40 214, .int 200 215, .int 2000 216, .int 50 217, .int 1000000000 218, .int 1000000 219]
noncomputable def limMVs : List MV := [.int 64, .int 250, .int 60, .int 200, .int 40, .int 200, .int 2000, .int 50, .int 1000000000, .int 1000000]
theorem C_limits {w : World} {h₀ : Heap} (W : Wld w h₀) {n : Nat} {σ : St} {k : kV} (hk : ∀ x dx σ', Grow σ σ' → σ' x = some (.inst 53 dx) → σ' dx = some (.ns limNs) → k (.ref x) σ') : CALL w h₀ (n + 2) (.ref 53) [] σ k := by
  refine CALL_cls W (fI := 36) (by decide) fun x dx hx hdx hne => ?_
  refine CALL_fnB W (xs := ["self", "width", "registers", "upvalues", "local_names", "ccalls", "frames", "stack", "flush", "steps", "text"]) (args' := .ref x :: limMVs) (d := fst pw_xm0629_01 3 (some 0)) (name := "__init__") (qual := "Limits.__init__") (dV := .ref 29) (pm := .str "lua.values" 194) (cd := .ref 35)
    (by kernel_rfl) (by kernel_rfl) (by kernel_rfl) (fun s X us hus => ?_) fun L hE => ?_
  · match us, hus with
    | [u], hus =>
    refine ⟨u :: limVals, rfl, ⟨hus.1, ?_⟩, ?_⟩
    · unfold limVals limMVs
      repeat' (first | exact trivial | refine ⟨⟨_, rfl⟩, ?_⟩)
    · have ho : s.heap.get? 29 = some ⟨.type "tuple", none, .seq limVals.toArray 0, #[]⟩ := X _ _ (by kernel_rfl)
      refine BindsTo.of_defaults rfl ho rfl (by first | rfl | kernel_rfl) (by first | rfl | kernel_rfl)
  have P0 : Mk σ 53 x dx ((σ.upd dx (.ns [])).upd x (.inst 53 dx)) [] := ⟨St.upd_same .., by rw [St.upd_ne (Ne.symm hne), St.upd_same], grow_upd hx (Grow.upd hdx), hne, hdx⟩
  refine exs_ok (exF_ok (evF_ok hE 40).1 (evF_ok hE 40).2 hE 40) ?_
  (conv => whnf)
  refine ⟨_, P0.1, ?_⟩
  (conv => whnf)
  refine ⟨_, P0.2.1, ?_⟩
  (conv => whnf)
  refine ⟨by show 1 ≤ 1000; decide, ?_⟩
  (conv => whnf)
  have P1 := P0.set (fs' := ([("width", .int 64)] : Nm))
  refine ⟨_, P1.1, ?_⟩
  (conv => whnf)
  refine ⟨_, P1.2.1, ?_⟩
  (conv => whnf)
  refine ⟨by show 2 ≤ 1000; decide, ?_⟩
  (conv => whnf)
  have P2 := P1.set (fs' := ([("width", .int 64), ("registers", .int 250)] : Nm))
  refine ⟨_, P2.1, ?_⟩
  (conv => whnf)
  refine ⟨_, P2.2.1, ?_⟩
  (conv => whnf)
  refine ⟨by show 3 ≤ 1000; decide, ?_⟩
  (conv => whnf)
  have P3 := P2.set (fs' := ([("width", .int 64), ("registers", .int 250), ("upvalues", .int 60)] : Nm))
  refine ⟨_, P3.1, ?_⟩
  (conv => whnf)
  refine ⟨_, P3.2.1, ?_⟩
  (conv => whnf)
  refine ⟨by show 4 ≤ 1000; decide, ?_⟩
  (conv => whnf)
  have P4 := P3.set (fs' := ([("width", .int 64), ("registers", .int 250), ("upvalues", .int 60), ("local_names", .int 200)] : Nm))
  refine ⟨_, P4.1, ?_⟩
  (conv => whnf)
  refine ⟨_, P4.2.1, ?_⟩
  (conv => whnf)
  refine ⟨by show 5 ≤ 1000; decide, ?_⟩
  (conv => whnf)
  have P5 := P4.set (fs' := ([("width", .int 64), ("registers", .int 250), ("upvalues", .int 60), ("local_names", .int 200), ("ccalls", .int 40)] : Nm))
  refine ⟨_, P5.1, ?_⟩
  (conv => whnf)
  refine ⟨_, P5.2.1, ?_⟩
  (conv => whnf)
  refine ⟨by show 6 ≤ 1000; decide, ?_⟩
  (conv => whnf)
  have P6 := P5.set (fs' := ([("width", .int 64), ("registers", .int 250), ("upvalues", .int 60), ("local_names", .int 200), ("ccalls", .int 40), ("frames", .int 200)] : Nm))
  refine ⟨_, P6.1, ?_⟩
  (conv => whnf)
  refine ⟨_, P6.2.1, ?_⟩
  (conv => whnf)
  refine ⟨by show 7 ≤ 1000; decide, ?_⟩
  (conv => whnf)
  have P7 := P6.set (fs' := ([("width", .int 64), ("registers", .int 250), ("upvalues", .int 60), ("local_names", .int 200), ("ccalls", .int 40), ("frames", .int 200), ("stack", .int 2000)] : Nm))
  refine ⟨_, P7.1, ?_⟩
  (conv => whnf)
  refine ⟨_, P7.2.1, ?_⟩
  (conv => whnf)
  refine ⟨by show 8 ≤ 1000; decide, ?_⟩
  (conv => whnf)
  have P8 := P7.set (fs' := ([("width", .int 64), ("registers", .int 250), ("upvalues", .int 60), ("local_names", .int 200), ("ccalls", .int 40), ("frames", .int 200), ("stack", .int 2000), ("flush", .int 50)] : Nm))
  refine ⟨_, P8.1, ?_⟩
  (conv => whnf)
  refine ⟨_, P8.2.1, ?_⟩
  (conv => whnf)
  refine ⟨by show 9 ≤ 1000; decide, ?_⟩
  (conv => whnf)
  have P9 := P8.set (fs' := ([("width", .int 64), ("registers", .int 250), ("upvalues", .int 60), ("local_names", .int 200), ("ccalls", .int 40), ("frames", .int 200), ("stack", .int 2000), ("flush", .int 50), ("steps", .int 1000000000)] : Nm))
  refine ⟨_, P9.1, ?_⟩
  (conv => whnf)
  refine ⟨_, P9.2.1, ?_⟩
  (conv => whnf)
  refine ⟨by show 10 ≤ 1000; decide, ?_⟩
  (conv => whnf)
  have P10 := P9.set (fs' := ([("width", .int 64), ("registers", .int 250), ("upvalues", .int 60), ("local_names", .int 200), ("ccalls", .int 40), ("frames", .int 200), ("stack", .int 2000), ("flush", .int 50), ("steps", .int 1000000000), ("text", .int 1000000)] : Nm))
  exact ⟨rfl, hk x dx _ P10.2.2.1 P10.1 P10.2.1⟩

end Mine

end
section
open PySem PySem.W PyProof.Rows PySem.Calls
set_option maxHeartbeats 4000000
set_option linter.unusedVariables false
set_option linter.unusedSimpArgs false
namespace Mine
open MineK
open PySem.Challenge (pw_xm0629_01 rw_xm0629_01)
/-! ## the script's pieces -/
theorem bits_small {p : Int} (h0 : 0 ≤ p) (h1 : p ≤ 1000) : Builtin.Int.intBits p ≤ 64 := by
  unfold Builtin.Int.intBits
  split
  · omega
  · rename_i hne
    have hn : p.natAbs ≠ 0 := by simp at hne; omega
    have : p.natAbs.log2 < 10 := (Nat.log2_lt hn).mpr (by omega)
    omega
/-- what stands but one object -/
noncomputable def Kbk (bk : Addr) (σ σ' : St) : Prop := ∀ a o, σ a = some o → a ≠ bk → σ' a = some o
theorem Kbk.refl (bk : Addr) (σ : St) : Kbk bk σ σ := fun _ _ e _ => e
theorem Kbk.trans {bk : Addr} {a b c : St} (h : Kbk bk a b) (k : Kbk bk b c) : Kbk bk a c := fun x o e n => k x o (h x o e n) n
theorem Kbk.grow {bk : Addr} {a b : St} (h : Grow a b) : Kbk bk a b := fun x o e _ => h x o e
theorem Kbk.upd {bk : Addr} {σ : St} {o : MObj} : Kbk bk σ (σ.upd bk o) := fun x p e n => by rw [St.upd_ne n]; exact e
structure Bask (σ : St) (bk l : Addr) (ns : List Int) (p : Int) : Prop where
  hbk : σ bk = some (.list [.ref l, .int p])
  hl : σ l = some (.list (ns.map .int))
  hne : l ≠ bk
  p0 : 0 ≤ p
  nz : ns.length ≤ 1000
theorem Bask.grow {σ σ' : St} {bk l : Addr} {ns : List Int} {p : Int} (h : Bask σ bk l ns p) (g : Grow σ σ') : Bask σ' bk l ns p := ⟨g _ _ h.hbk, g _ _ h.hl, h.hne, h.p0, h.nz⟩
theorem C_taken {w : World} {h₀ : Heap} (W : Wld w h₀) {n : Nat} {bk l : Addr} {ns : List Int} {p many : Int} {σ : St} {k : kV} (H : Bask σ bk l ns p) (hp : p ≤ 1000) (hm : 0 < many)
    (hk : ∀ r σ', 0 ≤ r → r < many → Bask σ' bk l ns (p + 1) → Kbk bk σ σ' → k (.int r) σ') : CALL w h₀ (n + 1) (.ref 679) [.ref bk, .int many] σ k := by
  have hp0 := H.p0
  have hnz := H.nz
  refine E_679 W fun L => ?_
  (conv => whnf)
  refine ⟨by omega, ?_⟩
  (conv => whnf)
  refine ⟨_, _, H.hbk, rfl, ?_⟩
  (conv => whnf)
  refine ⟨_, ⟨H.hbk, by decide, by simp, by simp⟩, ?_⟩
  have hlbk := H.hne
  have B1 : Bask (σ.upd bk (.list (List.set [.ref l, .int p] (Int.toNat 1) (.int (p + 1))))) bk l ns (p + 1) := ⟨St.upd_same .., by rw [St.upd_ne hlbk]; exact H.hl, hlbk, by omega, hnz⟩
  (conv => whnf)
  refine ⟨by omega, ?_⟩
  (conv => whnf)
  refine ⟨_, _, B1.hbk, rfl, ?_⟩
  (conv => whnf)
  refine ⟨_, B1.hl, ?_⟩
  (conv => whnf)
  refine ⟨by simp; omega, ?_⟩
  (conv => whnf)
  by_cases hlt : p < ns.length
  · first | refine goT1 (by simp; omega) ?_ | refine goT2 (by simp; omega) ?_
    (conv => whnf)
    refine ⟨by omega, ?_⟩
    (conv => whnf)
    refine ⟨_, _, B1.hbk, rfl, ?_⟩
    (conv => whnf)
    refine ⟨by omega, ?_⟩
    (conv => whnf)
    obtain ⟨q, hq⟩ : ∃ q, ns[p.toNat]? = some q := ⟨_, List.getElem?_eq_getElem (by omega)⟩
    refine ⟨_, .int q, B1.hl, by rw [List.getElem?_map, hq]; rfl, ?_⟩
    (conv => whnf)
    refine ⟨hm, ?_⟩
    (conv => whnf)
    exact hk _ _ (Int.emod_nonneg _ (by omega)) (Int.emod_lt_of_pos _ hm) B1 Kbk.upd
  · first | refine goF1 (by simp; omega) ?_ | refine goF2 (by simp; omega) ?_
    (conv => whnf)
    refine ⟨bits_small hp0 hp, ?_⟩
    (conv => whnf)
    refine ⟨by decide, ?_⟩
    (conv => whnf)
    refine ⟨hm, ?_⟩
    (conv => whnf)
    exact hk _ _ (Int.emod_nonneg _ (by omega)) (Int.emod_lt_of_pos _ hm) B1 Kbk.upd

end Mine

end
section
open PySem PySem.W PyProof.Rows PySem.Calls
set_option maxHeartbeats 4000000
set_option linter.unusedVariables false
set_option linter.unusedSimpArgs false
namespace Mine
open MineK
open PySem.Challenge (pw_xm0629_01 rw_xm0629_01)
/-! ## comprehensions -/
section
variable {α : Type} {M : Model} {A : Around} {E : Value → Shared → Prop} {s : Shared}
theorem wpAny_attempt {m : Sem α} {Q : Except Value α → Shared → Prop} (h : wpAny M A m (fun a => Q (.ok a)) (fun e => Q (.error e)) s) :
    wpAny M A m.attempt Q E s := fun Γ p hΓ ho => by rw [Sem.wp_attempt]; exact h Γ p hΓ ho
end
section
variable {c : Cx} {ρ : Nm} {σ : St} {env : Env}
theorem under_comp {A : Around} {elt : Expr} {gens : List Comprehension} {scope : Scope} {pos : Pos} {d : Nat} {it acc : Value} {env : Env} : A.under (.compLoop (.ListComp elt gens scope pos) d it acc env) = A := Around.under_of_weight (by rfl)
theorem under_comps {A : Around} {elt : Expr} {gens : List Comprehension} {scope : Scope} {pos : Pos} {d : Nat} {it acc : Value} {env : Env} : A.under (.compStart (.ListComp elt gens scope pos) d it acc env) = A := Around.under_of_weight (by rfl)
noncomputable def compL (side : St → Prop) (bind : MV → Nm → St → (Nm → St → Prop) → Prop) (tst : Nm → St → (Bool → Nm → St → Prop) → Prop) (el : Nm → St → (MV → Nm → St → Prop) → Prop) (D : Addr) : List MV → Nm → St → (St → Prop) → Prop
  | [], _, σ, k => side σ ∧ k σ
  | v :: vs, ρ, σ, k => side σ ∧ bind v ρ σ fun ρ σ => tst ρ σ fun b ρ σ =>
      (b = true → el ρ σ fun y ρ σ => ∃ ys, σ D = some (.list ys) ∧ ys.length ≤ 1000000 ∧ compL side bind tst el D vs ρ (σ.upd D (.list (ys ++ [y]))) k) ∧
      (b = false → compL side bind tst el D vs ρ σ k)
/-- the tests of a comprehension -/
noncomputable abbrev ifsT (ifs : List Expr) (env : Env) : Sem Bool := forIn ifs true fun c r => if r = true then do let ok ← isTrue c env (eval c env); pure (ForInStep.yield ok) else pure (ForInStep.yield r)
theorem compLoop_sound {elt tgt iter : Expr} {ifs : List Expr} {scope : Scope} {pos : Pos} {items : List MV} {sideS : St → Prop} {sideH : Heap → Prop} {it D : Addr} {P : Heap → Nat → Prop} (I : IterOk c.w it items sideH P)
    (hgo : ∀ (A : Around) (s : Shared) (E : Value → Shared → Prop) (Q : Unit → Shared → Prop) (j : Nat) (u : Value), P s.heap j → Q () s → PySem.wpAny (model pw_xm0629_01 c.w) A (letOwnedTupleGo tgt (.ref it) u) Q E s)
    (hside : ∀ G ρ σ h, Rel G c.L ρ σ h → sideS σ → sideH h)
    {bind : MV → Nm → St → (Nm → St → Prop) → Prop} (hbd : ∀ v u ρ σ k, VR v u → bind v ρ σ k → TU c (assign tgt env u) ρ σ k)
    {tst : Nm → St → (Bool → Nm → St → Prop) → Prop} (hts : ∀ ρ σ k, tst ρ σ k → TB c (ifsT ifs env) ρ σ k)
    {el : Nm → St → (MV → Nm → St → Prop) → Prop} (hel : ∀ ρ σ k, el ρ σ k → TV c (eval elt env) ρ σ k)
    {G : Fz} {A : Around} {s : Shared} {Q : Shared → Prop} {X' : Value → Shared → Prop} {k : St → Prop} (hG : GOk c.h₀ G) (hA : AOk c.n A) (hGi : G it = none)
    (hQ : ∀ ρ' σ' h' t', k σ' → Rel G c.L ρ' σ' h' → Q ⟨h', s.gens, s.drawn, t', s.os⟩) :
    ∀ (vs : List MV) (j : Nat) (ρ : Nm) (σ : St) (h : Heap) (t : Nat), items.drop j = vs → compL sideS bind tst el D vs ρ σ k → Rel G c.L ρ σ h → P h j → it ≠ c.L → σ it = none →
      codeAny (model pw_xm0629_01 c.w) A (.compLoop (.ListComp elt [⟨tgt, iter, ifs, 0⟩] scope pos) 0 (.ref it) (.ref D) env) (fun r s' => match r with | .ok _ => Q s' | .error e => X' e s') ⟨h, s.gens, s.drawn, t, s.os⟩ := by
  intro vs
  induction vs with
  | nil =>
    intro j ρ σ h t hd hN R hP n1 n2
    refine codeAny_of_tree rfl ?_
    rw [under_comp]
    show wpAny _ A ((compTurn (.ListComp elt [⟨tgt, iter, ifs, 0⟩] scope pos) 0 (.ref it) (.ref D) env).onRaise _) _ _ _
    refine wpAny_onRaise ?_
    rw [compTurn_list]
    have hnone : items[j]? = none := by
      have := congrArg List.length hd
      rw [List.length_drop] at this
      exact List.getElem?_eq_none (by simp at this; omega)
    refine wpAny_bind (wpAny_standAt (wpAny_bind (lift (I.stop A ⟨h, s.gens, s.drawn, t, s.os⟩ _ _ j hA.handled hP (hside _ _ _ _ R hN.1) hnone fun h' hk => ?_))))
    refine wpAny_pure ?_
    exact hQ ρ σ h' _ hN.2 (R.itTurn hGi n1 n2 fun b o hb e => hk b o hb e)
  | cons v vs ih =>
    intro j ρ σ h t hd hN R hP n1 n2
    refine codeAny_of_tree rfl ?_
    rw [under_comp]
    show wpAny _ A ((compTurn (.ListComp elt [⟨tgt, iter, ifs, 0⟩] scope pos) 0 (.ref it) (.ref D) env).onRaise _) _ _ _
    refine wpAny_onRaise ?_
    rw [compTurn_list]
    have hitem : items[j]? = some v := by
      have := congrArg (fun l => l[0]?) hd
      simpa using this
    have hdrop : items.drop (j + 1) = vs := by
      have := congrArg List.tail hd
      simpa using this
    refine wpAny_bind (wpAny_standAt (wpAny_bind (lift (I.item A ⟨h, s.gens, s.drawn, t, s.os⟩ _ _ j v hP (hside _ _ _ _ R hN.1) hitem fun u h' t' hu hP' hsb => ?_))))
    dsimp only
    refine wpAny_bind (lift (hgo A ⟨h', s.gens, s.drawn, t', s.os⟩ _ _ (j + 1) u hP' ?_))
    have R' : Rel G c.L ρ σ h' := R.itTurn hGi n1 n2 fun b o hb e => (hsb.2 b hb).trans e
    obtain ⟨o, ho⟩ := I.lives _ _ hP'
    have Rw := R'.withIt n1 n2
    rw [ho] at Rw
    have hGw : GOk c.h₀ (G.with it (some o)) := hG.with hGi
    have next : ∀ (ρ₂ : Nm) (σ₂ : St) (h₂ : Heap) (t₂ : Nat), Rel (G.with it (some o)) c.L ρ₂ σ₂ h₂ → compL sideS bind tst el D vs ρ₂ σ₂ k →
        codeAny (model pw_xm0629_01 c.w) A (.compLoop (.ListComp elt [⟨tgt, iter, ifs, 0⟩] scope pos) 0 (.ref it) (.ref D) env) (fun r s' => match r with | .ok _ => Q s' | .error e => X' e s') ⟨h₂, s.gens, s.drawn, t₂, s.os⟩ := fun ρ₂ σ₂ h₂ t₂ R₂ q => by
      obtain ⟨R₃, hi, n3, n4⟩ := R₂.dropIt hGi
      exact ih (j + 1) ρ₂ σ₂ h₂ t₂ hdrop q R₃ (I.at_ _ _ _ hP' (hi.trans ho.symm)) n4 n3
    refine wpAny_bind (hbd v u ρ σ _ hu hN.2 (G.with it (some o)) A ⟨h', s.gens, s.drawn, t', s.os⟩ _ _ hGw hA Rw fun _ _ ρ₁ σ₁ h₁ t₁ q₁ _ R₁ => ?_)
    show wpAny _ A (ifsT ifs env >>= _) _ _ _
    refine wpAny_bind (hts ρ₁ σ₁ _ q₁ (G.with it (some o)) A ⟨h₁, s.gens, s.drawn, t₁, s.os⟩ _ _ hGw hA R₁ fun b b' ρ₂ σ₂ h₂ t₂ q₂ e R₂ => ?_)
    cases e
    cases b with
    | true =>
      rw [if_pos rfl]
      refine wpAny_bind (wpAny_bind (hel ρ₂ σ₂ _ (q₂.1 rfl) (G.with it (some o)) A ⟨h₂, s.gens, s.drawn, t₂, s.os⟩ _ _ hGw hA R₂ fun y uy ρ₃ σ₃ h₃ t₃ q₃ hy R₃ => ?_))
      obtain ⟨ys, h1, h2, h3⟩ := q₃
      refine wpAny_bind (T_list_append (c := c) (ρ := ρ₃) (σ := σ₃) (k := fun _ ρ' σ' => ρ' = ρ₃ ∧ σ' = σ₃.upd D (.list (ys ++ [y]))) h1 hy h2 ⟨rfl, rfl⟩ (G.with it (some o)) A ⟨h₃, s.gens, s.drawn, t₃, s.os⟩ _ _ hGw hA R₃ fun _ _ ρ₄ σ₄ h₄ t₄ q₄ _ R₄ => ?_)
      obtain ⟨rfl, rfl⟩ := q₄
      exact wpAny_pure (wpAny_pure ⟨rfl, next _ _ _ _ R₄ h3⟩)
    | false =>
      rw [if_neg Bool.false_ne_true]
      exact wpAny_pure ⟨rfl, next _ _ _ _ R₂ (q₂.2 rfl)⟩
end

end Mine

end
section
open PySem PySem.W PyProof.Rows PySem.Calls
set_option maxHeartbeats 4000000
set_option linter.unusedVariables false
set_option linter.unusedSimpArgs false
namespace Mine
open MineK
open PySem.Challenge (pw_xm0629_01 rw_xm0629_01)
section
variable {c : Cx} {ρ : Nm} {σ : St} {env : Env}
/-- what a comprehension runs over -/
noncomputable def IterableG (c : Cx) (tgt : Expr) (v : MV) (items : List MV) (sideS : St → Prop) : Prop :=
  ∀ (u : Value), VR v u → ∀ (G : Fz) (A : Around) (s : Shared) (E : Value → Shared → Prop) (Q : Value → Shared → Prop) (ρ : Nm) (σ : St), GOk c.h₀ G → AOk c.n A → Rel G c.L ρ σ s.heap → sideS σ →
    (∀ it h' (P : Heap → Nat → Prop) (sideH : Heap → Prop), s.heap.objs.size ≤ it → it < h'.objs.size → (∀ b o, s.heap.get? b = some o → h'.get? b = some o) → IterOk c.w it items sideH P →
      (∀ G L ρ σ h, Rel G L ρ σ h → sideS σ → sideH h) → P h' 0 →
      (∀ (A : Around) (s : Shared) (E : Value → Shared → Prop) (Q : Unit → Shared → Prop) (j : Nat) (u : Value), P s.heap j → Q () s → PySem.wpAny (model pw_xm0629_01 c.w) A (letOwnedTupleGo tgt (.ref it) u) Q E s) →
      (∀ (A : Around) (s : Shared) (E : Value → Shared → Prop) (Q : Value → Shared → Prop) (j : Nat), P s.heap j → Q (.ref it) s → PySem.wpAny (model pw_xm0629_01 c.w) A (pyIter (.ref it)) Q E s) →
      Q (.ref it) ⟨h', s.gens, s.drawn, s.toks, s.os⟩) → PySem.wpAny (model pw_xm0629_01 c.w) A (pyIter u) Q E s
noncomputable abbrev Cx.at (c : Cx) (C : Addr) : Cx := ⟨c.w, c.h₀, c.W, c.n, C⟩
theorem wpAny_standIf' {α : Type} {M : Model} {A : Around} {E : Value → Shared → Prop} {s : Shared} {b : Prop} [Decidable b] {pos : Pos} {k : PUnit → Sem α} {Q : α → Shared → Prop} (h : wpAny M A (k ()) Q E s) :
    wpAny M A (if b then (standAt pos >>= k) else k ()) Q E s := by
  split
  · exact wpAny_bind (wpAny_standAt h)
  · exact h
theorem codeAny_compStart' {M : Program} {w : World} {A : Around} {s : Shared} {elt tgt iter : Expr} {ifs : List Expr} {scope : Scope} {cpos : Pos} {it : Addr} {acc : Value} {env : Env} {R : Result → Shared → Prop}
    (h : codeAny (model M w) A (.compLoop (.ListComp elt [⟨tgt, iter, ifs, 0⟩] scope cpos) 0 (.ref it) acc env) R s)
    (hself : ∀ (A : Around) (Q : Value → Shared → Prop) (E' : Value → Shared → Prop), Q (.ref it) s → PySem.wpAny (model M w) A (pyIter (.ref it)) Q E' s) : codeAny (model M w) A (.compStart (.ListComp elt [⟨tgt, iter, ifs, 0⟩] scope cpos) 0 (.ref it) acc env) R s := by
  refine codeAny_of_tree rfl ?_
  show wpAny _ (A.under (.compStart (.ListComp elt [⟨tgt, iter, ifs, 0⟩] scope cpos) 0 (.ref it) acc env)) ((compStart (.ListComp elt [⟨tgt, iter, ifs, 0⟩] scope cpos) 0 (.ref it) acc env).onRaise _) _ _ _
  rw [under_comps]
  refine wpAny_onRaise ?_
  unfold compStart
  show wpAny _ _ (ask >>= _) _ _ _
  refine wpAny_bind (lift (wpAny_askSetting (wpAny_ite ?_)))
  split
  · first
      | exact wpAny_bind (wpAny_pure (wpAny_pure (And.intro rfl h)))
      | exact wpAny_pure (And.intro rfl h)
  · refine wpAny_bind (wpAny_rule ?_)
    show wpAny _ _ (standAt iter.pos >>= _) _ _ s
    exact wpAny_bind (wpAny_standAt (wpAny_bind (lift (hself _ _ _ (wpAny_pure (And.intro rfl h))))))
theorem T_comp {elt tgt iter : Expr} {ifs : List Expr} {scope : Scope} {cpos pos : Pos} {cl : List (Str × Addr)} {use : Option (Value → Sem Unit)}
    (hclos : closureFor scope env = pure cl) (hcell : ∀ y ∈ scope.names, y.2 ≠ .cell) (hkind : scope.kind = .function) (hnames : ∀ y ∈ scope.names, y.2 = .local → scope.names.lookup y.1 = some .local)
    (hfs : ∀ x, foldedSetIterable iter env x = pure x)
    {bind : Addr → MV → Nm → St → (Nm → St → Prop) → Prop} (hbd : ∀ C v u ρ σ k, VR v u → bind C v ρ σ k → TU (c.at C) (assign tgt (compEnvC scope cl C env) u) ρ σ k)
    {tst : Addr → Nm → St → (Bool → Nm → St → Prop) → Prop} (hts : ∀ C ρ σ k, tst C ρ σ k → TB (c.at C) (ifsT ifs (compEnvC scope cl C env)) ρ σ k)
    {el : Addr → Nm → St → (MV → Nm → St → Prop) → Prop} (hel : ∀ C ρ σ k, el C ρ σ k → TV (c.at C) (eval elt (compEnvC scope cl C env)) ρ σ k)
    {k : MV → Nm → St → Prop} {kf : Addr → St → Prop} (hkf : ∀ D σ2, kf D σ2 → match use with | none => k (.ref D) ρ σ2 | some u => TU c (u (.ref D)) ρ σ2 fun ρ' σ' => k .none ρ' σ')
    (h : TV c (eval iter env) ρ σ (kE ρ fun v σ1 => ∃ items sideS, IterableG c tgt v items sideS ∧ sideS σ1 ∧ ∀ C D, σ1 C = none → σ1 D = none → C ≠ D →
      compL sideS (bind C) (tst C) (el C) D items [] (σ1.upd D (.list [])) (kf D))) :
    TV c (comprehension (.ListComp elt [⟨tgt, iter, ifs, 0⟩] scope cpos) scope env pos (newList []) false (eval iter env) use) ρ σ k := fun G A s E Q hG hA hR hQ => by
  have hcl : clausesOf (.ListComp elt [⟨tgt, iter, ifs, 0⟩] scope cpos) = [⟨tgt, iter, ifs, 0⟩] := rfl
  unfold comprehension
  rw [hclos, hcl]
  refine wpAny_bind (h G A s E _ hG hA hR fun v u ρ' σ1 h1 t1 q hv R1 => ?_)
  obtain ⟨rfl, items, sideS, hI, hs, hc⟩ := q
  refine wpAny_bind (wpAny_standAt (wpAny_bind (wpAny_of_eq (hfs u) (wpAny_pure (wpAny_bind (wpAny_holding (lift (hI u hv G A ⟨h1, s.gens, s.drawn, t1, s.os⟩ E _ ρ' σ1 hG hA R1 hs fun it h2 P sideH hge hlt hk I hside hP hgo hself => ?_))))))))
  refine wpAny_standIf' (wpAny_bind (lift (wpAny_newObj_type ?_)))
  refine wpAny_bind (wpAny_pure (wpAny_bind (lift (PySem.wpAny_newFunctionEnv hcell (by intro y hy; simp at hy) (fun h3 hns hsb => ?_) hkind))))
  dsimp only at hns hsb ⊢
  have R2 : Rel G c.L ρ' σ1 h2 := R1.grow hk
  have hfD : σ1 h2.objs.size = none := R2.toRel0.none_of_ge (Nat.le_refl _)
  have R2' : Rel G c.L ρ' (σ1.upd h2.objs.size (.list [])) (h2.push { cls := .type "list", dict := none, data := .seq ([] : List Value).toArray }) :=
    R2.push (Nat.le_refl _) (fun b o e => Heap.get?_push_of_some _ e) ⟨[], _, Heap.get?_push_size _ rfl, trivial⟩
  generalize hH2 : h2.push { cls := .type "list", dict := none, data := .seq ([] : List Value).toArray } = H2 at hns hsb R2' ⊢
  have hz : H2.objs.size = h2.objs.size + 1 := by rw [← hH2, Heap.size_push]
  have hDC : H2.objs.size ≠ h2.objs.size := by rw [hz]; exact Nat.succ_ne_self _
  have old : ∀ b o, H2.get? b = some o → h3.get? b = some o := fun b o e => hsb.extBut b o (Nat.ne_of_lt (Heap.lt_size e)) (Heap.get?_push_of_some _ e)
  have R3 : Rel G c.L ρ' (σ1.upd h2.objs.size (.list [])) h3 := R2'.grow old
  have hCσ : (σ1.upd h2.objs.size (.list [])) H2.objs.size = none := R2'.toRel0.none_of_ge (Nat.le_refl _)
  have hCG : G H2.objs.size = none := R2'.toRel0.G_none_of_ge (Nat.le_refl _)
  have hCL : H2.objs.size ≠ c.L := fun e => Nat.lt_irrefl _ (e ▸ R2'.ns.lt)
  have hCσ1 : σ1 H2.objs.size = none := by rw [St.upd_ne hDC] at hCσ; exact hCσ
  have hitC : it ≠ H2.objs.size := by rw [hz]; exact Nat.ne_of_lt (Nat.lt_succ_of_lt hlt)
  have hiti : σ1 it = none := R1.toRel0.none_of_ge hge
  have hitG : G it = none := R1.toRel0.G_none_of_ge hge
  have hitL : it ≠ c.L := fun e => Nat.lt_irrefl _ (Nat.lt_of_lt_of_le (e ▸ R1.ns.lt) hge)
  have RC : Rel (G.with c.L (h3.get? c.L)) H2.objs.size [] (σ1.upd h2.objs.size (.list [])) h3 :=
    ⟨R3.freeze, ⟨_, hns, fun x => trivial⟩, hCσ, by unfold Fz.with; rw [if_neg hCL]; exact hCG⟩
  have hP3 : P h3 0 := I.at_ _ _ _ hP (by
    obtain ⟨o, ho⟩ := I.lives _ _ hP
    rw [ho]
    exact old it o (hH2 ▸ Heap.get?_push_of_some _ ho))
  have hGw : GOk c.h₀ (G.with c.L (h3.get? c.L)) := hG.with R3.offL
  have hDit : (σ1.upd h2.objs.size (.list [])) it = none := by rw [St.upd_ne (Nat.ne_of_lt hlt)]; exact hiti
  have hloop := hc H2.objs.size h2.objs.size hCσ1 hfD hDC
  have hv1 : ∀ x ∈ (scope.names.filter fun x => (x.2 == .local || x.2 == .cell) && x.1 != (".0" : Str)).reverse, x.2 = .local →
      Env.kindOf (compEnvC scope cl H2.objs.size env) x.1 = some .local := fun x hx hl => lookup_relabel_local (hnames x (List.mem_filter.mp (List.mem_reverse.mp hx)).1 hl)
  have hv2 : ∀ x ∈ (scope.names.filter fun x => (x.2 == .local || x.2 == .cell) && x.1 != (".0" : Str)).reverse.drop 1 ++ (scope.names.filter fun x => (x.2 == .local || x.2 == .cell) && x.1 != (".0" : Str)).reverse.take 1,
      x.2 = .local → Env.kindOf (compEnvC scope cl H2.objs.size env) x.1 = some .local := fun x hx hl => by
    rcases List.mem_append.mp hx with h1 | h1
    · exact hv1 x (List.mem_of_mem_drop h1) hl
    · exact hv1 x (List.mem_of_mem_take h1) hl
  have loop : ∀ (QQ : Shared → Prop) (X' : Value → Shared → Prop) (t : Nat), (∀ σ' h' t', kf h2.objs.size σ' →
        Rel G c.L ρ' σ' h' → (∃ m, h'.Ns H2.objs.size m) → σ' H2.objs.size = none → QQ ⟨h', s.gens, s.drawn, t', s.os⟩) →
      codeAny (model pw_xm0629_01 c.w) A (.compLoop (.ListComp elt [⟨tgt, iter, ifs, 0⟩] scope cpos) 0 (.ref it) (.ref h2.objs.size) (compEnvC scope cl H2.objs.size env))
        (fun r s' => match r with | .ok _ => QQ s' | .error e => X' e s') ⟨h3, s.gens, s.drawn, t, s.os⟩ := fun QQ X' t hQQ => by
    refine compLoop_sound (c := c.at H2.objs.size) I hgo (fun G ρ σ h R q => hside G _ ρ σ h R q) (fun v u ρ σ k => hbd _ v u ρ σ k) (fun ρ σ k => hts _ ρ σ k) (fun ρ σ k => hel _ ρ σ k) hGw hA (by unfold Fz.with; rw [if_neg hitL]; exact hitG)
      (fun ρ'' σ'' h'' t'' q R => ?_) items 0 [] _ h3 t rfl hloop RC hP3 hitC hDit
    obtain ⟨m, hn, _⟩ := R.ns
    exact hQQ σ'' h'' t'' q (R3.thaw R.toRel0) ⟨m, hn⟩ R.freshL
  have key : ∀ (Q1 : Flow → Shared → Prop) (E1 : Value → Shared → Prop) (t : Nat), (∀ f σ' h' t', kf h2.objs.size σ' →
        Rel G c.L ρ' σ' h' → (∃ m, h'.Ns H2.objs.size m) → σ' H2.objs.size = none → Q1 f ⟨h', s.gens, s.drawn, t', s.os⟩) →
      codeAny (model pw_xm0629_01 c.w) A (.compStart (.ListComp elt [⟨tgt, iter, ifs, 0⟩] scope cpos) 0 (.ref it) (.ref h2.objs.size) (compEnvC scope cl H2.objs.size env))
        (fun r s' => match r with | .ok f => Q1 f s' | .error e => E1 e s') ⟨h3, s.gens, s.drawn, t, s.os⟩ := fun Q1 E1 t hq =>
    codeAny_compStart' (codeAny_mono (loop (fun s' => ∀ f, Q1 f s') E1 t fun σ' h' t' a b d e f => hq f σ' h' t' a b d e) fun r s' hr => by
      cases r with
      | ok f => exact hr f
      | error e => exact hr) (fun A Q E' q => hself A ⟨h3, s.gens, s.drawn, t, s.os⟩ E' Q 0 hP3 q)
  refine wpAny_holding (wpAny_bind (wpAny_attempt (wpAny_holding (wpAny_run (key _ _ _ fun f σ' h' t' hk' Rk hn hC => ?_)))))
  obtain ⟨m, hn⟩ := hn
  replace hk' := hkf _ _ hk'
  cases use with
  | none =>
    refine wpAny_bind (wpAny_holding (lift (wpAny_comp_letGo (cenv := compEnvC scope cl H2.objs.size env) hkind _ _ m hv1 hn fun h'' m' _ hs' => ?_)))
    refine wpAny_pure (hQ _ _ ρ' σ' h'' t' hk' rfl ?_)
    exact Rk.itTurn hCG hCL hC fun b o hb e => (hs'.2 b hb).trans e
  | some u =>
    have Rw := Rk.withIt hCL hC
    obtain ⟨oC, hoC⟩ : ∃ o, h'.get? H2.objs.size = some o := by obtain ⟨o, _, _, q, _⟩ := hn; exact ⟨o, q⟩
    rw [hoC] at Rw
    refine wpAny_bind (wpAny_rule (wpAny_bind (wpAny_holding ?_)))
    refine hk' (G.with H2.objs.size (some oC)) A ⟨h', s.gens, s.drawn, t', s.os⟩ _ _ (hG.with hCG) hA Rw fun _ _ ρ₂ σ₂ h₂ t₂ q₂ _ R₂ => ?_
    obtain ⟨R₃, hi, n3, n4⟩ := R₂.dropIt hCG
    have hn₂ : h₂.Ns H2.objs.size m := hn.at' fun o e => by rw [hi, ← e, hoC]
    refine wpAny_bind (lift (wpAny_comp_letGo (cenv := compEnvC scope cl H2.objs.size env) hkind _ _ m hv2 hn₂ fun h'' m' _ hs' => ?_))
    refine wpAny_pure (hQ _ _ ρ₂ σ₂ h'' t₂ q₂ rfl ?_)
    exact R₃.itTurn hCG hCL n3 fun b o hb e => (hs'.2 b hb).trans e
end

end Mine

end
section
open PySem PySem.W PyProof.Rows PySem.Calls
set_option maxHeartbeats 4000000
set_option linter.unusedVariables false
set_option linter.unusedSimpArgs false
namespace Mine
open MineK
open PySem.Challenge (pw_xm0629_01 rw_xm0629_01)
/-! ## more operations on lists -/
section
variable {c : Cx} {ρ : Nm} {σ : St} {env : Env}
theorem go_name {x : Str} {p : Pos} {it : Addr} : ∀ (A : Around) (s : Shared) (E : Value → Shared → Prop) (Q : Unit → Shared → Prop) (u : Value), Q () s → PySem.wpAny (model pw_xm0629_01 c.w) A (letOwnedTupleGo (.Name x p) (.ref it) u) Q E s := fun A s E Q u h => PySem.wpAny_pure h
theorem iterG_list {tgt : Expr} {a : Addr} {items : List MV} (ht : (∃ x p, tgt = .Name x p) ∨ (∃ ts n p, tgt = .Tuple ts n p)) : IterableG c tgt (.ref a) items (fun σ => σ a = some (.list items)) := fun u hu G A s E Q ρ σ hG hA hR hs hQ => by
  cases hu
  obtain ⟨vs, hl, hv⟩ := list_of_rep (hR.obj _ _ hs)
  refine wpAny_pyIter_list hl ?_
  refine hQ s.heap.objs.size _ (fun h j => h.IsListIter s.heap.objs.size a j) (fun h => ∃ vs, h.IsList a vs.toArray ∧ VRs items vs) (Nat.le_refl _) (by rw [Heap.size_push]; exact Nat.lt_succ_self _) (fun b o e => Heap.get?_push_of_some _ e) ?_ (fun G L ρ σ h R e => list_of_rep (R.obj _ _ e))
    ⟨_, Heap.get?_push_size _ rfl, rfl, rfl⟩ (fun A s E Q j u hP hq => ?_) (fun A s E Q j hP hq => wpAny_pyIter_listiter hP hq)
  · refine ⟨fun h h' j ⟨o, h1, h2⟩ e => ⟨o, e.trans h1, h2⟩, fun h j ⟨o, h1, _⟩ => ⟨o, h1⟩, fun A s E Q j x hP hS hx hq => ?_, fun A s E Q j hh hP hS hx hq => ?_⟩
    · obtain ⟨us, hl', hv'⟩ := hS
      obtain ⟨u, h1, h2⟩ := hv'.get hx
      exact wpAny_pyNext_list_item hP hl' (by simpa using h1) fun h' hP' hs => hq u h' _ h2 hP' hs
    · obtain ⟨us, hl', hv'⟩ := hS
      have : us.length ≤ j := by rw [← hv'.length]; simpa using hx
      exact wpAny_pyNext_list_end hh hP hl' (by simpa using this) fun h' hs => hq h' hs
  · rcases ht with ⟨x, p, rfl⟩ | ⟨ts, n, p, rfl⟩
    · exact PySem.wpAny_pure hq
    · cases u with
      | ref T => exact wpAny_letOwnedTupleGo_listiter hP hq
      | _ => exact PySem.wpAny_pure hq
theorem iterG_tuple {x : Str} {p : Pos} {a : Addr} {items : List MV} : IterableG c (.Name x p) (.ref a) items (fun σ => σ a = some (.tuple items)) := fun u hu G A s E Q ρ σ hG hA hR hs hQ => by
  cases hu
  have tup : ∀ {h : Heap}, Rep h a (.tuple items) → ∃ vs, h.IsTuple a vs.toArray ∧ VRs items vs := fun {h} r => by
    obtain ⟨vs, n, e, hv⟩ := r
    exact ⟨vs, ⟨_, e, rfl, n, rfl⟩, hv⟩
  obtain ⟨vs, hl, hv⟩ := tup (hR.obj _ _ hs)
  refine wpAny_pyIter_tuple hl ?_
  refine hQ s.heap.objs.size _ (fun h j => h.IsTupleIter s.heap.objs.size a j) (fun h => ∃ vs, h.IsTuple a vs.toArray ∧ VRs items vs) (Nat.le_refl _) (by rw [Heap.size_push]; exact Nat.lt_succ_self _) (fun b o e => Heap.get?_push_of_some _ e) ?_ (fun G L ρ σ h R e => tup (R.obj _ _ e))
    ⟨_, Heap.get?_push_size _ rfl, rfl, rfl⟩ (fun A s E Q j u hP hq => PySem.wpAny_pure hq) (fun A s E Q j hP hq => ?_)
  · refine ⟨fun h h' j ⟨o, h1, h2⟩ e => ⟨o, e.trans h1, h2⟩, fun h j ⟨o, h1, _⟩ => ⟨o, h1⟩, fun A s E Q j x hP hS hx hq => ?_, fun A s E Q j hh hP hS hx hq => ?_⟩
    · obtain ⟨us, hl', hv'⟩ := hS
      obtain ⟨u, h1, h2⟩ := hv'.get hx
      exact wpAny_pyNext_tuple_item hP hl' (by simpa using h1) fun h' hP' hs => hq u h' _ h2 hP' hs
    · obtain ⟨us, hl', hv'⟩ := hS
      have : us.length ≤ j := by rw [← hv'.length]; simpa using hx
      exact wpAny_pyNext_tuple_end hh hP hl' (by simpa using this) fun h' hs => hq h' hs
  · exact wpAny_pyIter_tupleiter hP hq
/-! list(xs) -/
noncomputable def listK (vs : List MV) (σ : St) (k : kV) : Prop :=
  match vs with
  | [.ref a] => ∃ xs, σ a = some (.list xs) ∧ xs.length ≤ 1000000 ∧ ∀ r, σ r = none → k (.ref r) (σ.upd r (.list xs))
  | _ => False
theorem list_sound {vs : List MV} {us : List Value} {k : kV} (hv : VRs vs us) (h : listK vs σ k) : TV c (call (.type "list") us) ρ σ (kE ρ k) := fun G A s E Q hG hA hR hQ => by
  unfold listK at h
  split at h
  · obtain ⟨u, rfl, hu⟩ := VRs_1 hv
    cases hu
    obtain ⟨xs, h1, h2, h3⟩ := h
    obtain ⟨ws, n, e, hws⟩ := hR.obj _ _ h1
    have hl := hws.length
    refine lift (call_list_seq _ (.inl rfl) e rfl rfl (fun h' c' hk hn => ?_) (by rw [sizeLine_eq, List.size_toArray]; omega))
    exact hQ _ _ ρ _ h' s.toks ⟨rfl, h3 _ (hR.toRel0.none_of_ge (Nat.le_refl _))⟩ rfl (hR.push (Nat.le_refl _) hk ⟨ws, c', hn, hws⟩)
  · exact h.elim
/-! script[:30] -/
theorem ints_of_all : ∀ {vs : List Value}, (∀ v ∈ vs, ∃ i t, v = .int i t) → ∃ ns : List Int, VRs (ns.map .int) vs
  | [], _ => ⟨[], trivial⟩
  | v :: vs, h => by
    obtain ⟨i, t, rfl⟩ := h _ (.head _)
    obtain ⟨ns, hn⟩ := ints_of_all (vs := vs) fun v hv => h v (.tail _ hv)
    exact ⟨i :: ns, ⟨t, rfl⟩, hn⟩
theorem all_of_ints : ∀ {ns : List Int} {vs : List Value}, VRs (ns.map .int) vs → ∀ v ∈ vs, ∃ i t, v = .int i t
  | n :: ns, v :: vs, h, w, hw => by
    rcases List.mem_cons.mp hw with rfl | hw
    · obtain ⟨t, e⟩ := h.1; exact ⟨n, t, e⟩
    · exact all_of_ints h.2 w hw
  | [], [], _, w, hw => nomatch hw
  | [], _ :: _, h, _, _ => h.elim
noncomputable def slice1K (h₀ : Heap) (o u : MV) (σ : St) (k : kV) : Prop :=
  match o, u with
  | .ref a, .int i => ∃ (ns : List Int) (ws : List Value), (h₀.IsList a ws.toArray ∧ VRs (ns.map .int) ws) ∧ 0 ≤ i ∧ ns.length ≤ 1000000 ∧ ∀ r ns', σ r = none → (ns' : List Int).length ≤ ns.length → k (.ref r) (σ.upd r (.list (ns'.map .int)))
  | _, _ => False
theorem T_Slice1 {value hi : Expr} {p pos : Pos} {k : MV → Nm → St → Prop}
    (h : TV c (eval value env) ρ σ fun o ρ' σ' => TV c (eval hi env) ρ' σ' fun u ρ₂ σ₂ => slice1K c.h₀ o u σ₂ fun r σ₃ => k r ρ₂ σ₃) :
    TV c (eval (.Subscript value (.Slice none (some hi) none p) pos) env) ρ σ k := fun G A s E Q hG hA hR hQ => by
  rw [eval_Subscript, arm_eval_Slice]
  refine wpAny_bind (h G A s E _ hG hA hR fun o uo ρ₁ σ₁ h₁ t₁ q hu R₁ => ?_)
  refine wpAny_bind (wpAny_holding (wpAny_bind (wpAny_pure ?_)))
  refine wpAny_bind (wpAny_holding (q G A ⟨h₁, s.gens, s.drawn, t₁, s.os⟩ E _ hG hA R₁ fun m um ρ₂ σ₂ h₂ t₂ q₂ hm R₂ => ?_))
  refine wpAny_bind (wpAny_holding (wpAny_pure ?_))
  refine lift (wpAny_newObj_type ?_)
  refine wpAny_bind (wpAny_standAt (lift ?_))
  replace q₂ : slice1K c.h₀ o m σ₂ fun r σ₃ => k r ρ₂ σ₃ := q₂
  unfold slice1K at q₂
  split at q₂
  · rename_i a i
    cases hu
    obtain ⟨t, rfl⟩ := hm
    obtain ⟨ns, ws, ⟨h1, hws⟩, h2, h3, h4⟩ := q₂
    have h1' : h₂.IsList a ws.toArray := h1.at fun o x => R₂.keep a o (hG a o x)
    obtain ⟨oL, e, eL⟩ := h1'
    have hl := hws.length
    rw [List.length_map] at hl
    have k1 : ∀ b o, h₂.get? b = some o → (h₂.push { cls := .type "slice", data := .fields #[.none, .int i t, .none] }).get? b = some o := fun b o e => Heap.get?_push_of_some _ e
    have hsl : (h₂.push { cls := .type "slice", data := .fields #[.none, .int i t, .none] }).IsSliceOf h₂.objs.size .none (.int i t) .none := Heap.IsSliceOf.new _ _ _ _
    have R₃ := R₂.grow k1
    have hL : (h₂.push { cls := .type "slice", data := .fields #[.none, .int i t, .none] }).IsList a ws.toArray := ⟨oL, k1 _ _ e, eL⟩
    have hn := R₃.toRel0.none_of_ge (Nat.le_refl _)
    obtain ⟨ns', hns'⟩ := ints_of_all (vs := (slicePick ws.toArray none (some i) none).toList) (fun v hv => by
      unfold slicePick at hv
      simp only [List.toList_toArray] at hv
      obtain ⟨j, _, hj⟩ := List.mem_filterMap.mp hv
      have := Array.mem_of_getElem? hj
      exact all_of_ints hws v (by simpa using this))
    have hlen' : ns'.length ≤ ns.length := by
      have a1 := hns'.length
      have a2 := slicePick_size_le ws.toArray none (some i) none
      rw [List.length_map] at a1
      simp only [Array.length_toList, List.size_toArray] at a1 a2
      omega
    refine tail_of (vs := [.ref h₂.objs.size, _]) (Heap.IsList.typeIs (s := ⟨h₂.push { cls := .type "slice", data := .fields #[.none, .int i t, .none] }, s.gens, s.drawn, t₂, s.os⟩) hL) list_getitem_lookup
      (wpAny_getItem_list_slice hL hsl .none (.int i t) .none (by simp) ?_ (by rw [sizeLine_eq, List.size_toArray]; omega)) rfl
    refine hQ _ _ ρ₂ _ _ t₂ (h4 _ ns' hn hlen') rfl (R₃.push (Nat.le_refl _) (fun b o e => Heap.get?_push_of_some _ e) ⟨(slicePick ws.toArray none (some i) none).toList, 0, (by rw [Array.toArray_toList]; exact Heap.get?_push_size _ rfl), hns'⟩)
  · exact q₂.elim
end

end Mine

end
section
open PySem PySem.W PyProof.Rows PySem.Calls
set_option maxHeartbeats 4000000
set_option linter.unusedVariables false
set_option linter.unusedSimpArgs false
namespace Mine
open MineK
open PySem.Challenge (pw_xm0629_01 rw_xm0629_01)
/-! ## equal lists -/
section
variable {c : Cx} {ρ : Nm} {σ : St} {env : Env}
noncomputable def isAtom : MV → Bool
  | .none | .int _ | .bytes _ => true
  | _ => false
noncomputable def EqM (σ : St) (x y : MV) : Prop := (isAtom x = true ∧ x = y) ∨ ∃ a b ms, x = .ref a ∧ y = .ref b ∧ σ a = some (.tuple ms) ∧ σ b = some (.tuple ms) ∧ ∀ m ∈ ms, isAtom m = true
noncomputable def EqMs (σ : St) (xs ys : List MV) : Prop := xs.length = ys.length ∧ ∀ (i : Nat) (x y : MV), xs[i]? = some x → ys[i]? = some y → EqM σ x y
theorem eqAt_atom {A : Around} {s : Shared} {x : MV} {u v : Value} (h : isAtom x = true) (hu : VR x u) (hv : VR x v) : SeqAt.EqAt A s u v true := by
  cases x with
  | none => cases hu; cases hv; exact SeqAt.EqAt.same _
  | int i => obtain ⟨t, rfl⟩ := hu; obtain ⟨t', rfl⟩ := hv; have := SeqAt.EqAt.int_int (A := A) (s := s) i t i t'; rwa [beq_self_eq_true] at this
  | bytes b =>
    obtain ⟨t, rfl⟩ := hu; obtain ⟨t', rfl⟩ := hv
    intro prog w E Q hq
    unfold eqBool
    refine PySem.wpAny_holding ?_
    refine PySem.wpAny_ite_split (fun _ => PySem.wpAny_bind (PySem.wpAny_rule (PySem.wpAny_pure hq))) (fun _ => ?_)
    have hq' : PySem.wpAny (model prog w) A (truthOfDropped (.bool true)) Q E s := wpAny_truthy_bool hq
    exact PySem.wpAny_bind (eq_bytes (by rw [beq_self_eq_true]; exact hq'))
  | bool b => cases h
  | ref a => cases h
  | str b => cases h
  | other b => cases h
theorem all_true_range (n : Nat) : (List.range n).all (fun _ => true) = true := by simp
theorem eqAt_of {G : Fz} {A : Around} {s : Shared} {x y : MV} {u v : Value} (h : EqM σ x y) (hu : VR x u) (hv : VR y v) (R : Rel0 G σ s.heap) (hA : A.units < cLine) : SeqAt.EqAt A s u v true := by
  rcases h with ⟨h1, rfl⟩ | ⟨a, b, ms, rfl, rfl, h1, h2, h3⟩
  · exact eqAt_atom h1 hu hv
  · cases hu; cases hv
    by_cases hab : a = b
    · subst hab; exact SeqAt.EqAt.same _
    · obtain ⟨us, n, e1, hus⟩ := R.obj _ _ h1
      obtain ⟨vs, n', e2, hvs⟩ := R.obj _ _ h2
      have l1 := hus.length
      have l2 := hvs.length
      have T1 : s.heap.IsTuple a us.toArray := ⟨_, e1, rfl, n, rfl⟩
      have T2 : s.heap.IsTuple b vs.toArray := ⟨_, e2, rfl, n', rfl⟩
      refine SeqAt.EqAt.of_refs hab ?_
      have := SeqAt.RcAt.tuples (e := fun _ => true) T1 T2 hA (fun j h1' h2' => ?_)
      · rw [all_true_range, Bool.true_and] at this
        have e : (us.toArray.size == vs.toArray.size) = true := by simp; omega
        rwa [e] at this
      · have hj1 : j < us.length := by simpa using h1'
        have hj2 : j < vs.length := by simpa using h2'
        obtain ⟨m, hm⟩ : ∃ m, ms[j]? = some m := ⟨_, List.getElem?_eq_getElem (by omega)⟩
        obtain ⟨x1, q1, q2⟩ := hus.get hm
        obtain ⟨x2, q3, q4⟩ := hvs.get hm
        have r1 : us.toArray[j] = x1 := by
          rw [List.getElem?_eq_getElem hj1] at q1; simpa using q1
        have r2 : vs.toArray[j] = x2 := by
          rw [List.getElem?_eq_getElem hj2] at q3; simpa using q3
        rw [r1, r2]
        exact eqAt_atom (h3 m (List.mem_of_getElem? hm)) q2 q4
noncomputable def neK (a b : MV) (σ : St) (k : Bool → St → Prop) : Prop :=
  match a, b with
  | .ref x, .ref y => ∃ xs ys, σ x = some (.list xs) ∧ σ y = some (.list ys) ∧ EqMs σ xs ys ∧ k false σ
  | a, b => cmpK .NotEq a b σ k
theorem ne_sound {a b : MV} {u v : Value} {k : Bool → St → Prop} (hu : VR a u) (hv : VR b v) (h : neK a b σ k) : TV c (compareOp .NotEq u v) ρ σ (kBV ρ k) := by
  unfold neK at h
  split at h
  · obtain ⟨xs, ys, h1, h2, ⟨h3, h4⟩, h5⟩ := h
    cases hu; cases hv
    intro G A s E Q hG hA hR hQ
    obtain ⟨us, n, e1, hus⟩ := hR.obj _ _ h1
    obtain ⟨vs, n', e2, hvs⟩ := hR.obj _ _ h2
    have l1 := hus.length
    have l2 := hvs.length
    have hun : A.in1.units < cLine := by
      have := hA.2.1
      show A.units + 1 < cLine
      omega
    have := SeqAt.RcNeAt.lists (A := A) (s := s) (e := fun _ => true) (⟨_, e1, rfl, n, rfl⟩ : s.heap.IsList _ us.toArray) (⟨_, e2, rfl, n', rfl⟩ : s.heap.IsList _ vs.toArray) (by simp; omega) hA.units (fun j h1' h2' => ?_)
    · rw [all_true_range] at this
      exact lift (this _ _ E Q (hQ (.bool false) _ ρ σ s.heap s.toks ⟨rfl, _, rfl, h5⟩ rfl hR))
    · have hj1 : j < us.length := by simpa using h1'
      have hj2 : j < vs.length := by simpa using h2'
      obtain ⟨m, hm⟩ : ∃ m, xs[j]? = some m := ⟨_, List.getElem?_eq_getElem (by omega)⟩
      obtain ⟨m', hm'⟩ : ∃ m, ys[j]? = some m := ⟨_, List.getElem?_eq_getElem (by omega)⟩
      obtain ⟨x1, q1, q2⟩ := hus.get hm
      obtain ⟨x2, q3, q4⟩ := hvs.get hm'
      have r1 : us.toArray[j] = x1 := by
        rw [List.getElem?_eq_getElem hj1] at q1; simpa using q1
      have r2 : vs.toArray[j] = x2 := by
        rw [List.getElem?_eq_getElem hj2] at q3; simpa using q3
      rw [r1, r2]
      exact eqAt_of (h4 j m m' hm hm') q2 q4 hR.toRel0 hun
  · exact cmp_sound hu hv h
end

end Mine

end
section
open PySem PySem.W PyProof.Rows PySem.Calls
set_option maxHeartbeats 4000000
set_option linter.unusedVariables false
set_option linter.unusedSimpArgs false
namespace Mine
open MineK
open PySem.Challenge (pw_xm0629_01 rw_xm0629_01)
/-! ## The larger interpreter: cells, comprehensions -/
section
variable {c : Cx} {ρ : Nm} {σ : St} {env : Env}
noncomputable def nameK1 (env : Env) (x : Str) (ρ : Nm) (σ : St) (k : kV) : Prop :=
  match env.kindOf x with
  | some .cell => match (x == ("__debug__" : Str)) || (x == ("__classdict__" : Str)), env.cells.lookup x with
    | false, some a => ∃ v, σ a = some (.cell (some v)) ∧ k v σ
    | _, _ => False
  | _ => nameK env x ρ σ k
theorem name1_sound (hE : EnvOk c env) {x : Str} {pos : Pos} {k : kV} (h : nameK1 env x ρ σ k) : TV c (eval (.Name x pos) env) ρ σ (kE ρ k) := by
  unfold nameK1 at h
  split at h
  · rename_i hk
    split at h
    · rename_i hd hc
      rw [Bool.or_eq_false_iff] at hd
      obtain ⟨v, hv, h⟩ := h
      exact T_Name_cell hE.kind (.inl hk) hd.1 hd.2 hc hv ⟨rfl, h⟩
    · exact h.elim
  · exact name_sound hE h
noncomputable def isListT (f : MV) : Bool :=
  match f with
  | .other u => match u with
    | .type s => s == "list"
    | _ => false
  | _ => false
theorem isListT_ok {f : MV} (h : isListT f = true) : f = .other (.type "list") := by
  cases f with
  | other u => cases u with
    | type s => rw [show s = "list" from beq_iff_eq.mp h]
    | _ => cases h
  | _ => cases h
noncomputable def listC (k : kV) : kL := fun vs σ => listK vs σ k
noncomputable def callee1K (c : Cx) (ev : EvT) (f : MV) (args : List Expr) (ρ : Nm) (σ : St) (k : kV) : Prop :=
  match isListT f with
  | true => evs ev args ρ σ (listC k)
  | false => calleeK c ev f args ρ σ k
theorem callee1_ok {ev : EvT} (he : EvOk c env ev) {f : MV} {u : Value} {args : List Expr} {pos pos' : Pos} {k : kV} (hs : args.all noStar = true) (hu : VR f u) (h : callee1K c ev f args ρ σ k) :
    TV c (callWith pos u [] (backTo pos' (starEach args env)) []) ρ σ (kE ρ k) := by
  unfold callee1K at h
  split at h
  · rename_i hf
    rw [isListT_ok hf] at hu
    cases hu
    exact T_callWith_type hs ((evs_ok he hs h).mono fun vs ρ' σ' q us hv => by
      obtain ⟨e, q⟩ := q
      rw [e]; exact list_sound hv q)
  · exact callee_ok he hs hu h
noncomputable def nameE? (e : Expr) : Option Str :=
  match e with
  | .Name x _ => some x
  | _ => none
theorem nameE_ok {t : Expr} {x : Str} (h : nameE? t = some x) : ∃ p, t = .Name x p := by
  cases t with
  | Name y p => cases h; exact ⟨p, rfl⟩
  | _ => cases h
noncomputable def slTail? (e : Expr) : Option Expr :=
  match e with
  | .Slice lo hi st _ => match lo with
    | none => match st with
      | none => hi
      | some _ => none
    | some _ => none
  | _ => none
theorem slTail_ok {e hi : Expr} (h : slTail? e = some hi) : ∃ p, e = .Slice none (some hi) none p := by
  cases e with
  | Slice lo h2 st p => cases lo with
    | none => cases st with
      | none => cases h; exact ⟨p, rfl⟩
      | some _ => cases h
    | some _ => cases h
  | _ => cases h
noncomputable def s1C2 (h₀ : Heap) (o : MV) (k : kV) : kV := fun u σ => slice1K h₀ o u σ k
noncomputable def s1C1 (c : Cx) (r : EvF) (hi : Expr) (ρ : Nm) (k : kV) : kV := fun o σ => r.ev hi ρ σ (s1C2 c.h₀ o k)
noncomputable def c1C (c : Cx) (r : EvF) (args : List Expr) (ρ : Nm) (k : kV) : kV := fun f σ => callee1K c r.ev f args ρ σ k
noncomputable def sub1E (c : Cx) (env : Env) (r : EvF) (v i : Expr) (p : Pos) (ρ : Nm) (σ : St) (k : kV) : Prop :=
  match slTail? i with
  | some hi => r.ev v ρ σ (s1C1 c r hi ρ k)
  | none => evStep c env r (.Subscript v i p) ρ σ k
noncomputable def call1E (c : Cx) (env : Env) (r : EvF) (f : Expr) (args : List Expr) (kws : List Keyword) (p : Pos) (ρ : Nm) (σ : St) (k : kV) : Prop :=
  match nameE? f with
  | some x => match kws with
    | [] => match args.all noStar with
      | true => nameK env x ρ σ (c1C c r args ρ k)
      | false => False
    | _ :: _ => False
  | none => evStep c env r (.Call f args kws p) ρ σ k
noncomputable def evStep1 (c : Cx) (env : Env) (r : EvF) (e : Expr) (ρ : Nm) (σ : St) (k : kV) : Prop :=
  match e with
  | .Name x _ => nameK1 env x ρ σ k
  | .Subscript v i p => sub1E c env r v i p ρ σ k
  | .Call f args kws p => call1E c env r f args kws p ρ σ k
  | e => evStep c env r e ρ σ k
theorem slice1_mono {h₀ : Heap} {o u : MV} {k k' : kV} (h : slice1K h₀ o u σ k) (hk : ∀ v σ', k v σ' → k' v σ') : slice1K h₀ o u σ k' := by
  unfold slice1K at h ⊢
  split at h
  · obtain ⟨ns, ws, a, b, d, e⟩ := h
    exact ⟨ns, ws, a, b, d, fun r ns' q1 q2 => hk _ _ (e r ns' q1 q2)⟩
  · exact h.elim
theorem sub1_ok {r : EvF} (he : EvOk c env r.ev) (ht : TstOk c env r.tst) (hE : EnvOk c env) {v i : Expr} {p : Pos} {k : kV} (h : sub1E c env r v i p ρ σ k) : TV c (eval (.Subscript v i p) env) ρ σ (kE ρ k) := by
  unfold sub1E at h
  split at h
  · rename_i hi hs
    obtain ⟨p2, rfl⟩ := slTail_ok hs
    exact T_Slice1 ((he _ _ _ _ h).mono fun o ρ' σ' q => by
      obtain ⟨e, q⟩ := q
      rw [e]
      exact (he _ _ _ _ q).mono fun u ρ2 σ2 q => by
        obtain ⟨e, q⟩ := q
        rw [e]
        exact slice1_mono q fun v σ' q => ⟨rfl, q⟩)
  · exact evStep_ok he ht hE _ _ _ _ h
theorem call1_ok {r : EvF} (he : EvOk c env r.ev) (ht : TstOk c env r.tst) (hE : EnvOk c env) {f : Expr} {args : List Expr} {kws : List Keyword} {pos : Pos} {k : kV} (h : call1E c env r f args kws pos ρ σ k) :
    TV c (eval (.Call f args kws pos) env) ρ σ (kE ρ k) := by
  unfold call1E at h
  split at h
  · rename_i x hx
    obtain ⟨p, rfl⟩ := nameE_ok hx
    cases kws with
    | nil =>
      dsimp only at h
      split at h
      · rename_i hs
        show TV c (eval (.Name x p) env >>= fun f => callWith pos f [] (backTo pos (starEach args env)) []) ρ σ _
        exact TE_bind (name_sound hE h) fun f u σ1 q hu => callee1_ok he hs hu q
      · exact h.elim
    | cons _ _ => exact False.elim h
  · exact evStep_ok he ht hE _ _ _ _ h
theorem evStep1_ok {r : EvF} (he : EvOk c env r.ev) (ht : TstOk c env r.tst) (hE : EnvOk c env) : EvOk c env (evStep1 c env r) := fun e ρ σ k h => by
  cases e with
  | Name x p => exact name1_sound hE h
  | Subscript v i p => exact sub1_ok he ht hE h
  | Call f args kws p => exact call1_ok he ht hE h
  | _ => exact evStep_ok he ht hE _ _ _ _ h
noncomputable def neOp? (ops : List CmpOp) : Bool :=
  match ops with
  | [] => false
  | op :: r => match r with
    | [] => match op with
      | .NotEq => true
      | _ => false
    | _ :: _ => false
theorem neOp_ok {ops : List CmpOp} (h : neOp? ops = true) : ops = [.NotEq] := by
  cases ops with
  | nil => cases h
  | cons op r => cases r with
    | nil => cases op with
      | NotEq => rfl
      | _ => cases h
    | cons _ _ => cases h
noncomputable def sole? {α : Type} (xs : List α) : Option α :=
  match xs with
  | [] => none
  | x :: r => match r with
    | [] => some x
    | _ :: _ => none
theorem sole_ok {α : Type} {xs : List α} {x : α} (h : sole? xs = some x) : xs = [x] := by
  cases xs with
  | nil => cases h
  | cons y r => cases r with
    | nil => cases h; rfl
    | cons _ _ => cases h
noncomputable def neC2 (u : MV) (k : kB1) : kV := fun v σ => neK u v σ k
noncomputable def neC1 (r : EvF) (b : Expr) (ρ : Nm) (k : kB1) : kV := fun u σ => r.ev b ρ σ (neC2 u k)
noncomputable def cmp1E (r : EvF) (a : Expr) (ops : List CmpOp) (es : List Expr) (p : Pos) (ρ : Nm) (σ : St) (k : kB1) : Prop :=
  match neOp? ops with
  | true => optK (sole? es) fun b => noK (lastMarks [.NotEq] [b]) (r.ev a ρ σ (neC1 r b ρ k))
  | false => tstStep r (.Compare a ops es p) ρ σ k
noncomputable def tstStep1 (r : EvF) (e : Expr) (ρ : Nm) (σ : St) (k : kB1) : Prop :=
  match e with
  | .Compare a ops es p => cmp1E r a ops es p ρ σ k
  | e => tstStep r e ρ σ k
theorem tstStep1_ok {r : EvF} (he : EvOk c env r.ev) (ht : TstOk c env r.tst) : TstOk c env (tstStep1 r) := fun e ρ σ k h => by
  cases e with
  | Compare a ops es pos =>
    replace h : cmp1E r a ops es pos ρ σ k := h
    unfold cmp1E at h
    split at h
    · rename_i ho
      obtain ⟨b, hb, h⟩ := optK_ok h
      obtain ⟨hl, h⟩ := noK_ok h
      rw [neOp_ok ho, sole_ok hb]
      rw [arm_isTrue_Compare, marked_id hl]
      refine TE_bind (he _ _ _ _ h) fun x u σ1 q hu => ?_
      show TB c (holding [u] (eval b env) >>= fun rv => standAt pos >>= fun _ => operate [u, rv] (compareOp .NotEq u rv) >>= fun c' => holding [c'] (truthy c')) ρ σ1 _
      exact TE_bind (T_holding (he _ _ _ _ q)) fun y v σ2 q hv => T_at (TC_bind (T_operate (ne_sound hu hv q)) fun r σ3 q2 => T_holding (truth_sound (v := .bool r) rfl q2))
    · exact tstStep_ok he ht _ _ _ _ h
  | _ => exact tstStep_ok he ht _ _ _ _ h
noncomputable def evG (c : Cx) (env : Env) : Nat → EvF
  | 0 => ⟨fun _ _ _ _ => False, fun _ _ _ _ => False⟩
  | n + 1 => ⟨evStep1 c env (evG c env n), tstStep1 (evG c env n)⟩
theorem evG_ok (hE : EnvOk c env) : ∀ n, EvOk c env (evG c env n).ev ∧ TstOk c env (evG c env n).tst
  | 0 => ⟨fun _ _ _ _ h => h.elim, fun _ _ _ _ h => h.elim⟩
  | n + 1 => ⟨evStep1_ok (evG_ok hE n).1 (evG_ok hE n).2 hE, tstStep1_ok (evG_ok hE n).1 (evG_ok hE n).2⟩
/-! comprehensions -/
noncomputable def closB (scope : Scope) (env : Env) : Option (List (Str × Addr)) :=
  match closureFor scope env with
  | .pure r => some r
  | _ => none
theorem closB_ok {scope : Scope} {cl : List (Str × Addr)} (h : closB scope env = some cl) : closureFor scope env = pure cl := by
  unfold closB at h
  split at h
  · rename_i r e; cases h; exact e
  · cases h
noncomputable def scopeB (scope : Scope) : Bool := (scope.names.all fun y => y.2 != .cell) && (scope.kind == .function) && (scope.names.all fun y => y.2 != .local || scope.names.lookup y.1 == some .local)
noncomputable def bindK (env : Env) (tgt : Expr) (v : MV) (ρ : Nm) (σ : St) (k : Nm → St → Prop) : Prop :=
  match tgt with
  | .Name x _ => locK env x (k (put x v ρ) σ)
  | .Tuple ts _ _ => optK (namesOf? env ts) fun xs => refK v fun a => ∃ ob, σ a = some ob ∧ tupK ob fun vs => vs.length = xs.length ∧ k (puts xs vs ρ) σ
  | _ => False
theorem bindK_ok (hE : EnvOk c env) {tgt : Expr} {v : MV} {u : Value} {k : Nm → St → Prop} (hu : VR v u) (h : bindK env tgt v ρ σ k) : TU c (assign tgt env u) ρ σ k := by
  cases tgt with
  | Name x pos =>
    obtain ⟨hk, h⟩ := locK_ok h
    show TU c (standAt pos >>= fun _ => bindName env x u) ρ σ k
    exact T_at (T_bindName (T_store_local hE.locals hE.kind hk hu h))
  | Tuple ts n p =>
    obtain ⟨xs, hxs, h⟩ := optK_ok h
    obtain ⟨a, rfl, ob, h1, h⟩ := refK_ok h
    obtain ⟨vs, rfl, h⟩ := tupK_ok h
    cases hu
    exact T_assign_Tuple hE hxs h1 h.1 h.2
  | _ => exact False.elim h
noncomputable def tstsK (tst : TstT) (ifs : List Expr) (ρ : Nm) (σ : St) (k : Bool → Nm → St → Prop) : Prop :=
  match ifs with
  | [] => k true ρ σ
  | t :: r => match r with
    | [] => tst t ρ σ (atC ρ k)
    | _ :: _ => False
theorem tstsK_ok {tst : TstT} (ht : TstOk c env tst) {ifs : List Expr} {k : Bool → Nm → St → Prop} (h : tstsK tst ifs ρ σ k) : TB c (ifsT ifs env) ρ σ k := by
  cases ifs with
  | nil => exact T_pure (V := fun a b => a = b) (b := true) rfl h
  | cons t r => cases r with
    | nil =>
      unfold ifsT
      simp only [List.forIn_cons, List.forIn_nil, if_true, bind_assoc, pure_bind]
      refine TB_bind (ht _ _ _ _ h) fun b σ1 q => ?_
      exact T_pure (V := fun a b => a = b) (b := b) rfl q
    | cons _ _ => exact False.elim h
noncomputable def atV (ρ : Nm) (k : MV → Nm → St → Prop) : kV := fun y σ => k y ρ σ
noncomputable def elK (r : EvF) (elt : Expr) : Nm → St → (MV → Nm → St → Prop) → Prop := fun ρ σ k => r.ev elt ρ σ (atV ρ k)
noncomputable def isNameT : Expr → Bool
  | .Name .. => true
  | _ => false
noncomputable def compK (c : Cx) (env : Env) (r : EvF) (elt tgt iter : Expr) (ifs : List Expr) (scope : Scope) (ρ : Nm) (σ : St) (k : Addr → St → Prop) : Prop :=
  match closB scope env, scopeB scope, notSet iter with
  | some cl, true, true => r.ev iter ρ σ fun v σ1 => ∃ items sideS, IterableG c tgt v items sideS ∧ sideS σ1 ∧ ∀ C D, σ1 C = none → σ1 D = none → C ≠ D →
      compL sideS (bindK (compEnvC scope cl C env) tgt) (tstsK (evG (c.at C) (compEnvC scope cl C env) 40).tst ifs) (elK (evG (c.at C) (compEnvC scope cl C env) 40) elt) D items [] (σ1.upd D (.list [])) (k D)
  | _, _, _ => False
theorem comp_ok {r : EvF} (he : EvOk c env r.ev) (hE : EnvOk c env) {elt tgt iter : Expr} {ifs : List Expr} {scope : Scope} {cpos pos : Pos} {use : Option (Value → Sem Unit)} {k : MV → Nm → St → Prop} {kf : Addr → St → Prop}
    (hkf : ∀ D σ2, kf D σ2 → match use with | none => k (.ref D) ρ σ2 | some u => TU c (u (.ref D)) ρ σ2 fun ρ' σ' => k .none ρ' σ') (h : compK c env r elt tgt iter ifs scope ρ σ kf) :
    TV c (comprehension (.ListComp elt [⟨tgt, iter, ifs, 0⟩] scope cpos) scope env pos (newList []) false (eval iter env) use) ρ σ k := by
  unfold compK at h
  split at h
  · rename_i cl hcl hsc hns
    unfold scopeB at hsc
    rw [Bool.and_eq_true, Bool.and_eq_true] at hsc
    obtain ⟨⟨s1, s2⟩, s3⟩ := hsc
    have hk : scope.kind = .function := by simpa using s2
    have hEC : ∀ C, EnvOk (c.at C) (compEnvC scope cl C env) := fun C => ⟨rfl, hE.globals, hE.builtins, hk⟩
    refine T_comp (closB_ok hcl) (fun y hy => by simpa using List.all_eq_true.mp s1 y hy) hk (fun y hy hl => ?_) (folded_no hns)
      (fun C v u ρ σ k hu q => bindK_ok (hEC C) hu q) (fun C ρ σ k q => tstsK_ok (evG_ok (hEC C) 40).2 q) (fun C ρ σ k q => ((evG_ok (hEC C) 40).1 _ _ _ _ q).mono fun y ρ' σ' q => by obtain ⟨e, q⟩ := q; rw [e]; exact q) hkf (he _ _ _ _ h)
    have := List.all_eq_true.mp s3 y hy
    rw [hl] at this
    simpa using this
  · exact h.elim
noncomputable def plainG (g : Comprehension) : Bool :=
  match g with
  | ⟨_, _, _, n⟩ => n == 0
theorem plainG_ok {g : Comprehension} (h : plainG g = true) : g = ⟨g.target, g.iter, g.ifs, 0⟩ := by
  obtain ⟨t, i, fs, n⟩ := g
  rw [show n = 0 from beq_iff_eq.mp h]
noncomputable def yesK (b : Bool) (p : Prop) : Prop :=
  match b with
  | true => p
  | false => False
theorem yesK_ok {b : Bool} {p : Prop} (h : yesK b p) : b = true ∧ p := by
  cases b with
  | true => exact ⟨rfl, h⟩
  | false => exact False.elim h
noncomputable def refC (k : kV) : Addr → St → Prop := fun D σ => k (.ref D) σ
noncomputable def lc1E (c : Cx) (env : Env) (r : EvF) (elt : Expr) (gs : List Comprehension) (scope : Scope) (ρ : Nm) (σ : St) (k : Addr → St → Prop) : Prop :=
  optK (sole? gs) fun g => yesK (plainG g) (compK c env r elt g.target g.iter g.ifs scope ρ σ k)
noncomputable def evStep2 (c : Cx) (env : Env) (r : EvF) (e : Expr) (ρ : Nm) (σ : St) (k : kV) : Prop :=
  match e with
  | .ListComp elt gs scope _ => lc1E c env r elt gs scope ρ σ (refC k)
  | e => evStep1 c env r e ρ σ k
theorem evStep2_ok {r : EvF} (he : EvOk c env r.ev) (ht : TstOk c env r.tst) (hE : EnvOk c env) : EvOk c env (evStep2 c env r) := fun e ρ σ k h => by
  cases e with
  | ListComp elt gs scope cpos =>
    obtain ⟨g, hg, h⟩ := optK_ok h
    obtain ⟨hp, h⟩ := yesK_ok h
    rw [sole_ok hg, plainG_ok hp, eval_ListComp]
    exact comp_ok (use := none) he hE (fun D σ2 q => ⟨rfl, q⟩) h
  | _ => exact evStep1_ok he ht hE _ _ _ _ h
noncomputable def evH (c : Cx) (env : Env) : Nat → EvF
  | 0 => ⟨fun _ _ _ _ => False, fun _ _ _ _ => False⟩
  | n + 1 => ⟨evStep2 c env (evH c env n), tstStep1 (evH c env n)⟩
theorem evH_ok (hE : EnvOk c env) : ∀ n, EvOk c env (evH c env n).ev ∧ TstOk c env (evH c env n).tst
  | 0 => ⟨fun _ _ _ _ h => h.elim, fun _ _ _ _ h => h.elim⟩
  | n + 1 => ⟨evStep2_ok (evH_ok hE n).1 (evH_ok hE n).2 hE, tstStep1_ok (evH_ok hE n).1 (evH_ok hE n).2⟩
end

end Mine

end
section
open PySem PySem.W PyProof.Rows PySem.Calls
set_option maxHeartbeats 4000000
set_option linter.unusedVariables false
set_option linter.unusedSimpArgs false
namespace Mine
open MineK
open PySem.Challenge (pw_xm0629_01 rw_xm0629_01)
section
variable {c : Cx} {ρ : Nm} {σ : St} {env : Env}
noncomputable def bind1K (env : Env) (x : Str) (v : MV) (ρ : Nm) (σ : St) (k : Nm → St → Prop) : Prop :=
  match env.kindOf x with
  | some .local => k (put x v ρ) σ
  | some .cell => match env.cells.lookup x with
    | some a => ∃ v0, σ a = some (.cell v0) ∧ k ρ (σ.upd a (.cell (some v)))
    | none => False
  | _ => False
theorem bind1_ok (hE : EnvOk c env) {x : Str} {v : MV} {u : Value} {k : Nm → St → Prop} (hu : VR v u) (h : bind1K env x v ρ σ k) : TU c (bindName env x u) ρ σ k := by
  unfold bind1K at h
  split at h
  · rename_i hk
    exact T_bindName (T_store_local hE.locals hE.kind hk hu h)
  · rename_i hk
    split at h
    · rename_i a hc
      obtain ⟨v0, h1, h2⟩ := h
      exact T_bindName (T_store_cell hE.kind hk hc h1 hu h2)
    · exact h.elim
  · exact h.elim
noncomputable def puts1 (env : Env) : List Str → List MV → Nm → St → (Nm → St → Prop) → Prop
  | x :: xs, v :: vs, ρ, σ, k => bind1K env x v ρ σ fun ρ σ => puts1 env xs vs ρ σ k
  | _, _, ρ, σ, k => k ρ σ
noncomputable def names1? : List Expr → Option (List Str)
  | [] => some []
  | t :: ts => match nameE? t, names1? ts with
    | some x, some xs => some (x :: xs)
    | _, _ => none
theorem names1_cons {t : Expr} {ts : List Expr} {xs : List Str} (h : names1? (t :: ts) = some xs) : ∃ x p ys, t = .Name x p ∧ xs = x :: ys ∧ names1? ts = some ys := by
  unfold names1? at h
  split at h
  · rename_i x ys h1 h2
    cases h
    obtain ⟨p, rfl⟩ := nameE_ok h1
    exact ⟨x, p, ys, rfl, rfl, h2⟩
  · cases h
theorem names1_len {ts : List Expr} {xs : List Str} (h : names1? ts = some xs) : ts.length = xs.length ∧ (assignEach ts env).findIdx? (·.1) = none ∧ (assignEach ts env).length = xs.length := by
  induction ts generalizing xs with
  | nil => cases h; exact ⟨rfl, rfl, rfl⟩
  | cons t ts ih =>
    obtain ⟨x, p, ys, rfl, rfl, e⟩ := names1_cons h
    obtain ⟨a, b, d⟩ := ih e
    refine ⟨by simp [a], ?_, ?_⟩
    · show List.findIdx? (·.1) ((false, assign (.Name x p) env) :: assignEach ts env) = none
      rw [List.findIdx?_cons]; simp [b]
    · show ((false, assign (.Name x p) env) :: assignEach ts env).length = _
      simp [d]
theorem T_puts1 (hE : EnvOk c env) {k : Nm → St → Prop} {ts : List Expr} {xs : List Str} {vs : List MV} {us : List Value} (hn : names1? ts = some xs) (hv : VRs vs us) (h : puts1 env xs vs ρ σ k) : TU c (assignInOrder ((assignEach ts env).map (·.2)) us) ρ σ k := by
  induction ts generalizing xs vs us ρ σ with
  | nil =>
    cases hn
    exact T_pure (V := fun _ _ => True) (b := ()) trivial (by cases vs <;> exact h)
  | cons t ts ih =>
    obtain ⟨x, p, ys, rfl, rfl, e⟩ := names1_cons hn
    cases vs with
    | nil => cases us with
      | nil => exact T_pure (V := fun _ _ => True) (b := ()) trivial h
      | cons u us => exact hv.elim
    | cons v vs => cases us with
      | nil => exact hv.elim
      | cons u us =>
        show TU c (holding us (standAt p >>= fun _ => bindName env x u) >>= fun _ => assignInOrder ((assignEach ts env).map (·.2)) us) ρ σ k
        exact T_bindU (T_holding (T_at ((bind1_ok hE hv.1 h).mono fun _ ρ' σ' q => ih e hv.2 q)))
theorem T_assign_Tuple1 (hE : EnvOk c env) {ts : List Expr} {xs : List Str} {a : Addr} {vs : List MV} {n : Nat} {p : Pos} {k : Nm → St → Prop} (hxs : names1? ts = some xs) (h1 : σ a = some (.tuple vs)) (hlen : vs.length = xs.length) (h : puts1 env xs vs ρ σ k) :
    TU c (assign (.Tuple ts n p) env (.ref a)) ρ σ k := by
  obtain ⟨a1, a2, a3⟩ := names1_len (env := env) hxs
  show TU c (standAt p >>= fun _ => unpack (.ref a) (assignEach ts env)) ρ σ k
  refine T_at ?_
  unfold unpack
  rw [a2]
  refine T_bind (T_holding (T_unpackItems h1 (by rw [hlen, a3]) fun us hus => ?_))
  exact T_puts1 hE hxs hus h
noncomputable def swB (value : Expr) (x : Str) (p : Pos) (line : Nat) (env : Env) : Bool :=
  match swapsWith value (some (.Name x p)) line env with
  | .pure b => b
  | _ => false
theorem swB_ok {value : Expr} {x : Str} {p : Pos} {line : Nat} (h : swB value x p line env = true) : swapsWith value (some (.Name x p)) line env = pure true := by
  unfold swB at h
  split at h
  · rename_i b e; rw [e, h]; rfl
  · cases h
/-- the statements to come, closed to the kernel -/
structure exsI (ex : ExT) (ss : List Stmt) (ρ : Nm) (σ : St) (k : kX) : Prop where
  run : exs ex ss ρ σ k
theorem exsI_eq : exsI = exs := by
  funext ex ss ρ σ k
  exact propext ⟨fun h => h.run, fun h => ⟨h⟩⟩
theorem exs_c {ex : ExT} {s : Stmt} {r : List Stmt} {ρ : Nm} {σ : St} {k : kX} (h : ex s ρ σ (seqC (exsI ex r) k)) : exsI ex (s :: r) ρ σ k := by
  rw [exsI_eq] at h ⊢; exact h
theorem exs_n {ex : ExT} {ρ : Nm} {σ : St} {k : kX} (h : k .next ρ σ) : exsI ex [] ρ σ k := by
  rw [exsI_eq]; exact h
theorem exsI_ok {ex : ExT} (he : ExOk c env ex) {ss : List Stmt} {ρ : Nm} {σ : St} {k : kX} (h : exsI ex ss ρ σ k) : TX c (execs ss env) ρ σ k := by
  rw [exsI_eq] at h; exact exs_ok he h
noncomputable def lcQ (e : Expr) (p : Expr → Comprehension → Scope → Pos → Prop) (q : Prop) : Prop :=
  match e with
  | .ListComp elt gs scope cpos => optK (sole? gs) fun g => yesK (plainG g) (p elt g scope cpos)
  | _ => q
noncomputable def putC (x : Str) (ρ : Nm) (k : kX) : Addr → St → Prop := fun D σ => k .next (put x (.ref D) ρ) σ
noncomputable def b1C (env : Env) (x : Str) (ρ : Nm) (k : kX) : kV := fun v σ => bind1K env x v ρ σ (k .next)
noncomputable def isCellK (env : Env) (x : Str) : Bool :=
  match env.kindOf x with
  | some .cell => true
  | _ => false
theorem isCellK_ok {x : Str} (h : isCellK env x = true) : env.kindOf x = some .cell := by
  unfold isCellK at h
  split at h
  · rename_i e; exact e
  · cases h
noncomputable def asgN (c : Cx) (env : Env) (r : EvF) (ex : ExT) (x : Str) (p : Pos) (value : Expr) (spos : Pos) (ρ : Nm) (σ : St) (k : kX) : Prop :=
  lcQ value (fun elt g scope cpos => locK env x (yesK (swB (.ListComp elt [g] scope cpos) x p spos.line env) (compK c env r elt g.target g.iter g.ifs scope ρ σ (putC x ρ k))))
    (match isCellK env x with
      | true => noK (isComp value) (r.ev value ρ σ (b1C env x ρ k))
      | false => exStep c env r ex (.Assign [.Name x p] value spos) ρ σ k)
noncomputable def t1C (env : Env) (xs : List Str) (ρ : Nm) (k : kX) : kV := fun v σ => refK v fun a => ∃ ob, σ a = some ob ∧ tupK ob fun vs => vs.length = xs.length ∧ puts1 env xs vs ρ σ (k .next)
noncomputable def tup1? (env : Env) (ts : List Expr) (n : Nat) (p : Pos) (value : Expr) : Option (List Str) :=
  match isComp value with
  | true => none
  | false => match noSwap env [.Tuple ts n p] value with
    | some r => match r with
      | none => names1? ts
      | some _ => none
    | none => none
theorem tup1_ok {ts : List Expr} {n : Nat} {p : Pos} {value : Expr} {xs : List Str} (h : tup1? env ts n p value = some xs) : isComp value = false ∧ noSwap env [.Tuple ts n p] value = some none ∧ names1? ts = some xs := by
  unfold tup1? at h
  split at h
  · cases h
  · rename_i e
    split at h
    · rename_i r e2
      cases r with
      | none => exact ⟨e, e2, h⟩
      | some _ => cases h
    · cases h
noncomputable def asgT (c : Cx) (env : Env) (r : EvF) (ex : ExT) (ts : List Expr) (n : Nat) (p : Pos) (value : Expr) (spos : Pos) (ρ : Nm) (σ : St) (k : kX) : Prop :=
  match tup1? env ts n p value with
  | some xs => r.ev value ρ σ (t1C env xs ρ k)
  | none => exStep c env r ex (.Assign [.Tuple ts n p] value spos) ρ σ k
noncomputable def asg2 (c : Cx) (env : Env) (r : EvF) (ex : ExT) (t value : Expr) (spos : Pos) (ρ : Nm) (σ : St) (k : kX) : Prop :=
  match t with
  | .Name x p => asgN c env r ex x p value spos ρ σ k
  | .Tuple ts n p => asgT c env r ex ts n p value spos ρ σ k
  | t => exStep c env r ex (.Assign [t] value spos) ρ σ k
noncomputable def exStep2 (c : Cx) (env : Env) (r : EvF) (ex : ExT) (s : Stmt) (ρ : Nm) (σ : St) (k : kX) : Prop :=
  match s with
  | .Assign ts value spos => optK (sole? ts) fun t => asg2 c env r ex t value spos ρ σ k
  | .If t a b _ => r.tst t ρ σ (ifC (exsI ex) a b ρ k)
  | .For t it b els _ => forK c env r (exsI ex) t it b els ρ σ k
  | s => exStep c env r ex s ρ σ k
theorem lcQ_ok {e : Expr} {p : Expr → Comprehension → Scope → Pos → Prop} {q : Prop} (h : lcQ e p q) : (∃ elt g scope cpos, e = .ListComp elt [⟨g.target, g.iter, g.ifs, 0⟩] scope cpos ∧ g = ⟨g.target, g.iter, g.ifs, 0⟩ ∧ p elt g scope cpos) ∨ q := by
  cases e with
  | ListComp elt gs scope cpos =>
    obtain ⟨g, hg, h⟩ := optK_ok h
    obtain ⟨hp, h⟩ := yesK_ok h
    have e := plainG_ok hp
    exact .inl ⟨elt, g, scope, cpos, by rw [sole_ok hg, ← e], e, h⟩
  | _ => exact .inr h
theorem asgN_ok {r : EvF} {ex : ExT} (he : EvOk c env r.ev) (ht : TstOk c env r.tst) (hx : ExOk c env ex) (hE : EnvOk c env) {x : Str} {p : Pos} {value : Expr} {spos : Pos} {k : kX} (h : asgN c env r ex x p value spos ρ σ k) :
    TX c (exec (.Assign [.Name x p] value spos) env) ρ σ k := by
  rcases lcQ_ok h with ⟨elt, g, scope, cpos, rfl, eg, h⟩ | h
  · obtain ⟨hk, h⟩ := locK_ok h
    obtain ⟨hsw, h⟩ := yesK_ok h
    rw [eg] at hsw
    rw [exec_Assign_Name_used _ _ _ _ (swB_ok hsw)]
    refine T_at ?_
    show TX c ((do let _ ← comprehension (.ListComp elt [⟨g.target, g.iter, g.ifs, 0⟩] scope cpos) scope env _ (newList []) false (eval g.iter env) (some (assign (.Name x p) env))) >>= _) ρ σ k
    refine T_bindU ?_
    refine T_bind (V := VR) ?_
    refine (comp_ok (use := some (assign (.Name x p) env)) (k := fun v ρ' σ' => k .next ρ' σ') he hE (fun D σ2 q => ?_) h).mono fun v ρ' σ' q u hu => ?_
    · show TU c (standAt p >>= fun _ => bindName env x (.ref D)) ρ σ2 _
      exact T_at (T_bindName (T_store_local hE.locals hE.kind hk (v := .ref D) rfl q))
    · exact T_pure (V := fun _ _ => True) (b := ()) trivial (T_next q)
  · split at h
    · rename_i hk
      have hk := isCellK_ok hk
      obtain ⟨hc, h⟩ := noK_ok h
      rw [arm_exec_Assign]
      refine T_at ?_
      have e1 : swapsWithSole [.Name x p] value spos.line env = pure false := (show swapsWithSole [.Name x p] value spos.line env = swapsWith value (some (.Name x p)) spos.line env from rfl).trans (swaps_no hc)
      rw [e1]
      show TX c (eval value env >>= fun v => swappedStores [.Name x p] value env >>= fun sw => assignStores env v sw _) ρ σ k
      refine TE_bind (he _ _ _ _ h) fun v u σ1 q hu => ?_
      show TX c (pure none >>= fun sw => assignStores env u sw [assign (.Name x p) env]) ρ σ1 k
      show TX c ((standAt p >>= fun _ => bindName env x u) >>= fun _ => pure .next) ρ σ1 k
      exact T_bindU (T_at ((bind1_ok hE hu q).mono fun _ ρ' σ' q => T_next q))
    · exact exStep_ok he ht hx hE _ _ _ _ h
theorem asgT_ok {r : EvF} {ex : ExT} (he : EvOk c env r.ev) (ht : TstOk c env r.tst) (hx : ExOk c env ex) (hE : EnvOk c env) {ts : List Expr} {n : Nat} {p : Pos} {value : Expr} {spos : Pos} {k : kX} (h : asgT c env r ex ts n p value spos ρ σ k) :
    TX c (exec (.Assign [.Tuple ts n p] value spos) env) ρ σ k := by
  unfold asgT at h
  split at h
  · rename_i xs hts
    obtain ⟨hc, hsw, hxs⟩ := tup1_ok hts
    rw [arm_exec_Assign]
    refine T_at ?_
    have e1 : swapsWithSole [.Tuple ts n p] value spos.line env = pure false := (show swapsWithSole [.Tuple ts n p] value spos.line env = swapsWith value (some (.Tuple ts n p)) spos.line env from rfl).trans (swaps_no hc)
    rw [e1]
    show TX c (eval value env >>= fun v => swappedStores [.Tuple ts n p] value env >>= fun sw => assignStores env v sw _) ρ σ k
    refine TE_bind (he _ _ _ _ h) fun v u σ1 q hu => ?_
    rw [noSwap_ok hsw]
    obtain ⟨a, rfl, ob, h1, q⟩ := refK_ok q
    obtain ⟨vs, rfl, q⟩ := tupK_ok q
    cases hu
    show TX c (assign (.Tuple ts n p) env (.ref _) >>= fun _ => pure .next) ρ σ1 k
    exact T_bindU ((T_assign_Tuple1 hE hxs h1 q.1 q.2).mono fun _ ρ' σ' q => T_next q)
  · exact exStep_ok he ht hx hE _ _ _ _ h
theorem exStep2_ok {r : EvF} {ex : ExT} (he : EvOk c env r.ev) (ht : TstOk c env r.tst) (hx : ExOk c env ex) (hE : EnvOk c env) : ExOk c env (exStep2 c env r ex) := fun st ρ σ k h => by
  cases st with
  | Assign ts value spos =>
    obtain ⟨t, hs, h⟩ := optK_ok h
    rw [sole_ok hs]
    cases t with
    | Name x p => exact asgN_ok he ht hx hE h
    | Tuple ts n p => exact asgT_ok he ht hx hE h
    | _ => exact exStep_ok he ht hx hE _ _ _ _ h
  | If t a b pos =>
    rw [arm_exec_If]
    refine T_at (TB_bind (ht _ _ _ _ h) fun q σ1 hq => ?_)
    cases q with
    | true => rw [if_pos rfl]; exact exsI_ok hx (hq.1 rfl)
    | false => rw [if_neg Bool.false_ne_true]; exact exsI_ok hx (hq.2 rfl)
  | For t it b els pos => exact forK_ok he (exsI_ok hx) hE h
  | _ => exact exStep_ok he ht hx hE _ _ _ _ h
noncomputable def exH (c : Cx) (env : Env) (r : EvF) : Nat → ExT
  | 0 => fun _ _ _ _ => False
  | n + 1 => exStep2 c env r (exH c env r n)
theorem exH_ok {r : EvF} (he : EvOk c env r.ev) (ht : TstOk c env r.tst) (hE : EnvOk c env) : ∀ n, ExOk c env (exH c env r n)
  | 0 => fun _ _ _ _ h => h.elim
  | n + 1 => exStep2_ok he ht (exH_ok he ht hE n) hE
end

end Mine

end
section
open PySem PySem.W PyProof.Rows PySem.Calls
set_option maxHeartbeats 4000000
set_option linter.unusedVariables false
set_option linter.unusedSimpArgs false
namespace Mine
open MineK
open PySem.Challenge (pw_xm0629_01 rw_xm0629_01)
noncomputable def PCS : List (List UInt8) := [[120], [32], [61], [10], [37, 37], [39, 97, 39], [45, 45, 10], [39, 92, 110, 37, 37, 39], [40], [55, 32], [39, 34, 39], [13], [39, 0, 39], [46, 46, 32]]
noncomputable def LNG : List (List UInt8) := [[91, 91, 97, 10, 93, 93], [45, 45, 91, 91, 37, 37, 10, 93, 93]]
noncomputable def plainOct (c : UInt8) : Prop := c ≠ 39 ∧ c ≠ 92 ∧ c ≠ 10 ∧ c ≠ 13 ∧ c ≠ 37
noncomputable def IsPiece (p : List UInt8) : Prop := p ∈ PCS ∨ (∃ c, plainOct c ∧ p = [39, c, 39]) ∨ p ∈ LNG
noncomputable def IsPart (P : List UInt8) : Prop := ∃ ps : List (List UInt8), (∀ p ∈ ps, IsPiece p) ∧ ps.length ≤ 2 ∧ P = ps.flatten
theorem IsPiece.len {p : List UInt8} (h : IsPiece p) : p.length ≤ 9 := by
  rcases h with h | ⟨c, -, rfl⟩ | h
  · exact (by decide : ∀ p ∈ PCS, p.length ≤ 9) p h
  · simp
  · exact (by decide : ∀ p ∈ LNG, p.length ≤ 9) p h
theorem flat_len {ps : List (List UInt8)} (h : ∀ p ∈ ps, IsPiece p) : ps.flatten.length ≤ 9 * ps.length := by
  induction ps with
  | nil => simp
  | cons p ps ih =>
    have h1 := (h p (.head _)).len
    have h2 := ih fun q hq => h q (.tail _ hq)
    rw [List.flatten_cons, List.length_append, List.length_cons]; omega
/-- the names of a part: what comes behind "found" is told by what it grows to -/
structure PShape (bk : Addr) (f : List UInt8) (r ρ : Nm) : Prop where
  eq : ρ = (("basket", .ref bk) :: ("found", .bytes f) :: r : Nm)
  grow : ∀ a b c, ∃ r2 : Nm, put "pieces" c (put "form" b (put "turn" a r)) = (("turn", a) :: ("form", b) :: ("pieces", c) :: r2 : Nm) ∧ ∀ o, put "octet" o r2 = ([("octet", o)] : Nm)
theorem put_pcs {x y a b c : MV} {r r2 : Nm} (h : put "pieces" c (put "form" b (put "turn" a r)) = (("turn", a) :: ("form", b) :: ("pieces", c) :: r2 : Nm)) :
    put "pieces" c (put "form" b (put "turn" a (("basket", x) :: ("found", y) :: r : Nm))) = (("basket", x) :: ("found", y) :: ("turn", a) :: ("form", b) :: ("pieces", c) :: r2 : Nm) :=
  congrArg (fun z : Nm => (("basket", x) :: ("found", y) :: z : Nm)) h
theorem put_octet {x y a b c o : MV} {r2 : Nm} (h : put "octet" o r2 = ([("octet", o)] : Nm)) :
    put "octet" o (("basket", x) :: ("found", y) :: ("turn", a) :: ("form", b) :: ("pieces", c) :: r2 : Nm) = (("basket", x) :: ("found", y) :: ("turn", a) :: ("form", b) :: ("pieces", c) :: ([("octet", o)] : Nm) : Nm) :=
  congrArg (fun z : Nm => (("basket", x) :: ("found", y) :: ("turn", a) :: ("form", b) :: ("pieces", c) :: z : Nm)) h
theorem shape_pcs {bk : Addr} {f : List UInt8} {a b c : MV} {r2 : Nm} (h : ∀ o, put "octet" o r2 = ([("octet", o)] : Nm)) : ∃ r, PShape bk f r (("basket", .ref bk) :: ("found", .bytes f) :: ("turn", a) :: ("form", b) :: ("pieces", c) :: r2 : Nm) :=
  ⟨_, rfl, fun _ _ _ => ⟨r2, rfl, h⟩⟩
theorem C_part {w : World} {h₀ : Heap} (W : Wld w h₀) {n : Nat} {bk l : Addr} {ns : List Int} {p : Int} {σ : St} {k : kV} (H : Bask σ bk l ns p) (hp : p ≤ 900)
    (hk : ∀ P p' σ', IsPart P → p' ≤ p + 5 → Bask σ' bk l ns p' → Kbk bk σ σ' → k (.bytes P) σ') : CALL w h₀ (n + 2) (.ref 686) [.ref bk] σ k := by
  refine CALL_defT W (xs := ["basket"]) (d := (fst pw_xm0629_01 93 none)) (name := "_law_part") (qual := "_law_part") (dV := (.none)) (pm := (.str "law_xm0629_01" 1184)) (cd := (.ref 685)) (by kernel_rfl) (by kernel_rfl) (by kernel_rfl) rfl (fun us hus => ?_) fun L hE => ?_
  · obtain ⟨u0, rfl⟩ := len1 hus
    kernel_rfl
  refine exsI_ok (exH_ok (evH_ok hE 40).1 (evH_ok hE 40).2 hE 40) ?_
  refine exs_c ?_
  (conv => whnf)
  refine exs_c ?_
  (conv => whnf)
  refine C_taken W H (by omega) (by decide) fun r σ1 hr0 hr1 H1 k1 => ?_
  (conv => whnf)
  refine ⟨hr0, fun ra ro hra hro => ?_⟩
  (conv => whnf)
  obtain ⟨m, rfl⟩ := Int.eq_ofNat_of_zero_le hr0
  refine ⟨_, _, iter_range (n := m) (by omega), ?_⟩
  refine for_inv (fun vs ρ σ' => ∃ (ps : List (List UInt8)) (p' : Int), (∀ q ∈ ps, IsPiece q) ∧ ps.length + vs.length ≤ 2 ∧ p' + 2 * vs.length ≤ p + 5 ∧ Bask σ' bk l ns p' ∧ Kbk bk σ σ' ∧ (∃ r, PShape bk ps.flatten r ρ) ∧ ra ≠ bk ∧ σ' ra = some (.raw ro)) ?_ ?_ ?_ ⟨[], p + 1, fun _ h => (nomatch h), by simp; omega, by simp; omega, H1.grow (Grow.upd hra), k1.trans (Kbk.grow (Grow.upd hra)), ⟨[], rfl, fun _ _ _ => ⟨[], rfl, fun _ => rfl⟩⟩, fun e => by (rw [e, H1.hbk] at hra; cases hra), St.upd_same ..⟩
  · rintro vs ρ σ' ⟨ps, p', h1, h2, h3, h4, h5, h6, h7, h8⟩
    exact ⟨ro, h8, hro⟩
  · rintro v vs ρ σ' K ⟨ps, p', h1, h2, h3, h4, h5, h6, h7, h8⟩ hK - - -
    have hfl := flat_len h1
    rw [List.length_cons] at h2 h3
    have hK2 : ∀ ρ2 σ2 (q : List UInt8) (p2 : Int), IsPiece q → p2 + 2 * vs.length ≤ p + 5 → Bask σ2 bk l ns p2 → Kbk bk σ' σ2 → (∃ r, PShape bk (ps.flatten ++ q) r ρ2) → K .next ρ2 σ2 := by
      intro ρ2 σ2 q p2 a1 a2 a3 a4 a5
      refine hK _ _ ⟨ps ++ [q], p2, ?_, by simp; omega, a2, a3, h5.trans a4, by simpa using a5, h7, a4 _ _ h8 h7⟩
      intro z hz
      rcases List.mem_append.mp hz with hz | hz
      · exact h1 z hz
      · simp at hz; subst hz; exact a1
    clear hK
    obtain ⟨rest, rfl, hg⟩ := h6
    · refine exs_c ?_
      (conv => whnf)
      refine C_taken W h4 (by omega) (by decide) fun form σ2 hf0 hf1 H2 k2 => ?_
      (conv => whnf)
      refine exs_c ?_
      (conv => whnf)
      refine ⟨by show 14 ≤ 1000; decide, fun pc hpc => ?_⟩
      (conv => whnf)
      obtain ⟨r2, hr2, ho2⟩ := hg v (.int form) (.ref pc)
      rw [put_pcs hr2]
      clear hr2 hg
      have H3 := H2.grow (Grow.upd (o := .list (PCS.map .bytes)) hpc)
      refine exs_c ?_
      (conv => whnf)
      by_cases hform : form < 14
      · first | refine goT1 (by simpa using hform) ?_ | refine goT2 (by simpa using hform) ?_
        (conv => whnf)
        refine exs_c ?_
        (conv => whnf)
        refine ⟨by omega, ?_⟩
        (conv => whnf)
        obtain ⟨q, hq⟩ : ∃ q, PCS[form.toNat]? = some q := ⟨_, List.getElem?_eq_getElem (by show form.toNat < 14; omega)⟩
        have hqm : IsPiece q := .inl (List.mem_of_getElem? hq)
        have hql := hqm.len
        refine ⟨PCS.map .bytes, .bytes q, by rw [St.upd_same]; rfl, by rw [List.getElem?_map, hq]; rfl, ?_⟩
        (conv => whnf)
        refine ⟨by omega, ?_⟩
        (conv => whnf)
        refine exs_n ?_
        (conv => whnf)
        refine exs_n ?_
        refine hK2 _ _ q (p' + 1) hqm (by omega) H3 (k2.trans (Kbk.grow (Grow.upd hpc))) ?_
        exact shape_pcs ho2
      · first | refine goF1 (by simpa using hform) ?_ | refine goF2 (by simpa using hform) ?_
        (conv => whnf)
        refine exs_c ?_
        (conv => whnf)
        by_cases h16 : form = 16
        · first | refine goT1 (by simpa using h16) ?_ | refine goT2 (by simpa using h16) ?_
          (conv => whnf)
          refine exs_c ?_
          (conv => whnf)
          refine C_taken W H3 (by omega) (by decide) fun oc σ4 ho0 ho1 H4 k4 => ?_
          (conv => whnf)
          rw [put_octet (ho2 _)]
          refine exs_c ?_
          (conv => whnf)
          refine ⟨by show ps.flatten.length + 1 ≤ _; omega, ?_⟩
          (conv => whnf)
          refine ⟨⟨ho0, ho1⟩, ?_⟩
          (conv => whnf)
          cases hq : ([39, 92, 10, 13, 37] : List UInt8).any fun c => (c.toNat : Int) == oc with
          | true =>
            first | refine goT1 (rfl) ?_ | refine goT2 (rfl) ?_
            (conv => whnf)
            refine ⟨by show 1 ≤ 1000; decide, fun a5 ha5 => ?_⟩
            (conv => whnf)
            refine ⟨_, by rw [St.upd_same], ?_⟩
            (conv => whnf)
            refine ⟨[97], ⟨rfl, by decide, by decide⟩, ?_⟩
            (conv => whnf)
            refine ⟨by simp [bytesOf, -List.length_flatten]; omega, ?_⟩
            (conv => whnf)
            refine ⟨by simp [bytesOf, -List.length_flatten]; omega, ?_⟩
            (conv => whnf)
            refine exs_n ?_
            (conv => whnf)
            refine exs_n ?_
            (conv => whnf)
            refine exs_n ?_
            refine hK2 _ _ [39, 97, 39] (p' + 1 + 1) (.inr (.inl ⟨97, by unfold plainOct; decide, rfl⟩)) (by omega) (H4.grow (Grow.upd ha5)) (((k2.trans (Kbk.grow (Grow.upd hpc))).trans k4).trans (Kbk.grow (Grow.upd ha5))) ?_
            have e : ps.flatten ++ [39] ++ bytesOf [97] ++ [39] = ps.flatten ++ [39, 97, 39] := by simp [bytesOf]
            rw [← e]
            exact shape_pcs fun _ => rfl
          | false =>
            first | refine goF1 (rfl) ?_ | refine goF2 (rfl) ?_
            (conv => whnf)
            refine ⟨by show 1 ≤ 1000; decide, fun a5 ha5 => ?_⟩
            (conv => whnf)
            refine ⟨_, by rw [St.upd_same], ?_⟩
            (conv => whnf)
            refine ⟨[oc], ⟨rfl, by simp; omega, by simp⟩, ?_⟩
            (conv => whnf)
            refine ⟨by simp [bytesOf, -List.length_flatten]; omega, ?_⟩
            (conv => whnf)
            refine ⟨by simp [bytesOf, -List.length_flatten]; omega, ?_⟩
            (conv => whnf)
            refine exs_n ?_
            (conv => whnf)
            refine exs_n ?_
            (conv => whnf)
            refine exs_n ?_
            have hpl : plainOct oc.toNat.toUInt8 := by
              unfold plainOct
              have eo : (oc.toNat.toUInt8).toNat = oc.toNat := by simp; omega
              simp only [List.any_cons, List.any_nil, Bool.or_false, Bool.or_eq_false_iff, beq_eq_false_iff_ne] at hq
              obtain ⟨q1, q2, q3, q4, q5⟩ := hq
              refine ⟨fun e => q1 ?_, fun e => q2 ?_, fun e => q3 ?_, fun e => q4 ?_, fun e => q5 ?_⟩ <;> rw [← e, eo] <;> omega
            refine hK2 _ _ [39, oc.toNat.toUInt8, 39] (p' + 1 + 1) (.inr (.inl ⟨_, hpl, rfl⟩)) (by omega) (H4.grow (Grow.upd ha5)) (((k2.trans (Kbk.grow (Grow.upd hpc))).trans k4).trans (Kbk.grow (Grow.upd ha5))) ?_
            have e : ps.flatten ++ [39] ++ bytesOf [oc] ++ [39] = ps.flatten ++ [39, oc.toNat.toUInt8, 39] := by simp [bytesOf]
            rw [← e]
            exact shape_pcs fun _ => rfl
        · first | refine goF1 (by simpa using h16) ?_ | refine goF2 (by simpa using h16) ?_
          (conv => whnf)
          refine exs_c ?_
          (conv => whnf)
          refine ⟨by show 2 ≤ 1000; decide, fun a5 ha5 => ?_⟩
          (conv => whnf)
          refine ⟨by omega, ?_⟩
          (conv => whnf)
          obtain ⟨q, hq⟩ : ∃ q, LNG[(form - 14).toNat]? = some q := ⟨_, List.getElem?_eq_getElem (by show (form - 14).toNat < 2; omega)⟩
          have hqm : IsPiece q := .inr (.inr (List.mem_of_getElem? hq))
          have hql := hqm.len
          refine ⟨LNG.map .bytes, .bytes q, by rw [St.upd_same]; rfl, by rw [List.getElem?_map, hq]; rfl, ?_⟩
          (conv => whnf)
          refine ⟨by omega, ?_⟩
          (conv => whnf)
          refine exs_n ?_
          (conv => whnf)
          refine exs_n ?_
          (conv => whnf)
          refine exs_n ?_
          refine hK2 _ _ q (p' + 1) hqm (by omega) (H3.grow (Grow.upd ha5)) ((k2.trans (Kbk.grow (Grow.upd hpc))).trans (Kbk.grow (Grow.upd ha5))) ?_
          exact shape_pcs ho2
  · rintro ρ σ' ⟨ps, p', h1, h2, h3, h4, h5, h6, h7, h8⟩
    obtain ⟨rest, rfl, hg⟩ := h6
    · (conv => whnf)
      refine exs_c ?_
      (conv => whnf)
      exact hk _ p' σ' ⟨ps, h1, by simpa using h2, rfl⟩ (by simpa using h3) h4 h5

end Mine

end
section
open PySem PySem.W PyProof.Rows PySem.Calls
set_option maxHeartbeats 4000000
set_option linter.unusedVariables false
set_option linter.unusedSimpArgs false
namespace Mine
open MineK
open PySem.Challenge (pw_xm0629_01 rw_xm0629_01)
theorem compL_inv {side : St → Prop} {bind : MV → Nm → St → (Nm → St → Prop) → Prop} {tst : Nm → St → (Bool → Nm → St → Prop) → Prop} {el : Nm → St → (MV → Nm → St → Prop) → Prop} {D : Addr} {k : St → Prop} (R : List MV → Nm → St → Prop)
    (hside : ∀ vs ρ σ, R vs ρ σ → side σ)
    (hturn : ∀ v vs ρ σ (N : MV → Nm → St → Prop) (P : Nm → St → Prop), R (v :: vs) ρ σ → (∀ y ρ' σ' ys, σ' D = some (.list ys) → ys.length ≤ 1000000 → R vs ρ' (σ'.upd D (.list (ys ++ [y]))) → N y ρ' σ') → (∀ ρ' σ', R vs ρ' σ' → P ρ' σ') →
      bind v ρ σ fun ρ σ => tst ρ σ fun b ρ σ => (b = true → el ρ σ N) ∧ (b = false → P ρ σ))
    (hend : ∀ ρ σ, R [] ρ σ → k σ) : ∀ {items : List MV} {ρ : Nm} {σ : St}, R items ρ σ → compL side bind tst el D items ρ σ k
  | [], ρ, σ, h => ⟨hside _ _ _ h, hend _ _ h⟩
  | v :: vs, ρ, σ, h => ⟨hside _ _ _ h, hturn v vs ρ σ _ _ h (fun y ρ' σ' ys h1 h2 q => ⟨ys, h1, h2, compL_inv R hside hturn hend q⟩) (fun ρ' σ' q => compL_inv R hside hturn hend q)⟩
/-- no object but a bytearray stood here -/
noncomputable def Fre (σ : St) (f : Addr) : Prop := ∀ o, σ f = some o → ∃ b, o = .barr b
theorem KB.fre {σ σ1 : St} {f : Addr} (h : KB σ σ1) (hf : σ1 f = none) : Fre σ f := fun o e => by
  cases o with
  | barr b => exact ⟨b, rfl⟩
  | _ => (have := h f _ e (fun _ q => by cases q); rw [hf] at this; cases this)
theorem KB.updF {a b : St} {f : Addr} {o : MObj} (h : KB a b) (hf : Fre a f) : KB a (b.upd f o) := fun x p e m => by
  rw [St.upd_ne fun z => by rw [z] at e; obtain ⟨b, rfl⟩ := hf _ e; exact m b rfl]; exact h x p e m
noncomputable def fmt1 (p : Int × MV) : Option (List UInt8) := match p.2 with
  | .bytes b => if p.1 = 286 ∧ subB [37, 113] b = true then some b else none
  | _ => none
noncomputable def fmts (ts : List (Int × MV)) : List (List UInt8) := ts.filterMap fmt1
noncomputable def StrOk (ts : List (Int × MV)) : Prop := ∀ p ∈ ts, p.1 = 286 → ∃ b, p.2 = .bytes b
theorem C_formats {w : World} {h₀ : Heap} (W : Wld w h₀) {n : Nat} {t : List UInt8} {ts : List (Int × MV)} {lim dl : Addr} {σ : St} {k : kV} (ht : t.length ≤ 100000) (htz : ts.length ≤ 100000) (h1 : σ lim = some (.inst 53 dl)) (h2 : σ dl = some (.ns limNs)) (hL : LexR t ts) (hS : StrOk ts)
    (hk : ∀ f σ', KB σ σ' → Fre σ f → σ' f = some (.list ((fmts ts).map .bytes)) → k (.ref f) σ') : CALL w h₀ (n + 11) (.ref 691) [.bytes t, .ref lim] σ k := by
  refine CALL_defT W (xs := ["text", "limits"]) (d := (fst pw_xm0629_01 94 none)) (name := "_law_formats_in") (qual := "_law_formats_in") (dV := (.none)) (pm := (.str "law_xm0629_01" 1184)) (cd := (.ref 690)) (by kernel_rfl) (by kernel_rfl) (by kernel_rfl) rfl (fun us hus => ?_) fun L hE => ?_
  · obtain ⟨u0, u1, rfl⟩ := len2 hus
    kernel_rfl
  refine exsI_ok (exH_ok (evH_ok hE 40).1 (evH_ok hE 40).2 hE 40) ?_
  refine exs_c ?_
  (conv => whnf)
  refine C_all_tokens W ht htz h1 h2 hL fun f xs σ1 kb1 _ hf tk => ?_
  (conv => whnf)
  refine ⟨xs, fun σ => σ f = some (.list xs), iterG_list (.inr ⟨_, _, _, rfl⟩), hf, fun C D hC hD hne => ?_⟩
  have hfD : f ≠ D := fun e => by rw [e, hD] at hf; cases hf
  refine compL_inv (fun vs ρ σ' => ∃ ts1 ts2, ts = ts1 ++ ts2 ∧ ToksAt σ' vs ts2 ∧ σ' f = some (.list xs) ∧ σ' D = some (.list ((fmts ts1).map .bytes)) ∧ KB σ σ' ∧ (∀ a b, puts ["kind", "value"] [a, b] ρ = ([("kind", a), ("value", b)] : Nm))) ?_ ?_ ?_ ⟨[], ts, rfl, ?_, by rw [St.upd_ne hfD]; exact hf, by rw [St.upd_same]; rfl, ?_, fun a b => rfl⟩
  · rintro vs ρ σ' ⟨_, _, _, _, q, _⟩
    exact q
  · rintro v vs ρ σ' N P ⟨ts1, ts2, e1, e2, e3, e4, e5, e6⟩ hN hP
    cases e2 with
    | cons ha e2 =>
    rename_i a kd v ts2
    have hmem : (kd, v) ∈ ts := by rw [e1]; simp
    have hlen := congrArg List.length e1
    rw [List.length_append, List.length_cons] at hlen
    have hfl : (fmts ts1).length ≤ ts1.length := List.length_filterMap_le _ _
    (conv => whnf)
    refine ⟨_, ha, ?_⟩
    (conv => whnf)
    refine ⟨rfl, ?_⟩
    (conv => whnf)
    rw [e6]
    have no : fmt1 (kd, v) = none → P ([("kind", .int kd), ("value", v)] : Nm) σ' := fun q => hP _ _ ⟨ts1 ++ [(kd, v)], ts2, by rw [e1]; simp, e2, e3, by rw [e4]; simp [fmts, q], e5, fun a b => rfl⟩
    (conv => whnf)
    by_cases hkd : kd = 286
    · obtain ⟨b, hb⟩ := hS _ hmem hkd
      have hb : v = .bytes b := hb
      subst hb
      first | refine goT1 (by simpa using hkd) ?_ | refine goT2 (by simpa using hkd) ?_
      (conv => whnf)
      have keep : ∀ (y : List (List UInt8)), ToksAt (σ'.upd D (.list (y.map .bytes))) vs ts2 := fun y => e2.keep fun b ms q => by
        rw [St.upd_ne fun z => by rw [z, e4] at q; cases q]; exact q
      cases hsub : subB [37, 113] b with
      | true =>
        first | refine goT1 (rfl) ?_ | refine goT2 (rfl) ?_
        (conv => whnf)
        first | refine goT1 (rfl) ?_ | refine goT2 (rfl) ?_
        (conv => whnf)
        refine hN _ _ _ _ e4 (by simp; omega) ⟨ts1 ++ [(kd, .bytes b)], ts2, by rw [e1]; simp, ?_, by rw [St.upd_ne hfD]; exact e3, ?_, e5.updF (kb1.fre hD), fun a b => rfl⟩
        · have := keep (fmts ts1 ++ [b])
          simpa using this
        · rw [St.upd_same]
          simp [fmts, fmt1, hkd, hsub]
      | false =>
        first | refine goF1 (rfl) ?_ | refine goF2 (rfl) ?_
        (conv => whnf)
        first | refine goF1 (rfl) ?_ | refine goF2 (rfl) ?_
        (conv => whnf)
        exact no (by simp [fmt1, hkd, hsub])
    · first | refine goF1 (by simpa using hkd) ?_ | refine goF2 (by simpa using hkd) ?_
      (conv => whnf)
      first | refine goF1 (rfl) ?_ | refine goF2 (rfl) ?_
      (conv => whnf)
      refine no ?_
      unfold fmt1
      split
      · rw [if_neg (fun q => hkd q.1)]
      · rfl
  · rintro ρ σ' ⟨ts1, ts2, e1, e2, e3, e4, e5, e6⟩
    cases e2
    rw [List.append_nil] at e1
    subst e1
    exact hk D σ' e5 (kb1.fre hD) e4
  · refine tk.keep fun b ms q => ?_
    rw [St.upd_ne fun z => by rw [z, hD] at q; cases q]; exact q
  · exact (kb1.updF (kb1.fre hD))

end Mine

end
section
open PySem PySem.W PyProof.Rows PySem.Calls
set_option maxHeartbeats 4000000
set_option linter.unusedVariables false
set_option linter.unusedSimpArgs false
namespace Mine
open MineK
open PySem.Challenge (pw_xm0629_01 rw_xm0629_01)
/-! ## The plain law -/
theorem subB_mid (A B : List UInt8) : MineK.subB [37, 113] (A ++ [37, 113] ++ B) = true := by
  unfold MineK.subB Builtin.Bytes.find?
  rw [List.find?_isSome]
  refine ⟨A.length, ?_, ?_⟩
  · simp
  · first | (simp; done) | (simp; rw [← Array.toList_inj]; simp [List.extract_eq_drop_take])
theorem subB_one (c : UInt8) : MineK.subB [37, 113] [c] = false := by
  unfold MineK.subB Builtin.Bytes.find?
  simp
theorem hd_q (v r : List UInt8) : hd (v.flatMap qByte ++ 34 :: r) ≠ 13 := by
  cases v with
  | nil => simp [hd]
  | cons c v =>
    rw [List.flatMap_cons, List.append_assoc]
    unfold qByte
    split
    · simp [hd]
    · split
      · simp [hd]
      · split
        · simp [hd]
        · rename_i h1 h2 h3
          show ((c.toNat : Int)) ≠ 13
          intro e
          apply h2
          rw [← UInt8.toNat_inj]
          have : c.toNat = 13 := by omega
          exact this
theorem qB_SB (v r : List UInt8) : SB 34 (v.flatMap qByte ++ 34 :: r) v r := by
  induction v with
  | nil => exact .nil
  | cons c v ih =>
    rw [List.flatMap_cons, List.append_assoc]
    have hq := hd_q v r
    unfold qByte
    split
    · rename_i h
      rcases h with rfl | rfl | rfl
      · exact .esc (.self (.inl rfl)) ih
      · exact .esc (.self (.inr rfl)) ih
      · exact .esc (.nl hq) ih
    · rename_i h1
      split
      · rename_i h2; subst h2
        exact .esc .r ih
      · rename_i h2
        split
        · rename_i h3; subst h3
          exact .esc .zero ih
        · refine .plain (fun e => h1 (.inl e)) (fun e => h1 (.inr (.inl e))) ?_ ih
          unfold isNL
          simp [← UInt8.toNat_inj] at h1 h2 ⊢
          omega
theorem quote_lex {v r : List UInt8} {us : List (Int × MV)} (h : LexR r us) : LexR (quoteV v ++ r) ((286, .bytes v) :: us) := by
  have e : quoteV v ++ r = 34 :: (v.flatMap qByte ++ 34 :: r) := by unfold quoteV; simp
  rw [e]
  exact .tok .refl (.str (.inl rfl) (qB_SB v r)) h
theorem toks_eq {σ : St} {xs ys : List MV} {ts : List (Int × MV)} (h1 : ToksAt σ xs ts) (h2 : ToksAt σ ys ts) (ha : ∀ p ∈ ts, isAtom p.2 = true) : EqMs σ xs ys := by
  induction h1 generalizing ys with
  | nil =>
    cases h2
    exact ⟨rfl, fun i x y hx hy => by simp at hx⟩
  | cons h1 _ ih =>
    cases h2 with
    | cons h2 q2 =>
    obtain ⟨e1, e2⟩ := ih q2 fun p hp => ha p (.tail _ hp)
    refine ⟨by simp [e1], fun i x y hx hy => ?_⟩
    cases i with
    | zero =>
      simp at hx hy
      subst hx hy
      refine .inr ⟨_, _, _, rfl, rfl, h1, h2, fun m hm => ?_⟩
      rcases List.mem_cons.mp hm with rfl | hm
      · rfl
      · rcases List.mem_cons.mp hm with rfl | hm
        · exact ha _ (.head _)
        · cases hm
    | succ i => exact e2 i x y (by simpa using hx) (by simpa using hy)
theorem bytes_eq {σ : St} (vs : List (List UInt8)) : EqMs σ (vs.map .bytes) (vs.map .bytes) := by
  refine ⟨rfl, fun i x y hx hy => ?_⟩
  rw [hx] at hy
  cases hy
  rw [List.getElem?_map] at hx
  obtain ⟨b, _, rfl⟩ := Option.map_eq_some_iff.mp hx
  exact .inl ⟨rfl, rfl⟩

end Mine

end
section
open PySem PySem.W PyProof.Rows PySem.Calls
set_option maxHeartbeats 4000000
set_option linter.unusedVariables false
set_option linter.unusedSimpArgs false
namespace Mine
open MineK
open PySem.Challenge (pw_xm0629_01 rw_xm0629_01)
noncomputable abbrev lawD := fst pw_xm0629_01 95 none
noncomputable def lawEnv (L a c1 c2 c3 c4 : Addr) (pm cd : Value) : Env := { envOf lawD "law" "law" .none pm cd L a with cells := [("other", c4), ("one", c3), ("found", c2), ("limits", c1)] }
theorem lawEnv_ok {w : World} {h₀ : Heap} {W : Wld w h₀} {n : Nat} {L a c1 c2 c3 c4 : Addr} {pm cd : Value} : EnvOk ⟨w, h₀, W, n, L⟩ (lawEnv L a c1 c2 c3 c4 pm cd) := ⟨rfl, rfl, rfl, by kernel_rfl⟩
structure LA (bk l lim dl c1 c2 c3 c4 : Addr) (ns : List Int) (p : Int) (v1 v2 v3 v4 : Option MV) (σ : St) : Prop where
  hb : Bask σ bk l ns p
  h1 : σ c1 = some (.cell v1)
  h2 : σ c2 = some (.cell v2)
  h3 : σ c3 = some (.cell v3)
  h4 : σ c4 = some (.cell v4)
  hl : σ lim = some (.inst 53 dl)
  hd : σ dl = some (.ns limNs)
  n12 : c1 ≠ c2
  n13 : c1 ≠ c3
  n14 : c1 ≠ c4
  n23 : c2 ≠ c3
  n24 : c2 ≠ c4
  n34 : c3 ≠ c4
section
variable {bk l lim dl c1 c2 c3 c4 : Addr} {ns : List Int} {p : Int} {v1 v2 v3 v4 : Option MV} {σ σ' : St}
theorem LA.keep (H : LA bk l lim dl c1 c2 c3 c4 ns p v1 v2 v3 v4 σ) (hB : Bask σ' bk l ns p) (k : ∀ a o, σ a = some o → (∀ b, o ≠ .barr b) → a ≠ bk → σ' a = some o) : LA bk l lim dl c1 c2 c3 c4 ns p v1 v2 v3 v4 σ' := by
  have ne : ∀ {c : Addr} {v : Option MV}, σ c = some (.cell v) → c ≠ bk := fun h e => by rw [e, H.hb.hbk] at h; cases h
  exact ⟨hB, k _ _ H.h1 (fun _ e => by cases e) (ne H.h1), k _ _ H.h2 (fun _ e => by cases e) (ne H.h2), k _ _ H.h3 (fun _ e => by cases e) (ne H.h3), k _ _ H.h4 (fun _ e => by cases e) (ne H.h4),
    k _ _ H.hl (fun _ e => by cases e) (fun e => by have := H.hl; rw [e, H.hb.hbk] at this; cases this), k _ _ H.hd (fun _ e => by cases e) (fun e => by have := H.hd; rw [e, H.hb.hbk] at this; cases this),
    H.n12, H.n13, H.n14, H.n23, H.n24, H.n34⟩
theorem Bask.kb (h : Bask σ bk l ns p) (k : KB σ σ') : Bask σ' bk l ns p := ⟨k _ _ h.hbk (fun _ e => by cases e), k _ _ h.hl (fun _ e => by cases e), h.hne, h.p0, h.nz⟩
theorem LA.kb (H : LA bk l lim dl c1 c2 c3 c4 ns p v1 v2 v3 v4 σ) (k : KB σ σ') : LA bk l lim dl c1 c2 c3 c4 ns p v1 v2 v3 v4 σ' := H.keep (H.hb.kb k) fun a o e m _ => k a o e m
theorem LA.grow (H : LA bk l lim dl c1 c2 c3 c4 ns p v1 v2 v3 v4 σ) (k : Grow σ σ') : LA bk l lim dl c1 c2 c3 c4 ns p v1 v2 v3 v4 σ' := H.kb (KB.grow k)
theorem LA.kbk {p' : Int} (H : LA bk l lim dl c1 c2 c3 c4 ns p v1 v2 v3 v4 σ) (hB : Bask σ' bk l ns p') (k : Kbk bk σ σ') : LA bk l lim dl c1 c2 c3 c4 ns p' v1 v2 v3 v4 σ' := by
  have H' : LA bk l lim dl c1 c2 c3 c4 ns p v1 v2 v3 v4 (σ'.upd bk (.list [.ref l, .int p])) := H.keep ⟨St.upd_same .., by rw [St.upd_ne H.hb.hne]; exact hB.hl, H.hb.hne, H.hb.p0, H.hb.nz⟩ fun a o e _ n => by rw [St.upd_ne n]; exact k a o e n
  have ne : ∀ {c : Addr} {o : MObj}, (σ'.upd bk (.list [.ref l, .int p])) c = some o → (∀ xs, o ≠ .list xs) → σ' c = some o := fun {c o} h m => by
    rwa [St.upd_ne fun e => by rw [e, St.upd_same] at h; cases h; exact m _ rfl] at h
  exact ⟨hB, ne H'.h1 (fun _ e => by cases e), ne H'.h2 (fun _ e => by cases e), ne H'.h3 (fun _ e => by cases e), ne H'.h4 (fun _ e => by cases e), ne H'.hl (fun _ e => by cases e), ne H'.hd (fun _ e => by cases e), H.n12, H.n13, H.n14, H.n23, H.n24, H.n34⟩
end
section
variable {bk l lim dl c1 c2 c3 c4 : Addr} {ns : List Int} {p : Int} {v1 v2 v3 v4 : Option MV} {σ : St} {v : MV}
theorem up_cell {c : Addr} {o : Option MV} {w : MObj} (h : σ c = some (.cell o)) : ∀ a q, σ a = some q → a ≠ c → (σ.upd c w) a = some q := fun a q e n => by rw [St.upd_ne n]; exact e
theorem ne_cell {c a : Addr} {o : Option MV} {q : MObj} (h : σ c = some (.cell o)) (e : σ a = some q) (m : ∀ v, q ≠ .cell v) : a ≠ c := fun z => by rw [z, h] at e; cases e; exact m _ rfl
theorem LA.set2 (H : LA bk l lim dl c1 c2 c3 c4 ns p v1 v2 v3 v4 σ) : LA bk l lim dl c1 c2 c3 c4 ns p v1 (some v) v3 v4 (σ.upd c2 (.cell (some v))) := by
  have ne : ∀ {a : Addr} {q : MObj}, σ a = some q → (∀ v, q ≠ .cell v) → (σ.upd c2 (.cell (some v))) a = some q := fun e m => up_cell H.h2 _ _ e (ne_cell H.h2 e m)
  exact ⟨⟨ne H.hb.hbk (fun _ e => by cases e), ne H.hb.hl (fun _ e => by cases e), H.hb.hne, H.hb.p0, H.hb.nz⟩, up_cell H.h2 _ _ H.h1 H.n12, St.upd_same .., up_cell H.h2 _ _ H.h3 (Ne.symm H.n23), up_cell H.h2 _ _ H.h4 (Ne.symm H.n24),
    ne H.hl (fun _ e => by cases e), ne H.hd (fun _ e => by cases e), H.n12, H.n13, H.n14, H.n23, H.n24, H.n34⟩
theorem LA.set3 (H : LA bk l lim dl c1 c2 c3 c4 ns p v1 v2 v3 v4 σ) : LA bk l lim dl c1 c2 c3 c4 ns p v1 v2 (some v) v4 (σ.upd c3 (.cell (some v))) := by
  have ne : ∀ {a : Addr} {q : MObj}, σ a = some q → (∀ v, q ≠ .cell v) → (σ.upd c3 (.cell (some v))) a = some q := fun e m => up_cell H.h3 _ _ e (ne_cell H.h3 e m)
  exact ⟨⟨ne H.hb.hbk (fun _ e => by cases e), ne H.hb.hl (fun _ e => by cases e), H.hb.hne, H.hb.p0, H.hb.nz⟩, up_cell H.h3 _ _ H.h1 H.n13, up_cell H.h3 _ _ H.h2 H.n23, St.upd_same .., up_cell H.h3 _ _ H.h4 (Ne.symm H.n34),
    ne H.hl (fun _ e => by cases e), ne H.hd (fun _ e => by cases e), H.n12, H.n13, H.n14, H.n23, H.n24, H.n34⟩
theorem LA.set4 (H : LA bk l lim dl c1 c2 c3 c4 ns p v1 v2 v3 v4 σ) : LA bk l lim dl c1 c2 c3 c4 ns p v1 v2 v3 (some v) (σ.upd c4 (.cell (some v))) := by
  have ne : ∀ {a : Addr} {q : MObj}, σ a = some q → (∀ v, q ≠ .cell v) → (σ.upd c4 (.cell (some v))) a = some q := fun e m => up_cell H.h4 _ _ e (ne_cell H.h4 e m)
  exact ⟨⟨ne H.hb.hbk (fun _ e => by cases e), ne H.hb.hl (fun _ e => by cases e), H.hb.hne, H.hb.p0, H.hb.nz⟩, up_cell H.h4 _ _ H.h1 H.n14, up_cell H.h4 _ _ H.h2 H.n24, up_cell H.h4 _ _ H.h3 H.n34, St.upd_same ..,
    ne H.hl (fun _ e => by cases e), ne H.hd (fun _ e => by cases e), H.n12, H.n13, H.n14, H.n23, H.n24, H.n34⟩
end
/-! what the plain law owes -/
structure PartOk (P F : List UInt8) (ts : List (Int × MV)) : Prop where
  fm : ∀ vs i r o, Fm vs i r o → Fm vs i (P ++ r) (F ++ o)
  lex : ∀ r us, (r = [] ∨ ∃ r', r = 34 :: r') → LexR r us → LexR (F ++ r) (ts ++ us)
  str : StrOk ts
  no : fmts ts = []
  atom : ∀ p ∈ ts, isAtom p.2 = true
  len : ts.length ≤ 100
  flen : F.length ≤ 100
  plen : P.length ≤ 100
theorem ToksAt.app {σ : St} {ys : List MV} {us : List (Int × MV)} (k : ToksAt σ ys us) {xs : List MV} {ts : List (Int × MV)} (h : ToksAt σ xs ts) : ToksAt σ (xs ++ ys) (ts ++ us) := by
  induction h with
  | nil => exact k
  | cons e _ ih => exact .cons e ih
theorem len_quote (v : List UInt8) : (quoteV v).length ≤ 4 * v.length + 2 := by
  have := len_flat v
  unfold quoteV
  simp only [List.length_cons, List.length_append, List.length_nil]
  omega
theorem plan_fm {A FA B FB v : List UInt8} {tsA tsB : List (Int × MV)} {vs : List (List UInt8)} {i : Nat} (PA : PartOk A FA tsA) (PB : PartOk B FB tsB) (hv : vs[i]? = some v) : Fm vs i (A ++ [37, 113] ++ B) (FA ++ (quoteV v ++ FB)) := by
  have h := PA.fm vs i (37 :: 113 :: B) (quoteV v ++ FB) (.q hv (by have := PB.fm vs (i + 1) [] [] (.nil _); simpa using this))
  have e : A ++ [37, 113] ++ B = A ++ 37 :: 113 :: B := by simp
  rw [e]; exact h
theorem plan_lex {A FA B FB v : List UInt8} {tsA tsB : List (Int × MV)} (PA : PartOk A FA tsA) (PB : PartOk B FB tsB) : LexR (FA ++ (quoteV v ++ FB)) (tsA ++ ((286, .bytes v) :: tsB)) := by
  refine PA.lex _ _ (.inr ⟨v.flatMap qByte ++ [34] ++ FB, rfl⟩) (quote_lex ?_)
  have := PB.lex [] [] (.inl rfl) (.done .refl)
  simpa using this
theorem plan2_fm {A FA B FB C FC v u : List UInt8} {tsA tsB tsC : List (Int × MV)} (PA : PartOk A FA tsA) (PB : PartOk B FB tsB) (PC : PartOk C FC tsC) : Fm [v, u] 0 (A ++ [37, 113] ++ B ++ [37, 113] ++ C) (FA ++ (quoteV v ++ (FB ++ (quoteV u ++ FC)))) := by
  have h1 := plan_fm (vs := [v, u]) (i := 1) (v := u) PB PC rfl
  have h := PA.fm [v, u] 0 (37 :: 113 :: (B ++ [37, 113] ++ C)) (quoteV v ++ (FB ++ (quoteV u ++ FC))) (.q rfl h1)
  have e : A ++ [37, 113] ++ B ++ [37, 113] ++ C = A ++ 37 :: 113 :: (B ++ [37, 113] ++ C) := by simp
  rw [e]; exact h
theorem plan2_lex {A FA B FB C FC v u : List UInt8} {tsA tsB tsC : List (Int × MV)} (PA : PartOk A FA tsA) (PB : PartOk B FB tsB) (PC : PartOk C FC tsC) : LexR (FA ++ (quoteV v ++ (FB ++ (quoteV u ++ FC)))) (tsA ++ ((286, .bytes v) :: (tsB ++ ((286, .bytes u) :: tsC)))) :=
  PA.lex _ _ (.inr ⟨v.flatMap qByte ++ [34] ++ (FB ++ (quoteV u ++ FC)), rfl⟩) (quote_lex (plan_lex PB PC))
theorem two_facts {A FA B FB C FC v u : List UInt8} {tsA tsB tsC : List (Int × MV)} (PA : PartOk A FA tsA) (PB : PartOk B FB tsB) (PC : PartOk C FC tsC) (hv : MineK.subB [37, 113] v = true) (hu : MineK.subB [37, 113] u = true) :
    StrOk (tsA ++ ((286, .bytes v) :: (tsB ++ ((286, .bytes u) :: tsC)))) ∧ fmts (tsA ++ ((286, .bytes v) :: (tsB ++ ((286, .bytes u) :: tsC)))) = [v, u] ∧ (tsA ++ ((286, MV.bytes v) :: (tsB ++ ((286, .bytes u) :: tsC)))).length ≤ 400 := by
  refine ⟨?_, ?_, ?_⟩
  · intro p hp
    rcases List.mem_append.mp hp with h | h
    · exact PA.str p h
    · rcases List.mem_cons.mp h with rfl | h
      · exact fun _ => ⟨_, rfl⟩
      · rcases List.mem_append.mp h with h | h
        · exact PB.str p h
        · rcases List.mem_cons.mp h with rfl | h
          · exact fun _ => ⟨_, rfl⟩
          · exact PC.str p h
  · have a := PA.no
    have b := PB.no
    have d := PC.no
    unfold fmts at a b d ⊢
    rw [List.filterMap_append, a, List.filterMap_cons, List.filterMap_append, b, List.filterMap_cons, d]
    simp [fmt1, hv, hu]
  · have a := PA.len
    have b := PB.len
    have d := PC.len
    rw [List.length_append, List.length_cons, List.length_append, List.length_cons]; omega
theorem sub2 (A B C : List UInt8) : MineK.subB [37, 113] (A ++ [37, 113] ++ B ++ [37, 113] ++ C) = true := by
  have := subB_mid A (B ++ [37, 113] ++ C)
  have e : A ++ [37, 113] ++ B ++ [37, 113] ++ C = A ++ [37, 113] ++ (B ++ [37, 113] ++ C) := by simp
  rw [e]; exact this
theorem part_fm {A FA : List UInt8} {tsA : List (Int × MV)} (PA : PartOk A FA tsA) (vs : List (List UInt8)) : Fm vs 0 A FA := by
  have := PA.fm vs 0 [] [] (.nil _); simpa using this
theorem part_lex {A FA : List UInt8} {tsA : List (Int × MV)} (PA : PartOk A FA tsA) : LexR FA tsA := by
  have := PA.lex [] [] (.inl rfl) (.done .refl); simpa using this
theorem C_law {w : World} {h₀ : Heap} (W : Wld w h₀) {n : Nat} {L a l0 c1 c2 c3 c4 : Addr} {pm cd : Value} {ns : List Int} {σ : St} (hpart : ∀ P, IsPart P → ∃ F ts, PartOk P F ts)
    {ws : List Value} (hl : h₀.IsList l0 ws.toArray) (hws : VRs (ns.map .int) ws) (hns : ns.length ≤ 1000) (q1 : σ c1 = some (.cell none)) (q2 : σ c2 = some (.cell none)) (q3 : σ c3 = some (.cell none)) (q4 : σ c4 = some (.cell none))
    (n12 : c1 ≠ c2) (n13 : c1 ≠ c3) (n14 : c1 ≠ c4) (n23 : c2 ≠ c3) (n24 : c2 ≠ c4) (n34 : c3 ≠ c4) :
    TX ⟨w, h₀, W, n + 20, L⟩ (execs (fbody lawD) (lawEnv L a c1 c2 c3 c4 pm cd)) ([("script", .ref l0)] : Nm) σ (retK fun v _ => v = .bool true) := by
  have hE : EnvOk ⟨w, h₀, W, n + 20, L⟩ (lawEnv L a c1 c2 c3 c4 pm cd) := lawEnv_ok
  refine exsI_ok (exH_ok (evH_ok hE 40).1 (evH_ok hE 40).2 hE 40) ?_
  refine exs_c ?_
  (conv => whnf)
  refine ⟨ns, ws, ⟨hl, hws⟩, by decide, by omega, fun r ns' hr hns' => ?_⟩
  (conv => whnf)
  refine ⟨_, by rw [St.upd_same], by simp; omega, fun l hlr => ?_⟩
  (conv => whnf)
  refine ⟨by show 2 ≤ 1000; decide, fun bk hbk => ?_⟩
  (conv => whnf)
  refine C_limits W fun lim dl σ1 g1 hlim hdl => ?_
  (conv => whnf)
  refine ⟨by show 2 ≤ 1000; decide, fun tu htu => ?_⟩
  (conv => whnf)
  refine ⟨_, by rw [St.upd_same], ?_⟩
  (conv => whnf)
  refine ⟨rfl, ?_⟩
  (conv => whnf)
  have ga : Grow σ (((σ.upd r (.list (ns'.map .int))).upd l (.list (ns'.map .int))).upd bk (.list [.ref l, .int 0])) := ((Grow.upd hr).trans (Grow.upd hlr)).trans (Grow.upd hbk)
  have g2 := ga.trans (g1.trans (Grow.upd (o := .tuple [.ref bk, .ref lim]) htu))
  have hlbk : l ≠ bk := fun e => by rw [← e, St.upd_same] at hbk; cases hbk
  refine ⟨_, g2 _ _ q1, ?_⟩
  (conv => whnf)
  have g3 := g1.trans (Grow.upd (o := .tuple [.ref bk, .ref lim]) htu)
  have L0 : LA bk l lim dl c1 c2 c3 c4 ns' 0 (some (.ref lim)) none none none ((σ1.upd tu (.tuple [.ref bk, .ref lim])).upd c1 (.cell (some (.ref lim)))) := by
    have ne : ∀ {a : Addr} {o : MObj}, (σ1.upd tu (.tuple [.ref bk, .ref lim])) a = some o → (∀ v, o ≠ .cell v) → ((σ1.upd tu (.tuple [.ref bk, .ref lim])).upd c1 (.cell (some (.ref lim)))) a = some o := fun {a o} h m => by
      rw [St.upd_ne fun e => by rw [e, g2 _ _ q1] at h; cases h; exact m _ rfl]; exact h
    refine ⟨⟨ne (g3 _ _ (St.upd_same ..)) (fun _ e => by cases e), ne (g3 _ _ (by rw [St.upd_ne hlbk, St.upd_same])) (fun _ e => by cases e), hlbk, by decide, by omega⟩, St.upd_same .., ?_, ?_, ?_, ne (Grow.upd htu _ _ hlim) (fun _ e => by cases e), ne (Grow.upd htu _ _ hdl) (fun _ e => by cases e), n12, n13, n14, n23, n24, n34⟩
    · rw [St.upd_ne (Ne.symm n12)]; exact g2 _ _ q2
    · rw [St.upd_ne (Ne.symm n13)]; exact g2 _ _ q3
    · rw [St.upd_ne (Ne.symm n14)]; exact g2 _ _ q4
  revert L0
  generalize ((σ1.upd tu (.tuple [.ref bk, .ref lim])).upd c1 (.cell (some (.ref lim)))) = σ2
  intro L0
  clear g1 g2 g3 ga hlim hdl htu hlbk hbk hlr hr q1 q2 q3 q4 hl hws σ1
  refine exs_c ?_
  (conv => whnf)
  refine C_part W L0.hb (by decide) fun A p1 σ3 hA hp1 B3 k3 => ?_
  have L3 := L0.kbk B3 k3
  (conv => whnf)
  refine C_part W L3.hb (by omega) fun B p2 σ4 hB hp2 B4 k4 => ?_
  have L4 := L3.kbk B4 k4
  (conv => whnf)
  refine ⟨by show 2 ≤ 1000; decide, fun tu htu => ?_⟩
  (conv => whnf)
  have L5 := L4.grow (Grow.upd (o := .tuple [.bytes A, .bytes B]) htu)
  refine ⟨_, by rw [St.upd_same], ?_⟩
  (conv => whnf)
  refine ⟨⟨rfl, rfl⟩, ?_⟩
  (conv => whnf)
  revert L5
  generalize (σ4.upd tu (.tuple [.bytes A, .bytes B])) = σ5
  intro L5
  obtain ⟨FA, tsA, PA⟩ := hpart A hA
  obtain ⟨FB, tsB, PB⟩ := hpart B hB
  have zA := PA.plen
  have zB := PB.plen
  refine exs_c ?_
  (conv => whnf)
  refine ⟨by simp; omega, ?_⟩
  (conv => whnf)
  refine ⟨by simp; omega, ?_⟩
  (conv => whnf)
  have hplan : (A ++ [37, 113] ++ B).length ≤ 300 := by simp; omega
  have hF1 := plan_fm (vs := [A ++ [37, 113] ++ B]) (i := 0) (v := A ++ [37, 113] ++ B) PA PB rfl
  have hX1 := plan_lex (v := A ++ [37, 113] ++ B) PA PB
  have hsub := subB_mid A B
  have hq1 := len_quote (A ++ [37, 113] ++ B)
  have zFA := PA.flen
  have zFB := PB.flen
  have ztA := PA.len
  have ztB := PB.len
  have hFl : (FA ++ (quoteV (A ++ [37, 113] ++ B) ++ FB)).length ≤ 3000 := by rw [List.length_append, List.length_append]; omega
  generalize hpl : A ++ [37, 113] ++ B = plan at *
  refine exs_c ?_
  (conv => whnf)
  refine ⟨by show 1 ≤ 1000; decide, fun vl hvl => ?_⟩
  (conv => whnf)
  have L6 := L5.grow (Grow.upd (o := .list [.bytes plan]) hvl)
  refine ⟨_, L6.h1, ?_⟩
  (conv => whnf)
  refine C_format_values W (vs := [plan]) (out := FA ++ (quoteV plan ++ FB)) (by rw [St.upd_same]; rfl) L6.hl L6.hd hF1 (by simp) (by intro v hv; simp at hv; subst hv; omega) (by omega) (by omega) fun σ6 g6 => ?_
  have L7 := L6.grow g6
  revert L7
  clear L6 g6
  intro L7
  generalize htext : FA ++ (quoteV plan ++ FB) = text at *
  (conv => whnf)
  refine exs_c ?_
  (conv => whnf)
  refine ⟨by show 2 ≤ 1000; decide, fun tu2 htu2 => ?_⟩
  (conv => whnf)
  refine ⟨[.bytes A, .bytes B], _, iterG_tuple, by rw [St.upd_same], fun C D hC hD hne => ?_⟩
  have htD : tu2 ≠ D := fun e => by rw [← e, St.upd_same] at hD; cases hD
  have L8 := L7.grow ((Grow.upd (o := .tuple [.bytes A, .bytes B]) htu2).trans (Grow.upd (o := .list []) hD))
  have ht8 : ((σ6.upd tu2 (.tuple [.bytes A, .bytes B])).upd D (.list [])) tu2 = some (.tuple [.bytes A, .bytes B]) := by rw [St.upd_ne htD, St.upd_same]
  have hd8 : ((σ6.upd tu2 (.tuple [.bytes A, .bytes B])).upd D (.list [])) D = some (.list []) := St.upd_same ..
  have freD : Fre σ6 D := fun o e => by
    have := Grow.upd (o := .tuple [.bytes A, .bytes B]) htu2 _ _ e
    rw [hD] at this; cases this
  have kb8 : KB σ6 ((σ6.upd tu2 (.tuple [.bytes A, .bytes B])).upd D (.list [])) := KB.grow ((Grow.upd htu2).trans (Grow.upd hD))
  revert L8 ht8 hd8 kb8
  generalize ((σ6.upd tu2 (.tuple [.bytes A, .bytes B])).upd D (.list [])) = σ8
  intro L8 ht8 hd8 kb8
  clear hC hD hne htu2 hvl
  have fA := part_fm PA []
  have fB := part_fm PB []
  have lA := part_lex PA
  have lB := part_lex PB
  (conv => whnf)
  refine ⟨ht8, ?_⟩
  (conv => whnf)
  first | refine goT1 (rfl) ?_ | refine goT2 (rfl) ?_
  (conv => whnf)
  refine ⟨by show 0 ≤ 1000; decide, fun v2 hv2 => ?_⟩
  (conv => whnf)
  have L9 := L8.grow (Grow.upd (o := .list []) hv2)
  refine ⟨_, L9.h1, ?_⟩
  (conv => whnf)
  refine C_format_values W (vs := []) (out := FA) (by rw [St.upd_same]; rfl) L9.hl L9.hd fA (by simp) (by simp) (by omega) (by omega) fun σ9 g9 => ?_
  have L10 := L9.grow g9
  (conv => whnf)
  refine ⟨_, L10.h1, ?_⟩
  (conv => whnf)
  refine C_all_tokens W (by omega) (by omega) L10.hl L10.hd lA fun f1 xs1 σ10 kb10 fr1 hf1 tk1 => ?_
  have kb9 : KB σ8 σ9 := KB.grow ((Grow.upd (o := .list []) hv2).trans g9)
  have kb11 : KB σ8 σ10 := kb9.trans kb10
  have hfD1 : f1 ≠ D := fun e => by have := kb9 _ _ hd8 (fun _ e => by cases e); rw [← e, fr1] at this; cases this
  have L11 := L8.kb kb11
  have hd11 := kb11 _ _ hd8 (fun _ e => by cases e)
  have ht11 := kb11 _ _ ht8 (fun _ e => by cases e)
  (conv => whnf)
  refine ⟨_, hd11, by show 0 ≤ _; decide, ?_⟩
  have freD8 : Fre σ6 D := freD
  have kb12 : KB σ6 (σ10.upd D (.list ([] ++ [.ref f1]))) := (kb8.trans kb11).updF freD
  have L12 := L7.kb kb12
  have ht12 : (σ10.upd D (.list ([] ++ [.ref f1]))) tu2 = some (.tuple [.bytes A, .bytes B]) := by rw [St.upd_ne htD]; exact ht11
  have hd12 : (σ10.upd D (.list ([] ++ [.ref f1]))) D = some (.list [.ref f1]) := St.upd_same ..
  have hf12 : (σ10.upd D (.list ([] ++ [.ref f1]))) f1 = some (.list xs1) := by rw [St.upd_ne hfD1]; exact hf1
  have tk12 : ToksAt (σ10.upd D (.list ([] ++ [.ref f1]))) xs1 tsA := tk1.keep fun b ms q => by
    rw [St.upd_ne fun z => by rw [z, hd11] at q; cases q]; exact q
  revert kb12 L12 ht12 hd12 hf12 tk12
  generalize (σ10.upd D (.list ([] ++ [.ref f1]))) = σ12
  intro kb12 L12 ht12 hd12 hf12 tk12
  clear L8 L9 L10 L11 hd11 ht11 kb11 kb9 kb10 hf1 tk1 fr1 g9 hv2 kb8 ht8 hd8
  (conv => whnf)
  refine ⟨ht12, ?_⟩
  (conv => whnf)
  first | refine goT1 (rfl) ?_ | refine goT2 (rfl) ?_
  (conv => whnf)
  refine ⟨by show 0 ≤ 1000; decide, fun v2 hv2 => ?_⟩
  (conv => whnf)
  have L9 := L12.grow (Grow.upd (o := .list []) hv2)
  refine ⟨_, L9.h1, ?_⟩
  (conv => whnf)
  refine C_format_values W (vs := []) (out := FB) (by rw [St.upd_same]; rfl) L9.hl L9.hd fB (by simp) (by simp) (by omega) (by omega) fun σ9 g9 => ?_
  have L10 := L9.grow g9
  (conv => whnf)
  refine ⟨_, L10.h1, ?_⟩
  (conv => whnf)
  refine C_all_tokens W (by omega) (by omega) L10.hl L10.hd lB fun f2 xs2 σ10 kb10 fr2 hf2 tk2 => ?_
  have kb9 : KB σ12 σ9 := KB.grow ((Grow.upd (o := .list []) hv2).trans g9)
  have kb11 : KB σ12 σ10 := kb9.trans kb10
  have hfD2 : f2 ≠ D := fun e => by have := kb9 _ _ hd12 (fun _ e => by cases e); rw [← e, fr2] at this; cases this
  have hd11 := kb11 _ _ hd12 (fun _ e => by cases e)
  have ht11 := kb11 _ _ ht12 (fun _ e => by cases e)
  have hf11 := kb11 _ _ hf12 (fun _ e => by cases e)
  have tk11 := tk12.keep kb11.keepTup
  (conv => whnf)
  refine ⟨_, hd11, by show 1 ≤ _; decide, ?_⟩
  have kb13 : KB σ6 (σ10.upd D (.list ([.ref f1] ++ [.ref f2]))) := (kb12.trans kb11).updF freD
  have L13 := L7.kb kb13
  have ht13 : (σ10.upd D (.list ([.ref f1] ++ [.ref f2]))) tu2 = some (.tuple [.bytes A, .bytes B]) := by rw [St.upd_ne htD]; exact ht11
  have hd13 : (σ10.upd D (.list ([.ref f1] ++ [.ref f2]))) D = some (.list [.ref f1, .ref f2]) := St.upd_same ..
  have hf13 : (σ10.upd D (.list ([.ref f1] ++ [.ref f2]))) f1 = some (.list xs1) := by rw [St.upd_ne hfD1]; exact hf11
  have hg13 : (σ10.upd D (.list ([.ref f1] ++ [.ref f2]))) f2 = some (.list xs2) := by rw [St.upd_ne hfD2]; exact hf2
  have up : ∀ b ms, σ10 b = some (.tuple ms) → (σ10.upd D (.list ([.ref f1] ++ [.ref f2]))) b = some (.tuple ms) := fun b ms q => by
    rw [St.upd_ne fun z => by rw [z, hd11] at q; cases q]; exact q
  have tk13 := tk11.keep up
  have tl13 := tk2.keep up
  clear up
  revert kb13 L13 ht13 hd13 hf13 hg13 tk13 tl13
  generalize (σ10.upd D (.list ([.ref f1] ++ [.ref f2]))) = σ13
  intro kb13 L13 ht13 hd13 hf13 hg13 tk13 tl13
  clear L9 L10 L12 hd11 ht11 hf11 tk11 kb11 kb9 kb10 hf2 tk2 fr2 g9 hv2 kb12 ht12 hd12 hf12 tk12 kb13 hfD1 hfD2
  (conv => whnf)
  refine ⟨ht13, ?_⟩
  (conv => whnf)
  clear ht13 htD freD freD8 L7
  refine exs_c ?_
  (conv => whnf)
  refine ⟨_, L13.h1, ?_⟩
  (conv => whnf)
  have hzX : (tsA ++ (286, MV.bytes plan) :: tsB).length ≤ 300 := by rw [List.length_append, List.length_cons]; omega
  refine C_all_tokens W (by omega) (by omega) L13.hl L13.hd hX1 fun f3 xs3 σ14 kb14 fr3 hf3 tk3 => ?_
  have L14 := L13.kb kb14
  have hd14 := kb14 _ _ hd13 (fun _ e => by cases e)
  have hf14 := kb14 _ _ hf13 (fun _ e => by cases e)
  have hg14 := kb14 _ _ hg13 (fun _ e => by cases e)
  have tk14 := tk13.keep kb14.keepTup
  have tl14 := tl13.keep kb14.keepTup
  have zx1 := tk13.length
  have zx2 := tl13.length
  clear L13 hd13 hf13 hg13 tk13 tl13 kb14 fr3
  (conv => whnf)
  refine ⟨by decide, ?_⟩
  (conv => whnf)
  refine ⟨_, .ref f1, hd14, rfl, ?_⟩
  (conv => whnf)
  refine ⟨by show 2 ≤ 1000; decide, fun tp htp => ?_⟩
  (conv => whnf)
  refine ⟨by show 1 ≤ 1000; decide, fun lp hlp => ?_⟩
  (conv => whnf)
  have ga : Grow σ14 ((σ14.upd tp (.tuple [.int 286, .bytes plan])).upd lp (.list [.ref tp])) := (Grow.upd htp).trans (Grow.upd hlp)
  have htp15 : ((σ14.upd tp (.tuple [.int 286, .bytes plan])).upd lp (.list [.ref tp])) tp = some (.tuple [.int 286, .bytes plan]) := Grow.upd hlp _ _ (St.upd_same ..)
  have hlp15 : ((σ14.upd tp (.tuple [.int 286, .bytes plan])).upd lp (.list [.ref tp])) lp = some (.list [.ref tp]) := St.upd_same ..
  revert ga htp15 hlp15
  generalize ((σ14.upd tp (.tuple [.int 286, .bytes plan])).upd lp (.list [.ref tp])) = σ15
  intro ga htp15 hlp15
  clear htp hlp
  refine ⟨xs1, [.ref tp], ga _ _ hf14, hlp15, by show xs1.length + 1 ≤ _; omega, fun r1 hr1 => ?_⟩
  (conv => whnf)
  refine ⟨by decide, ?_⟩
  (conv => whnf)
  refine ⟨_, .ref f2, Grow.upd hr1 _ _ (ga _ _ hd14), rfl, ?_⟩
  (conv => whnf)
  refine ⟨xs1 ++ [.ref tp], xs2, by rw [St.upd_same], Grow.upd hr1 _ _ (ga _ _ hg14), by rw [List.length_append]; show xs1.length + 1 + _ ≤ _; omega, fun r2 hr2 => ?_⟩
  have gb : Grow σ14 ((σ15.upd r1 (.list (xs1 ++ [.ref tp]))).upd r2 (.list (xs1 ++ [.ref tp] ++ xs2))) := ga.trans ((Grow.upd hr1).trans (Grow.upd hr2))
  have hr16 : ((σ15.upd r1 (.list (xs1 ++ [.ref tp]))).upd r2 (.list (xs1 ++ [.ref tp] ++ xs2))) r2 = some (.list (xs1 ++ [.ref tp] ++ xs2)) := St.upd_same ..
  have htp16 := ((Grow.upd (o := .list (xs1 ++ [.ref tp])) hr1).trans (Grow.upd (o := .list (xs1 ++ [.ref tp] ++ xs2)) hr2)) _ _ htp15
  revert gb hr16 htp16
  generalize ((σ15.upd r1 (.list (xs1 ++ [.ref tp]))).upd r2 (.list (xs1 ++ [.ref tp] ++ xs2))) = σ16
  intro gb hr16 htp16
  clear hr1 hr2 ga htp15 hlp15
  have L16 := L14.grow gb
  have gt : ∀ a ms, σ14 a = some (.tuple ms) → σ16 a = some (.tuple ms) := fun a ms e => gb _ _ e
  have hall : ToksAt σ16 (xs1 ++ [.ref tp] ++ xs2) (tsA ++ (286, MV.bytes plan) :: tsB) := by
    have e : tsA ++ (286, MV.bytes plan) :: tsB = tsA ++ [(286, MV.bytes plan)] ++ tsB := by simp
    rw [e]
    exact ToksAt.app (tl14.keep gt) (ToksAt.snoc htp16 (tk14.keep gt))
  have hat : ∀ p ∈ tsA ++ (286, MV.bytes plan) :: tsB, isAtom p.2 = true := by
    intro p hp
    rcases List.mem_append.mp hp with h | h
    · exact PA.atom p h
    · rcases List.mem_cons.mp h with rfl | h
      · rfl
      · exact PB.atom p h
  have hst : StrOk (tsA ++ (286, MV.bytes plan) :: tsB) := by
    intro p hp
    rcases List.mem_append.mp hp with h | h
    · exact PA.str p h
    · rcases List.mem_cons.mp h with rfl | h
      · exact fun _ => ⟨_, rfl⟩
      · exact PB.str p h
  have hfm : fmts (tsA ++ (286, MV.bytes plan) :: tsB) = [plan] := by
    have a := PA.no
    have b := PB.no
    unfold fmts at a b ⊢
    rw [List.filterMap_append, a, List.filterMap_cons, b]
    simp [fmt1, hsub]
  refine ⟨xs3, _, gb _ _ hf3, hr16, toks_eq (tk3.keep gt) hall hat, ?_⟩
  (conv => whnf)
  first | refine goF1 (rfl) ?_ | refine goF2 (rfl) ?_
  (conv => whnf)
  (conv => whnf)
  clear hr16 htp16 hall L14 hd14 hf14 hg14 tk14 tl14 hf3 tk3 zx1 zx2 gt gb
  refine exs_n ?_
  (conv => whnf)
  refine exs_c ?_
  (conv => whnf)
  refine ⟨_, L16.h1, ?_⟩
  (conv => whnf)
  refine C_formats W (by omega) (by omega) L16.hl L16.hd hX1 hst fun f4 σ17 kb17 fr4 hf4 => ?_
  rw [hfm] at hf4
  have L17 := L16.kb kb17
  (conv => whnf)
  have hf18 : (σ17.upd c2 (.cell (some (.ref f4)))) f4 = some (.list [.bytes plan]) := up_cell L17.h2 _ _ hf4 (ne_cell L17.h2 hf4 fun _ e => by cases e)
  refine ⟨_, L17.h2, ?_⟩
  have L18 := L17.set2 (v := .ref f4)
  revert hf18 L18
  generalize (σ17.upd c2 (.cell (some (.ref f4)))) = σ18
  intro hf18 L18
  clear L17 hf4 kb17 fr4 L16
  (conv => whnf)
  refine exs_c ?_
  (conv => whnf)
  refine ⟨_, L18.h2, ?_⟩
  (conv => whnf)
  refine ⟨by show 1 ≤ 1000; decide, fun pl hpl2 => ?_⟩
  (conv => whnf)
  have L19 := L18.grow (Grow.upd (o := .list [.bytes plan]) hpl2)
  have hf19 := Grow.upd (o := .list [.bytes plan]) hpl2 _ _ hf18
  refine ⟨_, _, hf19, St.upd_same .., bytes_eq [plan], ?_⟩
  (conv => whnf)
  first | refine goF1 (rfl) ?_ | refine goF2 (rfl) ?_
  (conv => whnf)
  refine ⟨_, L19.h2, ?_⟩
  (conv => whnf)
  refine ⟨by decide, ?_⟩
  (conv => whnf)
  refine ⟨_, .bytes plan, hf19, rfl, ?_⟩
  (conv => whnf)
  refine ⟨_, L19.h2, ?_⟩
  (conv => whnf)
  refine ⟨_, L19.h1, ?_⟩
  (conv => whnf)
  refine C_format_values W (vs := [plan]) (out := text) hf19 L19.hl L19.hd hF1 (by simp) (by intro v hv; simp at hv; subst hv; omega) (by omega) (by omega) fun σ20 g20 => ?_
  have L20 := L19.grow g20
  (conv => whnf)
  first | refine goF1 (by simp) ?_ | refine goF2 (by simp) ?_
  (conv => whnf)
  first | refine goF1 (rfl) ?_ | refine goF2 (rfl) ?_
  (conv => whnf)
  (conv => whnf)
  refine exs_n ?_
  (conv => whnf)
  clear L18 L19 hf18 hf19 hpl2 g20
  refine exs_c ?_
  (conv => whnf)
  refine C_part W L20.hb (by omega) fun uX puX suX huX hpuX BuX kuX => ?_
  have LuX := L20.kbk BuX kuX
  obtain ⟨FuX, TuX, QuX⟩ := hpart uX huX
  have zuX := QuX.plen
  have yuX := QuX.flen
  (conv => whnf)
  refine ⟨by simp; omega, ?_⟩
  (conv => whnf)
  refine C_part W LuX.hb (by omega) fun uY puY suY huY hpuY BuY kuY => ?_
  have LuY := LuX.kbk BuY kuY
  obtain ⟨FuY, TuY, QuY⟩ := hpart uY huY
  have zuY := QuY.plen
  have yuY := QuY.flen
  (conv => whnf)
  refine ⟨by simp; omega, ?_⟩
  (conv => whnf)
  refine ⟨by simp; omega, ?_⟩
  (conv => whnf)
  refine C_part W LuY.hb (by omega) fun uZ puZ suZ huZ hpuZ BuZ kuZ => ?_
  have LuZ := LuY.kbk BuZ kuZ
  obtain ⟨FuZ, TuZ, QuZ⟩ := hpart uZ huZ
  have zuZ := QuZ.plen
  have yuZ := QuZ.flen
  (conv => whnf)
  refine ⟨by simp; omega, ?_⟩
  (conv => whnf)
  refine ⟨_, LuZ.h3, ?_⟩
  have L21 := LuZ.set3 (v := .bytes (uX ++ [37, 113] ++ uY ++ [37, 113] ++ uZ))
  revert L21
  generalize (suZ.upd c3 (.cell (some (.bytes (uX ++ [37, 113] ++ uY ++ [37, 113] ++ uZ))))) = σ21
  intro L21
  (conv => whnf)
  refine exs_c ?_
  (conv => whnf)
  refine C_part W L21.hb (by omega) fun wX pwX swX hwX hpwX BwX kwX => ?_
  have LwX := L21.kbk BwX kwX
  obtain ⟨FwX, TwX, QwX⟩ := hpart wX hwX
  have zwX := QwX.plen
  have ywX := QwX.flen
  (conv => whnf)
  refine ⟨by simp; omega, ?_⟩
  (conv => whnf)
  refine C_part W LwX.hb (by omega) fun wY pwY swY hwY hpwY BwY kwY => ?_
  have LwY := LwX.kbk BwY kwY
  obtain ⟨FwY, TwY, QwY⟩ := hpart wY hwY
  have zwY := QwY.plen
  have ywY := QwY.flen
  (conv => whnf)
  refine ⟨by simp; omega, ?_⟩
  (conv => whnf)
  refine ⟨by simp; omega, ?_⟩
  (conv => whnf)
  refine C_part W LwY.hb (by omega) fun wZ pwZ swZ hwZ hpwZ BwZ kwZ => ?_
  have LwZ := LwY.kbk BwZ kwZ
  obtain ⟨FwZ, TwZ, QwZ⟩ := hpart wZ hwZ
  have zwZ := QwZ.plen
  have ywZ := QwZ.flen
  (conv => whnf)
  refine ⟨by simp; omega, ?_⟩
  (conv => whnf)
  refine ⟨_, LwZ.h4, ?_⟩
  have L22 := LwZ.set4 (v := .bytes (wX ++ [37, 113] ++ wY ++ [37, 113] ++ wZ))
  revert L22
  generalize (swZ.upd c4 (.cell (some (.bytes (wX ++ [37, 113] ++ wY ++ [37, 113] ++ wZ))))) = σ22
  intro L22
  have hs1 := sub2 uX uY uZ
  have hs2 := sub2 wX wY wZ
  have hz1 : (uX ++ [37, 113] ++ uY ++ [37, 113] ++ uZ).length ≤ 310 := by simp; omega
  have hz2 : (wX ++ [37, 113] ++ wY ++ [37, 113] ++ wZ).length ≤ 310 := by simp; omega
  have hG1 := plan2_fm (v := uX ++ [37, 113] ++ uY ++ [37, 113] ++ uZ) (u := wX ++ [37, 113] ++ wY ++ [37, 113] ++ wZ) QuX QuY QuZ
  have hG2 := plan2_fm (v := uX ++ [37, 113] ++ uY ++ [37, 113] ++ uZ) (u := wX ++ [37, 113] ++ wY ++ [37, 113] ++ wZ) QwX QwY QwZ
  have hY1 := plan2_lex (v := uX ++ [37, 113] ++ uY ++ [37, 113] ++ uZ) (u := wX ++ [37, 113] ++ wY ++ [37, 113] ++ wZ) QuX QuY QuZ
  have hY2 := plan2_lex (v := uX ++ [37, 113] ++ uY ++ [37, 113] ++ uZ) (u := wX ++ [37, 113] ++ wY ++ [37, 113] ++ wZ) QwX QwY QwZ
  obtain ⟨hS1, hM1, hN1⟩ := two_facts QuX QuY QuZ hs1 hs2
  obtain ⟨hS2, hM2, hN2⟩ := two_facts QwX QwY QwZ hs1 hs2
  have ho1 := len_quote (uX ++ [37, 113] ++ uY ++ [37, 113] ++ uZ)
  have ho2 := len_quote (wX ++ [37, 113] ++ wY ++ [37, 113] ++ wZ)
  have hX1z : (FuX ++ (quoteV (uX ++ [37, 113] ++ uY ++ [37, 113] ++ uZ) ++ (FuY ++ (quoteV (wX ++ [37, 113] ++ wY ++ [37, 113] ++ wZ) ++ FuZ)))).length ≤ 4000 := by
    rw [List.length_append, List.length_append, List.length_append, List.length_append]; omega
  have hX2z : (FwX ++ (quoteV (uX ++ [37, 113] ++ uY ++ [37, 113] ++ uZ) ++ (FwY ++ (quoteV (wX ++ [37, 113] ++ wY ++ [37, 113] ++ wZ) ++ FwZ)))).length ≤ 4000 := by
    rw [List.length_append, List.length_append, List.length_append, List.length_append]; omega
  revert L22 hs1 hs2 hz1 hz2 hG1 hG2 hY1 hY2 hS1 hM1 hN1 hS2 hM2 hN2 ho1 ho2 hX1z hX2z
  generalize uX ++ [37, 113] ++ uY ++ [37, 113] ++ uZ = one
  generalize wX ++ [37, 113] ++ wY ++ [37, 113] ++ wZ = other
  generalize FuX ++ (quoteV one ++ (FuY ++ (quoteV other ++ FuZ))) = X1
  generalize FwX ++ (quoteV one ++ (FwY ++ (quoteV other ++ FwZ))) = X2
  generalize TuX ++ (286, MV.bytes one) :: (TuY ++ (286, MV.bytes other) :: TuZ) = T1
  generalize TwX ++ (286, MV.bytes one) :: (TwY ++ (286, MV.bytes other) :: TwZ) = T2
  intro L22 hs1 hs2 hz1 hz2 hG1 hG2 hY1 hY2 hS1 hM1 hN1 hS2 hM2 hN2 ho1 ho2 hX1z hX2z
  clear L20 L21 LuX LuY LuZ LwX LwY LwZ BuX BuY BuZ BwX BwY BwZ kuX kuY kuZ kwX kwY kwZ QuX QuY QuZ QwX QwY QwZ huX huY huZ hwX hwY hwZ
  (conv => whnf)
  refine exs_c ?_
  (conv => whnf)
  refine ⟨_, L22.h3, ?_⟩
  (conv => whnf)
  refine ⟨_, L22.h4, ?_⟩
  (conv => whnf)
  refine ⟨by show 2 ≤ 1000; decide, fun tu3 htu3 => ?_⟩
  (conv => whnf)
  refine ⟨[.bytes one, .bytes other], _, iterG_tuple, by rw [St.upd_same], fun C D2 hC hD hne => ?_⟩
  have htD : tu3 ≠ D2 := fun e => by rw [← e, St.upd_same] at hD; cases hD
  have L23 := L22.grow ((Grow.upd (o := .tuple [.bytes one, .bytes other]) htu3).trans (Grow.upd (o := .list []) hD))
  have ht23 : ((σ22.upd tu3 (.tuple [.bytes one, .bytes other])).upd D2 (.list [])) tu3 = some (.tuple [.bytes one, .bytes other]) := by rw [St.upd_ne htD, St.upd_same]
  have hd23 : ((σ22.upd tu3 (.tuple [.bytes one, .bytes other])).upd D2 (.list [])) D2 = some (.list []) := St.upd_same ..
  have freD : Fre σ22 D2 := fun o e => by
    have := Grow.upd (o := .tuple [.bytes one, .bytes other]) htu3 _ _ e
    rw [hD] at this; cases this
  have kb23 : KB σ22 ((σ22.upd tu3 (.tuple [.bytes one, .bytes other])).upd D2 (.list [])) := KB.grow ((Grow.upd htu3).trans (Grow.upd hD))
  revert L23 ht23 hd23 kb23
  generalize ((σ22.upd tu3 (.tuple [.bytes one, .bytes other])).upd D2 (.list [])) = σ23
  intro L23 ht23 hd23 kb23
  clear hC hD hne htu3
  (conv => whnf)
  refine ⟨ht23, ?_⟩
  (conv => whnf)
  first | refine goT1 (rfl) ?_ | refine goT2 (rfl) ?_
  (conv => whnf)
  refine ⟨_, L23.h3, ?_⟩
  (conv => whnf)
  refine ⟨_, L23.h4, ?_⟩
  (conv => whnf)
  refine ⟨by show 2 ≤ 1000; decide, fun v2 hv2 => ?_⟩
  (conv => whnf)
  have La := L23.grow (Grow.upd (o := .list [.bytes one, .bytes other]) hv2)
  refine ⟨_, La.h1, ?_⟩
  (conv => whnf)
  refine C_format_values W (vs := [one, other]) (out := X1) (by rw [St.upd_same]; rfl) La.hl La.hd hG1 (by simp) (by intro v hv; simp at hv; rcases hv with rfl | rfl <;> omega) (by omega) (by omega) fun σa ga => ?_
  have kba : KB σ23 σa := KB.grow ((Grow.upd hv2).trans ga)
  have hda := kba _ _ hd23 (fun _ e => by cases e)
  have hta := kba _ _ ht23 (fun _ e => by cases e)
  (conv => whnf)
  refine ⟨_, hda, by simp, ?_⟩
  have kb24 : KB σ22 (σa.upd D2 (.list ([] ++ [.bytes X1]))) := (kb23.trans kba).updF freD
  have L24 := L22.kb kb24
  have ht24 : (σa.upd D2 (.list ([] ++ [.bytes X1]))) tu3 = some (.tuple [.bytes one, .bytes other]) := by rw [St.upd_ne htD]; exact hta
  have hd24 : (σa.upd D2 (.list ([] ++ [.bytes X1]))) D2 = some (.list [.bytes X1]) := St.upd_same ..
  revert kb24 L24 ht24 hd24
  generalize (σa.upd D2 (.list ([] ++ [.bytes X1]))) = σ24
  intro kb24 L24 ht24 hd24
  clear La kba hda hta ga hv2 L23 ht23 hd23 kb23
  (conv => whnf)
  refine ⟨ht24, ?_⟩
  (conv => whnf)
  first | refine goT1 (rfl) ?_ | refine goT2 (rfl) ?_
  (conv => whnf)
  refine ⟨_, L24.h3, ?_⟩
  (conv => whnf)
  refine ⟨_, L24.h4, ?_⟩
  (conv => whnf)
  refine ⟨by show 2 ≤ 1000; decide, fun v2 hv2 => ?_⟩
  (conv => whnf)
  have La := L24.grow (Grow.upd (o := .list [.bytes one, .bytes other]) hv2)
  refine ⟨_, La.h1, ?_⟩
  (conv => whnf)
  refine C_format_values W (vs := [one, other]) (out := X2) (by rw [St.upd_same]; rfl) La.hl La.hd hG2 (by simp) (by intro v hv; simp at hv; rcases hv with rfl | rfl <;> omega) (by omega) (by omega) fun σa ga => ?_
  have kba : KB σ24 σa := KB.grow ((Grow.upd hv2).trans ga)
  have hda := kba _ _ hd24 (fun _ e => by cases e)
  have hta := kba _ _ ht24 (fun _ e => by cases e)
  (conv => whnf)
  refine ⟨_, hda, by simp, ?_⟩
  have kb25 : KB σ22 (σa.upd D2 (.list ([.bytes X1] ++ [.bytes X2]))) := (kb24.trans kba).updF freD
  have L25 := L22.kb kb25
  have ht25 : (σa.upd D2 (.list ([.bytes X1] ++ [.bytes X2]))) tu3 = some (.tuple [.bytes one, .bytes other]) := by rw [St.upd_ne htD]; exact hta
  have hd25 : (σa.upd D2 (.list ([.bytes X1] ++ [.bytes X2]))) D2 = some (.list [.bytes X1, .bytes X2]) := St.upd_same ..
  revert kb25 L25 ht25 hd25
  generalize (σa.upd D2 (.list ([.bytes X1] ++ [.bytes X2]))) = σ25
  intro kb25 L25 ht25 hd25
  clear La kba hda hta ga hv2 L24 ht24 hd24 kb24
  (conv => whnf)
  refine ⟨ht25, ?_⟩
  (conv => whnf)
  clear ht25 kb25 L22 freD
  refine exs_c ?_
  (conv => whnf)
  refine ⟨[.bytes X1, .bytes X2], _, iter_list, ?_⟩
  have good1 : ∃ ts, LexR X1 ts ∧ StrOk ts ∧ fmts ts = [one, other] ∧ ts.length ≤ 400 ∧ X1.length ≤ 4000 := ⟨T1, hY1, hS1, hM1, hN1, hX1z⟩
  have good2 : ∃ ts, LexR X2 ts ∧ StrOk ts ∧ fmts ts = [one, other] ∧ ts.length ≤ 400 ∧ X2.length ≤ 4000 := ⟨T2, hY2, hS2, hM2, hN2, hX2z⟩
  refine for_inv (fun vs ρ σ' => (∀ v ∈ vs, ∃ t ts, v = MV.bytes t ∧ LexR t ts ∧ StrOk ts ∧ fmts ts = [one, other] ∧ ts.length ≤ 400 ∧ t.length ≤ 4000) ∧ (∃ v2, LA bk l lim dl c1 c2 c3 c4 ns' pwZ (some (.ref lim)) (some v2) (some (.bytes one)) (some (.bytes other)) σ') ∧ σ' D2 = some (.list [.bytes X1, .bytes X2]) ∧
    ∃ tv, ρ = ([("script", .ref l0), ("basket", .ref bk), ("behind", .bytes B), ("ahead", .bytes A), ("plan", .bytes plan), ("text", tv), ("around", .ref D), ("texts", .ref D2)] : Nm)) (fun _ _ _ q => q.2.2.1) ?_ ?_ ⟨?_, ⟨_, L25⟩, hd25, ⟨_, rfl⟩⟩
  · rintro v vs ρ σ' K ⟨hg, ⟨v2, L26⟩, hd26, tv, rfl⟩ hK - - -
    obtain ⟨t, ts, rfl, g1, g2, g3, g4, g5⟩ := hg v (.head _)
    refine exs_c ?_
    (conv => whnf)
    refine ⟨_, L26.h1, ?_⟩
    (conv => whnf)
    refine C_formats W (by omega) (by omega) L26.hl L26.hd g1 g2 fun f5 σ27 kb27 fr5 hf5 => ?_
    rw [g3] at hf5
    have L27 := L26.kb kb27
    have hd27 := kb27 _ _ hd26 (fun _ e => by cases e)
    (conv => whnf)
    refine ⟨_, L27.h2, ?_⟩
    have L28 := L27.set2 (v := .ref f5)
    have hf28 : (σ27.upd c2 (.cell (some (.ref f5)))) f5 = some (.list [.bytes one, .bytes other]) := up_cell L27.h2 _ _ hf5 (ne_cell L27.h2 hf5 fun _ e => by cases e)
    have hd28 : (σ27.upd c2 (.cell (some (.ref f5)))) D2 = some (.list [.bytes X1, .bytes X2]) := up_cell L27.h2 _ _ hd27 (ne_cell L27.h2 hd27 fun _ e => by cases e)
    revert L28 hf28 hd28
    generalize (σ27.upd c2 (.cell (some (.ref f5)))) = σ28
    intro L28 hf28 hd28
    clear L26 L27 hd26 hd27 hf5 kb27 fr5
    (conv => whnf)
    refine exs_c ?_
    (conv => whnf)
    refine ⟨_, L28.h2, ?_⟩
    (conv => whnf)
    refine ⟨_, L28.h3, ?_⟩
    (conv => whnf)
    refine ⟨_, L28.h4, ?_⟩
    (conv => whnf)
    refine ⟨by show 2 ≤ 1000; decide, fun pl2 hpl2 => ?_⟩
    (conv => whnf)
    refine ⟨_, _, Grow.upd hpl2 _ _ hf28, St.upd_same .., bytes_eq [one, other], ?_⟩
    have L29 := L28.grow (Grow.upd (o := .list [.bytes one, .bytes other]) hpl2)
    have hf29 := Grow.upd (o := .list [.bytes one, .bytes other]) hpl2 _ _ hf28
    have hd29 := Grow.upd (o := .list [.bytes one, .bytes other]) hpl2 _ _ hd28
    revert L29 hf29 hd29
    generalize (σ28.upd pl2 (.list [.bytes one, .bytes other])) = σ29
    intro L29 hf29 hd29
    clear L28 hf28 hd28 hpl2
    (conv => whnf)
    first | refine goF1 (rfl) ?_ | refine goF2 (rfl) ?_
    (conv => whnf)
    refine ⟨_, L29.h2, ?_⟩
    (conv => whnf)
    refine ⟨[.bytes one, .bytes other], _, iterG_list (.inl ⟨_, _, rfl⟩), hf29, fun C3 D3 hC hD hne => ?_⟩
    have freD : Fre σ29 D3 := fun o e => by rw [hD] at e; cases e
    have kb30 : KB σ29 (σ29.upd D3 (.list [])) := KB.grow (Grow.upd hD)
    have L30 := L29.kb kb30
    have hf30 := kb30 _ _ hf29 (fun _ e => by cases e)
    have he30 : (σ29.upd D3 (.list [])) D3 = some (.list []) := St.upd_same ..
    revert kb30 L30 hf30 he30
    generalize (σ29.upd D3 (.list [])) = σ30
    intro kb30 L30 hf30 he30
    clear hC hD hne
    (conv => whnf)
    refine ⟨hf30, ?_⟩
    (conv => whnf)
    first | refine goT1 (rfl) ?_ | refine goT2 (rfl) ?_
    (conv => whnf)
    refine ⟨_, L30.h2, ?_⟩
    (conv => whnf)
    refine ⟨_, L30.h1, ?_⟩
    (conv => whnf)
    refine C_format_values W (vs := [one, other]) (out := X1) hf30 L30.hl L30.hd hG1 (by simp) (by intro v hv; simp at hv; rcases hv with rfl | rfl <;> omega) (by omega) (by omega) fun σa ga => ?_
    have kba : KB σ30 σa := KB.grow ga
    have hea := kba _ _ he30 (fun _ e => by cases e)
    (conv => whnf)
    refine ⟨_, hea, by simp, ?_⟩
    have kb31 : KB σ29 (σa.upd D3 (.list ([] ++ [.bytes X1]))) := (kb30.trans kba).updF freD
    have L31 := L29.kb kb31
    have hf31 := kb31 _ _ hf29 (fun _ e => by cases e)
    have he31 : (σa.upd D3 (.list ([] ++ [.bytes X1]))) D3 = some (.list ([] ++ [.bytes X1])) := St.upd_same ..
    revert kb31 L31 hf31 he31
    generalize (σa.upd D3 (.list ([] ++ [.bytes X1]))) = σ31
    intro kb31 L31 hf31 he31
    clear kba hea ga
    (conv => whnf)
    refine ⟨hf31, ?_⟩
    (conv => whnf)
    first | refine goT1 (rfl) ?_ | refine goT2 (rfl) ?_
    (conv => whnf)
    refine ⟨_, L31.h2, ?_⟩
    (conv => whnf)
    refine ⟨_, L31.h1, ?_⟩
    (conv => whnf)
    refine C_format_values W (vs := [one, other]) (out := X2) hf31 L31.hl L31.hd hG2 (by simp) (by intro v hv; simp at hv; rcases hv with rfl | rfl <;> omega) (by omega) (by omega) fun σa ga => ?_
    have kba : KB σ31 σa := KB.grow ga
    have hea := kba _ _ he31 (fun _ e => by cases e)
    (conv => whnf)
    refine ⟨_, hea, by simp, ?_⟩
    have kb32 : KB σ29 (σa.upd D3 (.list (([] ++ [.bytes X1]) ++ [.bytes X2]))) := (kb31.trans kba).updF freD
    have L32 := L29.kb kb32
    have hf32 := kb32 _ _ hf29 (fun _ e => by cases e)
    have he32 : (σa.upd D3 (.list (([] ++ [.bytes X1]) ++ [.bytes X2]))) D3 = some (.list (([] ++ [.bytes X1]) ++ [.bytes X2])) := St.upd_same ..
    revert kb32 L32 hf32 he32
    generalize (σa.upd D3 (.list (([] ++ [.bytes X1]) ++ [.bytes X2]))) = σ32
    intro kb32 L32 hf32 he32
    clear kba hea ga
    (conv => whnf)
    refine ⟨hf32, ?_⟩
    (conv => whnf)
    have hd32 := kb32 _ _ hd29 (fun _ e => by cases e)
    refine ⟨_, _, he32, hd32, bytes_eq [X1, X2], ?_⟩
    (conv => whnf)
    first | refine goF1 (rfl) ?_ | refine goF2 (rfl) ?_
    (conv => whnf)
    first | refine goF1 (rfl) ?_ | refine goF2 (rfl) ?_
    (conv => whnf)
    (conv => whnf)
    refine exs_n ?_
    (conv => whnf)
    refine exs_n ?_
    exact hK _ _ ⟨fun v hv => hg v (.tail _ hv), ⟨_, L32⟩, hd32, _, rfl⟩
  · rintro ρ σ' ⟨hg, ⟨v2, L26⟩, hd26, tv, rfl⟩
    (conv => whnf)
    refine exs_c ?_
    (conv => whnf)
  · intro v hv
    simp at hv
    rcases hv with rfl | rfl
    · obtain ⟨ts, q⟩ := good1; exact ⟨_, ts, rfl, q⟩
    · obtain ⟨ts, q⟩ := good2; exact ⟨_, ts, rfl, q⟩

end Mine

end
section
open PySem PySem.W PyProof.Rows PySem.Calls
set_option maxHeartbeats 4000000
set_option linter.unusedVariables false
set_option linter.unusedSimpArgs false
namespace Mine
open MineK
open PySem.Challenge (pw_xm0629_01 rw_xm0629_01)
/-! ## The plain law: the pieces -/
theorem LexR.sk {r r1 : List UInt8} {us : List (Int × MV)} (h : Sk r r1) (k : LexR r1 us) : LexR r us := by
  cases k with
  | done h2 => exact .done (.step h h2)
  | tok h2 ht hk => exact .tok (.step h h2) ht hk
theorem eol_one {c : UInt8} {r : List UInt8} (h : ∀ d r', r = d :: r' → ¬ (isNL d.toNat = true ∧ d ≠ c)) : eolR c r = r := by
  unfold eolR eolN
  split
  · rfl
  · rename_i d r'
    rw [if_neg (h d r' rfl)]; rfl
theorem eol10 {r : List UInt8} (h : hd r ≠ 13) : eolR 10 r = r := eol_one fun d r' e ⟨h1, h2⟩ => by
  subst e
  unfold isNL at h1
  simp [← UInt8.toNat_inj] at h1 h2
  apply h
  show (d.toNat : Int) = 13
  omega
theorem eol13 {r : List UInt8} (h : hd r ≠ 10) : eolR 13 r = r := eol_one fun d r' e ⟨h1, h2⟩ => by
  subst e
  unfold isNL at h1
  simp [← UInt8.toNat_inj] at h1 h2
  apply h
  show (d.toNat : Int) = 10
  omega
theorem lex_nl {r : List UInt8} {us : List (Int × MV)} (h : hd r ≠ 13) (k : LexR r us) : LexR (10 :: r) us := by
  refine LexR.sk (.nl (by decide)) ?_
  rw [eol10 h]; exact k
theorem lex_cr {r : List UInt8} {us : List (Int × MV)} (h : hd r ≠ 10) (k : LexR r us) : LexR (13 :: r) us := by
  refine LexR.sk (.nl (by decide)) ?_
  rw [eol13 h]; exact k
theorem lex_nlcr {r : List UInt8} {us : List (Int × MV)} (k : LexR r us) : LexR (10 :: 13 :: r) us := LexR.sk (.nl (by decide)) k
theorem lex_crnl {r : List UInt8} {us : List (Int × MV)} (k : LexR r us) : LexR (13 :: 10 :: r) us := LexR.sk (.nl (by decide)) k
theorem lex_sp {r : List UInt8} {us : List (Int × MV)} (k : LexR r us) : LexR (32 :: r) us := LexR.sk (.bl (by decide) (by decide)) k
noncomputable def okH (c : Nat) (h : Int) : Bool := match c with
  | 0 => true
  | 1 => !isNam h
  | 2 => h != 61
  | 3 => h != 13
  | _ => h != 10
structure PO (P F : List UInt8) (ts : List (Int × MV)) (c : Nat) : Prop where
  fm : ∀ vs i r o, Fm vs i r o → Fm vs i (P ++ r) (F ++ o)
  lex : ∀ r us, okH c (hd r) = true → LexR r us → LexR (F ++ r) (ts ++ us)
  str : StrOk ts
  no : fmts ts = []
  atom : ∀ p ∈ ts, isAtom p.2 = true
  len : ts.length ≤ 10
  flen : F.length ≤ 10
  plen : P.length ≤ 10
theorem PO.part {P F : List UInt8} {ts : List (Int × MV)} {c : Nat} (h : PO P F ts c) : PartOk P F ts := by
  refine ⟨h.fm, fun r us hr k => h.lex r us ?_ k, h.str, h.no, h.atom, by have := h.len; omega, by have := h.flen; omega, by have := h.plen; omega⟩
  have e : hd r = -1 ∨ hd r = 34 := by
    rcases hr with rfl | ⟨r', rfl⟩
    · exact .inl rfl
    · exact .inr rfl
  unfold okH
  rcases e with e | e <;> rw [e] <;> split <;> decide
theorem PO.app {P F : List UInt8} {ts : List (Int × MV)} {c : Nat} {P' F' : List UInt8} {ts' : List (Int × MV)} {c' : Nat} {h' : Int} (a : PO P F ts c) (b : PO P' F' ts' c') (hh : ∀ r, hd (F' ++ r) = h') (ok : okH c h' = true) : PartOk (P ++ P') (F ++ F') (ts ++ ts') := by
  have b' := b.part
  refine ⟨fun vs i r o k => ?_, fun r us hr k => ?_, fun p hp => ?_, ?_, fun p hp => ?_, ?_, ?_, ?_⟩
  · rw [List.append_assoc, List.append_assoc]; exact a.fm _ _ _ _ (b.fm _ _ _ _ k)
  · rw [List.append_assoc, List.append_assoc]; exact a.lex _ _ (by rw [hh]; exact ok) (b'.lex _ _ hr k)
  · rcases List.mem_append.mp hp with h | h
    · exact a.str p h
    · exact b.str p h
  · have x := a.no
    have y := b.no
    unfold fmts at x y ⊢
    rw [List.filterMap_append, x, y]; rfl
  · rcases List.mem_append.mp hp with h | h
    · exact a.atom p h
    · exact b.atom p h
  · have := a.len; have := b.len; rw [List.length_append]; omega
  · have := a.flen; have := b.flen; rw [List.length_append]; omega
  · have := a.plen; have := b.plen; rw [List.length_append]; omega
theorem str_nil : StrOk [] := fun p hp => nomatch hp
theorem str_one (b : List UInt8) : StrOk [(286, .bytes b)] := fun p hp => by
  simp at hp; subst hp; exact fun _ => ⟨b, rfl⟩
theorem str_kd {kd : Int} {v : MV} (h : kd ≠ 286) : StrOk [(kd, v)] := fun p hp => by
  simp at hp; subst hp; exact fun e => absurd e h
theorem no_one {b : List UInt8} (h : MineK.subB [37, 113] b = false) : fmts [(286, .bytes b)] = [] := by simp [fmts, fmt1, h]
theorem at_one {kd : Int} {v : MV} (h : isAtom v = true) : ∀ p ∈ [(kd, v)], isAtom p.2 = true := fun p hp => by simp at hp; subst hp; exact h
theorem P_x : PO [120] [120] [(285, .bytes [120])] 1 := ⟨fun vs i r o k => .lit (by decide) k, fun r us ok k => .tok .refl (.word (wd := [120]) (by decide) (by decide) (by simpa [okH] using ok) (by decide +kernel)) k, str_kd (by decide), by simp [fmts, fmt1], at_one rfl, by decide, by decide, by decide⟩
theorem P_sp : PO [32] [32] [] 0 := ⟨fun vs i r o k => .lit (by decide) k, fun r us _ k => lex_sp k, str_nil, rfl, (fun p hp => nomatch hp), by decide, by decide, by decide⟩
theorem P_eq : PO [61] [61] [(61, .none)] 2 := ⟨fun vs i r o k => .lit (by decide) k, fun r us ok k => .tok .refl (.eq1 (by simpa [okH] using ok)) k, str_kd (by decide), by simp [fmts, fmt1], at_one rfl, by decide, by decide, by decide⟩
theorem P_nl : PO [10] [10] [] 3 := ⟨fun vs i r o k => .lit (by decide) k, fun r us ok k => lex_nl (by simpa [okH] using ok) k, str_nil, rfl, (fun p hp => nomatch hp), by decide, by decide, by decide⟩
theorem P_pc : PO [37, 37] [37] [(37, .none)] 0 := ⟨fun vs i r o k => .pct k, fun r us ok k => .tok .refl .pct k, str_kd (by decide), by simp [fmts, fmt1], at_one rfl, by decide, by decide, by decide⟩
theorem P_oct {c : UInt8} (h : plainOct c) : PO [39, c, 39] [39, c, 39] [(286, .bytes [c])] 0 := by
  obtain ⟨h1, h2, h3, h4, h5⟩ := h
  refine ⟨fun vs i r o k => .lit (by decide) (.lit h5 (.lit (by decide) k)), fun r us ok k => .tok .refl (.str (.inr rfl) (.plain h1 h2 ?_ .nil)) k, str_one _, no_one (subB_one c), at_one rfl, by simp, by simp, by simp⟩
  unfold isNL
  simp [← UInt8.toNat_inj] at h3 h4 ⊢
  omega
theorem P_cm : PO [45, 45, 10] [45, 45, 10] [] 3 := ⟨fun vs i r o k => .lit (by decide) (.lit (by decide) (.lit (by decide) k)), fun r us ok k => LexR.sk .cs (lex_nl (by simpa [okH] using ok) k), str_nil, rfl, (fun p hp => nomatch hp), by decide, by decide, by decide⟩
theorem P_np : PO [39, 92, 110, 37, 37, 39] [39, 92, 110, 37, 39] [(286, .bytes [10, 37])] 0 :=
  ⟨fun vs i r o k => .lit (by decide) (.lit (by decide) (.lit (by decide) (.pct (.lit (by decide) k)))), fun r us ok k => .tok .refl (.str (.inr rfl) (.esc .n (.plain (by decide) (by decide) (by decide) .nil))) k, str_one _, no_one (by decide +kernel), at_one rfl, by decide, by decide, by decide⟩
theorem P_pa : PO [40] [40] [(40, .none)] 0 := ⟨fun vs i r o k => .lit (by decide) k, fun r us ok k => .tok .refl .par k, str_kd (by decide), by simp [fmts, fmt1], at_one rfl, by decide, by decide, by decide⟩
theorem P_7 : PO [55, 32] [55, 32] [(284, .int 7)] 0 := ⟨fun vs i r o k => .lit (by decide) (.lit (by decide) k), fun r us ok k => .tok .refl .num (lex_sp k), str_kd (by decide), by simp [fmts, fmt1], at_one rfl, by decide, by decide, by decide⟩
theorem P_cr : PO [13] [13] [] 4 := ⟨fun vs i r o k => .lit (by decide) k, fun r us ok k => lex_cr (by simpa [okH] using ok) k, str_nil, rfl, (fun p hp => nomatch hp), by decide, by decide, by decide⟩
theorem P_dd : PO [46, 46, 32] [46, 46, 32] [(278, .none)] 0 := ⟨fun vs i r o k => .lit (by decide) (.lit (by decide) (.lit (by decide) k)), fun r us ok k => .tok .refl .dots (lex_sp k), str_kd (by decide), by simp [fmts, fmt1], at_one rfl, by decide, by decide, by decide⟩
theorem P_l1 : PO [91, 91, 97, 10, 93, 93] [91, 91, 97, 10, 93, 93] [(286, .bytes [97, 10])] 0 :=
  ⟨fun vs i r o k => .lit (by decide) (.lit (by decide) (.lit (by decide) (.lit (by decide) (.lit (by decide) (.lit (by decide) k))))), fun r us ok k => .tok .refl .long k, str_one _, no_one (by decide +kernel), at_one rfl, by decide, by decide, by decide⟩
theorem P_l2 : PO [45, 45, 91, 91, 37, 37, 10, 93, 93] [45, 45, 91, 91, 37, 10, 93, 93] [] 0 :=
  ⟨fun vs i r o k => .lit (by decide) (.lit (by decide) (.lit (by decide) (.lit (by decide) (.pct (.lit (by decide) (.lit (by decide) (.lit (by decide) k))))))), fun r us ok k => LexR.sk .cl k, str_nil, rfl, (fun p hp => nomatch hp), by decide, by decide, by decide⟩
/-- a piece, with what may follow it and how it begins -/
structure PI (p F : List UInt8) (ts : List (Int × MV)) (c : Nat) (h : Int) : Prop where
  po : PO p F ts c
  hh : ∀ r, hd (F ++ r) = h
  i1 : c = 1 → p = [120]
  i2 : c = 2 → p = [61]
  i3 : c = 3 → p = [10] ∨ p = [45, 45, 10]
  i4 : c = 4 → p = [13]
  ic : c ≤ 4
  j1 : isNam h = true → p = [120] ∨ p = [55, 32]
  j2 : h = 61 → p = [61]
  j3 : h = 13 → p = [13]
  j4 : h = 10 → p = [10]
theorem piece_ok {p : List UInt8} (h : IsPiece p) : ∃ F ts c h, PI p F ts c h := by
  rcases h with h | ⟨c, hc, rfl⟩ | h
  · unfold PCS at h
    simp only [List.mem_cons, List.not_mem_nil, or_false] at h
    rcases h with rfl | rfl | rfl | rfl | rfl | rfl | rfl | rfl | rfl | rfl | rfl | rfl | rfl | rfl
    · exact ⟨_, _, _, 120, P_x, fun r => rfl, by decide, by decide, by decide, by decide, by decide, by decide, by decide, by decide, by decide⟩
    · exact ⟨_, _, _, 32, P_sp, fun r => rfl, by decide, by decide, by decide, by decide, by decide, by decide, by decide, by decide, by decide⟩
    · exact ⟨_, _, _, 61, P_eq, fun r => rfl, by decide, by decide, by decide, by decide, by decide, by decide, by decide, by decide, by decide⟩
    · exact ⟨_, _, _, 10, P_nl, fun r => rfl, by decide, by decide, by decide, by decide, by decide, by decide, by decide, by decide, by decide⟩
    · exact ⟨_, _, _, 37, P_pc, fun r => rfl, by decide, by decide, by decide, by decide, by decide, by decide, by decide, by decide, by decide⟩
    · exact ⟨_, _, _, 39, P_oct (c := 97) (by unfold plainOct; decide), fun r => rfl, by decide, by decide, by decide, by decide, by decide, by decide, by decide, by decide, by decide⟩
    · exact ⟨_, _, _, 45, P_cm, fun r => rfl, by decide, by decide, by decide, by decide, by decide, by decide, by decide, by decide, by decide⟩
    · exact ⟨_, _, _, 39, P_np, fun r => rfl, by decide, by decide, by decide, by decide, by decide, by decide, by decide, by decide, by decide⟩
    · exact ⟨_, _, _, 40, P_pa, fun r => rfl, by decide, by decide, by decide, by decide, by decide, by decide, by decide, by decide, by decide⟩
    · exact ⟨_, _, _, 55, P_7, fun r => rfl, by decide, by decide, by decide, by decide, by decide, by decide, by decide, by decide, by decide⟩
    · exact ⟨_, _, _, 39, P_oct (c := 34) (by unfold plainOct; decide), fun r => rfl, by decide, by decide, by decide, by decide, by decide, by decide, by decide, by decide, by decide⟩
    · exact ⟨_, _, _, 13, P_cr, fun r => rfl, by decide, by decide, by decide, by decide, by decide, by decide, by decide, by decide, by decide⟩
    · exact ⟨_, _, _, 39, P_oct (c := 0) (by unfold plainOct; decide), fun r => rfl, by decide, by decide, by decide, by decide, by decide, by decide, by decide, by decide, by decide⟩
    · exact ⟨_, _, _, 46, P_dd, fun r => rfl, by decide, by decide, by decide, by decide, by decide, by decide, by decide, by decide, by decide⟩
  · exact ⟨_, _, _, 39, P_oct hc, fun r => rfl, (fun e => nomatch e), (fun e => nomatch e), (fun e => nomatch e), (fun e => nomatch e), by decide, fun e => absurd e (by decide), (fun e => nomatch e), (fun e => nomatch e), (fun e => nomatch e)⟩
  · unfold LNG at h
    simp only [List.mem_cons, List.not_mem_nil, or_false] at h
    rcases h with rfl | rfl
    · exact ⟨_, _, _, 91, P_l1, fun r => rfl, by decide, by decide, by decide, by decide, by decide, by decide, by decide, by decide, by decide⟩
    · exact ⟨_, _, _, 45, P_l2, fun r => rfl, by decide, by decide, by decide, by decide, by decide, by decide, by decide, by decide, by decide⟩

end Mine

end
section
open PySem PySem.W PyProof.Rows PySem.Calls
set_option maxHeartbeats 4000000
set_option linter.unusedVariables false
set_option linter.unusedSimpArgs false
namespace Mine
open MineK
open PySem.Challenge (pw_xm0629_01 rw_xm0629_01)
theorem Q_xx : PartOk ([120] ++ [120]) [120, 120] [(285, .bytes [120, 120])] := (⟨fun vs i r o k => .lit (by decide) (.lit (by decide) k), fun r us ok k => .tok .refl (.word (wd := [120, 120]) (by decide) (by decide) (by simpa [okH] using ok) (by decide +kernel)) k, str_kd (by decide), by simp [fmts, fmt1], at_one rfl, by decide, by decide, by decide⟩ : PO ([120] ++ [120]) [120, 120] [(285, .bytes [120, 120])] 1).part
theorem Q_x7 : PartOk ([120] ++ [55, 32]) [120, 55, 32] [(285, .bytes [120, 55])] := (⟨fun vs i r o k => .lit (by decide) (.lit (by decide) (.lit (by decide) k)), fun r us ok k => .tok .refl (.word (wd := [120, 55]) (by decide) (by decide) (by show isNam 32 = false; decide) (by decide +kernel)) (lex_sp k), str_kd (by decide), by simp [fmts, fmt1], at_one rfl, by decide, by decide, by decide⟩ : PO ([120] ++ [55, 32]) [120, 55, 32] [(285, .bytes [120, 55])] 0).part
theorem Q_eqeq : PartOk ([61] ++ [61]) [61, 61] [(280, .none)] := (⟨fun vs i r o k => .lit (by decide) (.lit (by decide) k), fun r us ok k => .tok .refl .eq2 k, str_kd (by decide), by simp [fmts, fmt1], at_one rfl, by decide, by decide, by decide⟩ : PO ([61] ++ [61]) [61, 61] [(280, .none)] 0).part
theorem Q_nlcr : PartOk ([10] ++ [13]) [10, 13] [] := (⟨fun vs i r o k => .lit (by decide) (.lit (by decide) k), fun r us ok k => lex_nlcr k, str_nil, rfl, (fun p hp => nomatch hp), by decide, by decide, by decide⟩ : PO ([10] ++ [13]) [10, 13] [] 0).part
theorem Q_crnl : PartOk ([13] ++ [10]) [13, 10] [] := (⟨fun vs i r o k => .lit (by decide) (.lit (by decide) k), fun r us ok k => lex_crnl k, str_nil, rfl, (fun p hp => nomatch hp), by decide, by decide, by decide⟩ : PO ([13] ++ [10]) [13, 10] [] 0).part
theorem Q_cmcr : PartOk ([45, 45, 10] ++ [13]) [45, 45, 10, 13] [] := (⟨fun vs i r o k => .lit (by decide) (.lit (by decide) (.lit (by decide) (.lit (by decide) k))), fun r us ok k => LexR.sk .cs (lex_nlcr k), str_nil, rfl, (fun p hp => nomatch hp), by decide, by decide, by decide⟩ : PO ([45, 45, 10] ++ [13]) [45, 45, 10, 13] [] 0).part
theorem Q_nil : PartOk [] [] [] := (⟨fun vs i r o k => k, fun r us ok k => k, str_nil, rfl, (fun p hp => nomatch hp), by decide, by decide, by decide⟩ : PO [] [] [] 0).part
theorem pair_ok {p q : List UInt8} (hp : IsPiece p) (hq : IsPiece q) : ∃ F ts, PartOk (p ++ q) F ts := by
  obtain ⟨F, ts, c, h, a⟩ := piece_ok hp
  obtain ⟨F', ts', c', h', b⟩ := piece_ok hq
  cases ok : okH c h' with
  | true => exact ⟨_, _, a.po.app b.po b.hh ok⟩
  | false =>
    have hc := a.ic
    have hcs : c = 0 ∨ c = 1 ∨ c = 2 ∨ c = 3 ∨ c = 4 := by omega
    rcases hcs with rfl | rfl | rfl | rfl | rfl
    · cases ok
    · have e1 := a.i1 rfl
      subst e1
      have hn : isNam h' = true := by simpa [okH] using ok
      rcases b.j1 hn with e2 | e2 <;> subst e2
      · exact ⟨_, _, Q_xx⟩
      · exact ⟨_, _, Q_x7⟩
    · have e1 := a.i2 rfl
      subst e1
      have e2 := b.j2 (by simpa [okH] using ok)
      subst e2
      exact ⟨_, _, Q_eqeq⟩
    · have e2 := b.j3 (by simpa [okH] using ok)
      subst e2
      rcases a.i3 rfl with e1 | e1 <;> subst e1
      · exact ⟨_, _, Q_nlcr⟩
      · exact ⟨_, _, Q_cmcr⟩
    · have e1 := a.i4 rfl
      subst e1
      have e2 := b.j4 (by simpa [okH] using ok)
      subst e2
      exact ⟨_, _, Q_crnl⟩
theorem part_ok {P : List UInt8} (h : IsPart P) : ∃ F ts, PartOk P F ts := by
  obtain ⟨ps, h1, h2, rfl⟩ := h
  match ps, h1, h2 with
  | [], _, _ => exact ⟨_, _, Q_nil⟩
  | [p], h1, _ =>
    obtain ⟨F, ts, c, h, a⟩ := piece_ok (h1 p (.head _))
    have e : [p].flatten = p := by simp
    rw [e]
    exact ⟨_, _, a.po.part⟩
  | [p, q], h1, _ =>
    have e : [p, q].flatten = p ++ q := by simp
    rw [e]
    exact pair_ok (h1 p (.head _)) (h1 q (.tail _ (.head _)))
  | _ :: _ :: _ :: _, _, h2 => exact absurd h2 (by simp)

end Mine

end
section
open PySem PySem.W PyProof.Rows PySem.Calls
set_option maxHeartbeats 4000000
set_option linter.unusedVariables false
set_option linter.unusedSimpArgs false
namespace Mine
open MineK
open PySem.Challenge (pw_xm0629_01 rw_xm0629_01)
/-! ## The link with the head -/
noncomputable def cellO : Obj := { cls := .type "cell", data := .cell none }
theorem law_names (H : Heap) : pushCells H (fscope lawD).names = (((H.push cellO).push cellO).push cellO).push cellO := by kernel_rfl
theorem law_cells (n : Nat) : cellsFrom n (fscope lawD).names [] = ([("other", n + 1 + 1 + 1), ("one", n + 1 + 1), ("found", n + 1), ("limits", n)] : List (Str × Addr)) := by kernel_rfl
section
variable {M : Model} {A : Around} {E : Value → Shared → Prop} {s : Shared}
theorem newEnvLaw {globals : Addr} {qual : Str} {func : Option Addr} {code : Value} {builtins : Addr} {v : Value} {Q : Env → Shared → Prop}
    (hQ : ∀ h' t', h'.Ns s.heap.objs.size (fun y => if y = "script" then some v else none) → (∀ b o, s.heap.get? b = some o → h'.get? b = some o) →
      h'.get? (s.heap.objs.size + 1) = some cellO → h'.get? (s.heap.objs.size + 1 + 1) = some cellO → h'.get? (s.heap.objs.size + 1 + 1 + 1) = some cellO → h'.get? (s.heap.objs.size + 1 + 1 + 1 + 1) = some cellO →
      Q (newEnv (fscope lawD) s.heap.objs.size globals (cellsFrom (s.heap.objs.size + 1) (fscope lawD).names []) qual func code none builtins) ⟨h', s.gens, s.drawn, t', s.os⟩) :
    PySem.wpAny M A (newFunctionEnv (fscope lawD) globals [] [("script", v)] qual func code none builtins) Q E s := by
  simp only [newFunctionEnv, Option.isSome_none, Bool.false_eq_true, if_false]
  refine PySem.wpAny_bind (PySem.wpAny_alloc ?_)
  refine PySem.wpAny_bind (wpAny_layCells _ (fun name kind cells => by cases hkc : kind == NameKind.cell <;> simp [hkc]) _ _ _ _ ?_)
  rw [show ({ s with heap := s.heap.push { cls := .type "frame", data := .dict #[] } } : Shared).heap.objs.size = s.heap.objs.size + 1 from Heap.size_push ..]
  rw [List.forIn_cons]
  have hk : (fscope lawD).kind = .function := by kernel_rfl
  have hl : Env.kindOf (newEnv (fscope lawD) s.heap.objs.size globals (cellsFrom (s.heap.objs.size + 1) (fscope lawD).names []) qual func code none builtins) "script" = some .local := by
    show (fscope lawD).names.lookup ("script" : Str) = some NameKind.local
    kernel_rfl
  generalize hH : s.heap.push { cls := .type "frame", data := .dict #[] } = H
  have hz : H.objs.size = s.heap.objs.size + 1 := by rw [← hH, Heap.size_push]
  have hns : H.Ns s.heap.objs.size (fun _ => none) := hH ▸ Heap.Ns.new s.heap (.type "frame")
  have old : ∀ b o, s.heap.get? b = some o → H.get? b = some o := fun b o e => hH ▸ Heap.get?_push_of_some _ e
  have keeps := pushCells_keeps (fscope lawD).names H
  have z1 : (H.push cellO).objs.size = s.heap.objs.size + 1 + 1 := by rw [Heap.size_push, hz]
  have z2 : ((H.push cellO).push cellO).objs.size = s.heap.objs.size + 1 + 1 + 1 := by rw [Heap.size_push, z1]
  have z3 : (((H.push cellO).push cellO).push cellO).objs.size = s.heap.objs.size + 1 + 1 + 1 + 1 := by rw [Heap.size_push, z2]
  have g1 : (pushCells H (fscope lawD).names).get? (s.heap.objs.size + 1) = some cellO := by
    rw [law_names, ← hz]; exact Heap.get?_push_of_some _ (Heap.get?_push_of_some _ (Heap.get?_push_of_some _ (Heap.get?_push_size _ rfl)))
  have g2 : (pushCells H (fscope lawD).names).get? (s.heap.objs.size + 1 + 1) = some cellO := by
    rw [law_names, ← z1]; exact Heap.get?_push_of_some _ (Heap.get?_push_of_some _ (Heap.get?_push_size _ rfl))
  have g3 : (pushCells H (fscope lawD).names).get? (s.heap.objs.size + 1 + 1 + 1) = some cellO := by
    rw [law_names, ← z2]; exact Heap.get?_push_of_some _ (Heap.get?_push_size _ rfl)
  have g4 : (pushCells H (fscope lawD).names).get? (s.heap.objs.size + 1 + 1 + 1 + 1) = some cellO := by
    rw [law_names, ← z3]; exact Heap.get?_push_size _ rfl
  refine PySem.wpAny_bind (PySem.wpAny_bind (PySem.wpAny_bind (wpAny_storeName_local (env := newEnv (fscope lawD) s.heap.objs.size globals (cellsFrom (s.heap.objs.size + 1) (fscope lawD).names []) qual func code none builtins) hl (hns.keeps keeps) (fun h' hn' hs' => ?_) (by show ((fscope lawD).kind == _ || _) = false; rw [hk]; rfl))))
  refine PySem.wpAny_pure ?_
  dsimp only
  rw [List.forIn_nil]
  refine PySem.wpAny_pure (PySem.wpAny_pure ?_)
  have ne : ∀ k : Nat, s.heap.objs.size + (k + 1) ≠ s.heap.objs.size := fun k => by omega
  refine hQ h' _ hn' (fun b o e => ?_) ?_ ?_ ?_ ?_
  · exact hs'.extBut b o (Nat.ne_of_lt (Heap.lt_size e)) (keeps _ _ (old b o e))
  · exact hs'.extBut _ _ (ne 0) g1
  · exact hs'.extBut _ _ (ne 1) g2
  · exact hs'.extBut _ _ (ne 2) g3
  · exact hs'.extBut _ _ (ne 3) g4
end

end Mine

end
section
open PySem PySem.W PyProof.Rows PySem.Calls
set_option maxHeartbeats 4000000
set_option linter.unusedVariables false
set_option linter.unusedSimpArgs false
namespace Mine
open MineK
open PySem.Challenge (pw_xm0629_01 rw_xm0629_01)
section
variable {w : World} {s : Shared}
theorem law_call {A : Around} {v : Value} {R : Result → Shared → Prop} (Y : YP w s.heap) (hlim : s.heap.NoLimit) (hroom : A.depth < recursionLimit)
    (h : ∀ h' t', h'.Ns s.heap.objs.size (fun y => if y = "script" then some v else none) → (∀ b o, s.heap.get? b = some o → h'.get? b = some o) →
      h'.get? (s.heap.objs.size + 1) = some cellO → h'.get? (s.heap.objs.size + 1 + 1) = some cellO → h'.get? (s.heap.objs.size + 1 + 1 + 1) = some cellO → h'.get? (s.heap.objs.size + 1 + 1 + 1 + 1) = some cellO →
      ∀ X : Value → Shared → Prop, wpAny (model pw_xm0629_01 w) (A.deeper (lawEnv s.heap.objs.size 696 (s.heap.objs.size + 1) (s.heap.objs.size + 1 + 1) (s.heap.objs.size + 1 + 1 + 1) (s.heap.objs.size + 1 + 1 + 1 + 1) (.str "law_xm0629_01" 1184) (.ref 695)))
        (execs (fbody lawD) (lawEnv s.heap.objs.size 696 (s.heap.objs.size + 1) (s.heap.objs.size + 1 + 1) (s.heap.objs.size + 1 + 1 + 1) (s.heap.objs.size + 1 + 1 + 1 + 1) (.str "law_xm0629_01" 1184) (.ref 695)))
        (fun f s' => R (.ok (.ret (match f with | .ret v => v | _ => .none))) s') X ⟨h', s.gens, s.drawn, t', s.os⟩) :
    codeAny (model pw_xm0629_01 w) A (.call (.ref 696) ⟨[v], []⟩) R s := by
  have ho : s.heap.get? 696 = some (fnO lawD "law" "law" .none (.str "law_xm0629_01" 1184) (.ref 695)) := Y.objs _ _ (by kernel_rfl)
  have hcd : s.heap.CodeRec (.ref 695) "law" := codeRec_of Y.objs (by kernel_rfl)
  have hco : (fscope lawD).isCoroutine = false := by kernel_rfl
  have hgen : (fscope lawD).isGenerator = false := by kernel_rfl
  have hbind : bindArgs (fnOf "law" "law" (fargs lawD) (fbody lawD) (fscope lawD) .none .none .none (.str "law_xm0629_01" 1184) none (.ref 695) .none) ⟨[v], []⟩ = pure ([("script", v)] : List (Str × Value)) := by kernel_rfl
  refine codeAny_of_tree rfl ?_
  show wpAny _ A.in1 (callAny (.ref 696) ⟨[v], []⟩) _ _ s
  simp only [callAny]
  refine wpAny_bind (wpAny_load ho ?_)
  obtain ⟨c, oc, vs, tq, hc, hoc, hdc, hq⟩ := hcd
  have hdata : (fnO lawD "law" "law" .none (.str "law_xm0629_01" 1184) (.ref 695)).data = .func (fnOf "law" "law" (fargs lawD) (fbody lawD) (fscope lawD) .none .none .none (.str "law_xm0629_01" 1184) none (.ref 695) .none) := rfl
  have e1 : (fnOf "law" "law" (fargs lawD) (fbody lawD) (fscope lawD) .none .none .none (.str "law_xm0629_01" 1184) none (.ref 695) .none).scope.isCoroutine = false := hco
  have e2 : (fnOf "law" "law" (fargs lawD) (fbody lawD) (fscope lawD) .none .none .none (.str "law_xm0629_01" 1184) none (.ref 695) .none).scope.isGenerator = false := hgen
  have e3 : (fnOf "law" "law" (fargs lawD) (fbody lawD) (fscope lawD) .none .none .none (.str "law_xm0629_01" 1184) none (.ref 695) .none).body = .stmts (fbody lawD) := rfl
  cases hc
  simp only [hdata, callFunction, e1, e2, e3]
  refine wpAny_bind (m := field (.ref 695) 1) (lift (wpAny_field hoc hdc hq (wpAny_bind (wpAny_pure ?_))))
  rw [hbind]
  refine wpAny_bind (wpAny_pure ?_)
  refine wpAny_bind (lift (newEnvLaw fun h' t' hn hk g1 g2 g3 g4 => ?_))
  refine wpAny_bind (lift (PySem.wpAny_enterFrame (hlim.keeps hk) hroom ?_))
  rw [law_cells]
  refine wpAny_pure (And.intro rfl ?_)
  exact codeAny_func fun X => h h' t' hn hk g1 g2 g3 g4 X
end
theorem free_ok : ∀ x ∈ freeNames, x ∉ startupNames ∧ x ∉ looseW (lawOnly pw_xm0629_01) (others pw_xm0629_01) ∧ x ∉ (recsOf (lawOnly pw_xm0629_01)).map (·.name) ∧ x ∉ (litsOf (lawOnly pw_xm0629_01)).map (·.1) ∧ x ∉ (clssOf (lawOnly pw_xm0629_01) (looseW (lawOnly pw_xm0629_01) (others pw_xm0629_01))).map (·.name) := by
  decide +kernel
theorem ints_read {R : WRecords} {cl : Str → Option Addr} {h : Heap} : ∀ {vs : List Value} {xs : List WData} {as : List Addr}, ReadsAllW R cl h vs xs as → WShape.hasItems R xs .int = true → ∃ ns : List Int, ns.length = xs.length ∧ VRs (ns.map .int) vs
  | _, _, _, .nil, _ => ⟨[], rfl, trivial⟩
  | _, _, _, .cons hr hrs, hi => by
    rename_i v vs d ds as bs
    have hi' : WShape.has R d .int = true ∧ WShape.hasItems R ds .int = true := by simpa [WShape.hasItems] using hi
    obtain ⟨i, rfl⟩ := hasW_int hi'.1
    obtain ⟨ns, h1, h2⟩ := ints_read hrs hi'.2
    cases hr
    exact ⟨i :: ns, by simp [h1], ⟨_, rfl⟩, h2⟩
theorem pre_len {xs : List WData} (h : rw_xm0629_01.row.toRowW.claim.pre [.list xs] = true) : xs.length ≤ 63 := by
  have h2 := (pre_splitW h).2
  have e : rw_xm0629_01.row.pre = .and (.not (.lt (.lit (.int 63)) (.len (.arg 0)))) (.lit (.bool true)) := rfl
  rw [e] at h2
  rcases Nat.lt_or_ge 63 xs.length with q | q
  · exfalso
    have e2 : decide ((63 : Int) < (xs.length : Int)) = true := by simp; omega
    have e3 : Num.less? (WData.int 63) (WData.int xs.length) = some true := by
      show some (decide ((63 : Int) < (xs.length : Int))) = some true
      rw [e2]
    simp [WTm.holds, WTm.value, less?, e3] at h2
  · exact q
theorem post_ok (args ds : List WData) : rw_xm0629_01.row.toRowW.claim.post args (.bool true) ds = true := by
  have e : rw_xm0629_01.row.post = .eq .res (.lit (.bool true)) := rfl
  show (WShape.has rw_xm0629_01.row.toRowW.records (.bool true) rw_xm0629_01.row.toRowW.returns && WTm.holds rw_xm0629_01.row.toRowW.records rw_xm0629_01.row.toRowW.post { args := args, res := some (.bool true), after := ds }) = true
  refine Bool.and_eq_true_iff.mpr ⟨?_, ?_⟩
  · show WShape.has _ (.bool true) .bool = true
    simp [WShape.has, WShape.arms]
  · show WTm.holds _ rw_xm0629_01.row.post _ = true
    rw [e]
    simp [WTm.holds, WTm.value, W.same]
theorem walk : WalkR (lawOnly pw_xm0629_01) (others pw_xm0629_01) (XL (lawOnly pw_xm0629_01) []) YP rw_xm0629_01.row.toRowW dLaw := by
  intro w s₀ s₁ mg mb G Y a o pm cd doc dV kV ho hdata hcd hm hgens args vals as hpre hlay hreads
  have hg : s₁.heap.Ns mainGlobals mg := G.T.g
  have em : mg = s₁.heap.nsMap mainGlobals := hg.eq_nsMap
  have ea : a = 696 := by
    have h1 := Y.names ("law", .ref 696) (by decide +kernel)
    have h2 : mg "law" = some (.ref a) := hm
    rw [em, h1] at h2
    cases h2; rfl
  subst ea
  obtain ⟨d, r, rfl, hd1, hr1⟩ := hasAllW_cons (pre_splitW hpre).1
  obtain rfl := hasAllW_nil hr1
  obtain ⟨xs, rfl, hit⟩ := hasW_list hd1
  have hlen := pre_len hpre
  cases hreads with
  | cons hr hrs =>
  cases hrs
  cases hr with
  | list h1 h2 h3 h4 =>
  rename_i l0 oL vsL nL asL
  obtain ⟨ns, hns, hvs⟩ := ints_read h4 hit
  have W : Wld w s₁.heap := ⟨Y, em ▸ hg, ⟨mb, G.T.b, G.T.builtins⟩, G.T.nolimit, fun x hx => by
    rw [← em]
    obtain ⟨f1, f2, f3, f4, f5⟩ := free_ok x hx
    exact (topRead_of G.T).free x f1 f2 f3 f4 f5⟩
  have hL : s₁.heap.IsList l0 vsL.toList.toArray := ⟨oL, h1, h2, nL, by rw [Array.toArray_toList]; exact h3⟩
  refine wpAny_call (law_call Y G.T.nolimit (by decide +kernel) fun h' t' hn hk g1 g2 g3 g4 X => ?_)
  have nn : ∀ i j : Nat, i ≠ j → s₁.heap.objs.size + i ≠ s₁.heap.objs.size + j := fun i j h e => h (by omega)
  have a12 : s₁.heap.objs.size + 1 ≠ s₁.heap.objs.size + 1 + 1 := nn 1 2 (by decide)
  have a13 : s₁.heap.objs.size + 1 ≠ s₁.heap.objs.size + 1 + 1 + 1 := nn 1 3 (by decide)
  have a14 : s₁.heap.objs.size + 1 ≠ s₁.heap.objs.size + 1 + 1 + 1 + 1 := nn 1 4 (by decide)
  have a23 : s₁.heap.objs.size + 1 + 1 ≠ s₁.heap.objs.size + 1 + 1 + 1 := nn 2 3 (by decide)
  have a24 : s₁.heap.objs.size + 1 + 1 ≠ s₁.heap.objs.size + 1 + 1 + 1 + 1 := nn 2 4 (by decide)
  have a34 : s₁.heap.objs.size + 1 + 1 + 1 ≠ s₁.heap.objs.size + 1 + 1 + 1 + 1 := nn 3 4 (by decide)
  have aL : ∀ i : Nat, s₁.heap.objs.size + (i + 1) ≠ s₁.heap.objs.size := fun i => by omega
  have fr : ∀ i : Nat, s₁.heap.get? (s₁.heap.objs.size + i) = none := fun i => by
    cases e : s₁.heap.get? (s₁.heap.objs.size + i) with
    | none => rfl
    | some q => exact absurd (Heap.lt_size e) (Nat.not_lt.mpr (Nat.le_add_right _ _))
  let σ : St := (((St.upd (fun _ => none) (s₁.heap.objs.size + 1) (.cell none)).upd (s₁.heap.objs.size + 1 + 1) (.cell none)).upd (s₁.heap.objs.size + 1 + 1 + 1) (.cell none)).upd (s₁.heap.objs.size + 1 + 1 + 1 + 1) (.cell none)
  have q4 : σ (s₁.heap.objs.size + 1 + 1 + 1 + 1) = some (.cell none) := St.upd_same ..
  have q3 : σ (s₁.heap.objs.size + 1 + 1 + 1) = some (.cell none) := by show (St.upd _ _ _) _ = _; rw [St.upd_ne a34, St.upd_same]
  have q2 : σ (s₁.heap.objs.size + 1 + 1) = some (.cell none) := by show (St.upd _ _ _) _ = _; rw [St.upd_ne a24, St.upd_ne a23, St.upd_same]
  have q1 : σ (s₁.heap.objs.size + 1) = some (.cell none) := by show (St.upd _ _ _) _ = _; rw [St.upd_ne a14, St.upd_ne a13, St.upd_ne a12, St.upd_same]
  have cases4 : ∀ b q, σ b = some q → q = .cell none ∧ (b = s₁.heap.objs.size + 1 ∨ b = s₁.heap.objs.size + 1 + 1 ∨ b = s₁.heap.objs.size + 1 + 1 + 1 ∨ b = s₁.heap.objs.size + 1 + 1 + 1 + 1) := fun b q e => by
    have e : (if b = s₁.heap.objs.size + 1 + 1 + 1 + 1 then some (MObj.cell none) else if b = s₁.heap.objs.size + 1 + 1 + 1 then some (.cell none) else if b = s₁.heap.objs.size + 1 + 1 then some (.cell none) else if b = s₁.heap.objs.size + 1 then some (.cell none) else none) = some q := e
    split at e
    · cases e; exact ⟨rfl, .inr (.inr (.inr ‹_›))⟩
    · split at e
      · cases e; exact ⟨rfl, .inr (.inr (.inl ‹_›))⟩
      · split at e
        · cases e; exact ⟨rfl, .inr (.inl ‹_›)⟩
        · split at e
          · cases e; exact ⟨rfl, .inl ‹_›⟩
          · cases e
  have repc : ∀ {b : Addr}, h'.get? b = some cellO → Rep h' b (.cell none) := fun {b} e => ⟨none, e, trivial⟩
  have hR : Rel (fun b => s₁.heap.get? b) s₁.heap.objs.size ([("script", .ref l0)] : Nm) σ h' := by
    refine ⟨⟨hk, fun b q e => ?_, fun b q e => ?_⟩, ⟨_, hn, fun x => ?_⟩, ?_, fr 0⟩
    · obtain ⟨rfl, rfl | rfl | rfl | rfl⟩ := cases4 b q e
      · exact repc g1
      · exact repc g2
      · exact repc g3
      · exact repc g4
    · obtain ⟨rfl, rfl | rfl | rfl | rfl⟩ := cases4 b q e
      · exact fr 1
      · exact fr 2
      · exact fr 3
      · exact fr 4
    · show ORel (if x = "script" then some (.ref l0) else none) (if x = "script" then some (.ref l0) else none)
      split
      · rfl
      · trivial
    · cases e : σ s₁.heap.objs.size with
      | none => rfl
      | some q =>
        obtain ⟨-, z | z | z | z⟩ := cases4 _ q e
        · exact absurd z.symm (aL 0)
        · exact absurd z.symm (aL 1)
        · exact absurd z.symm (aL 2)
        · exact absurd z.symm (aL 3)
  refine C_law (a := 696) (n := 0) W (fun P hP => part_ok hP) hL hvs (by omega) q1 q2 q3 q4 a12 a13 a14 a23 a24 a34 (fun b => s₁.heap.get? b) _ ⟨h', s₁.gens, s₁.drawn, t', s₁.os⟩ _ _ (fun b o q => q) ?_ hR fun fl f ρ' σ' h'' t'' hk' hf R' => ?_
  · refine ⟨?_, ?_, rfl⟩
    · show callerA.depth + 1 + 4 * 20 + 4 < _
      decide +kernel
    · show callerA.units + 3 + 16 * 20 + 16 < _
      decide +kernel
  · cases fl with
    | ret v =>
      have hk' : v = .bool true := hk'
      subst hk'
      obtain ⟨u, rfl, hu⟩ := hf
      cases hu
      refine ⟨.inl ⟨.bool true, .bool true, [], rfl, fun _ => rfl, ReadsW.bool _, post_ok _ _, fun _ => ⟨List.nodup_nil, fun a ha => nomatch ha⟩⟩, OldK.of_keep fun b o q => R'.keep b o q, rfl, AllBare.of_eq hgens⟩
    | next => exact absurd (show MV.none = .bool true from hk') (fun e => nomatch e)
    | brk => exact absurd (show MV.none = .bool true from hk') (fun e => nomatch e)
    | cont => exact absurd (show MV.none = .bool true from hk') (fun e => nomatch e)
theorem done : rw_xm0629_01.Holds := head3 walk

end Mine

end
theorem PySem.Challenge.cw_xm0629_01_holds : PySem.Challenge.rw_xm0629_01.Holds := by
  exact Mine.done
