import PyProof.Rows.All
import Wide.All
import OpenK.AllK
import Wide.FinOn
import PySem.Challenge.RW_np0140_01
set_option Elab.async false
set_option maxRecDepth 100000
set_option maxHeartbeats 8000000
set_option autoImplicit false
set_option linter.unusedVariables false
set_option linter.unusedSimpArgs false
set_option pp.deepTerms false
set_option genSizeOf false
set_option compiler.extract_closed false
namespace Mine
section
open PySem PySem.W PyProof.Rows
section
variable {tb : String → Option Builtin} {p : Program} {w : World} {n₀ : Nat} {ann : Option Value}
noncomputable def topRunT (tb : String → Option Builtin) (p : Program) (w : World) (n₀ : Nat) (ann : Option Value) : Nat → SharedT → Thread → Option SharedT
  | 0, _, _ => none
  | n + 1, s, t => match through t with
    | true => some s
    | false => match PySem.W.Fast.tw6613529449190102663 n₀ ann t with
      | false => none
      | true => match PySem.W.Fast.tw10156331382660048174 (PySem.W.Fast.tw11892475500146522536 tb) p w s t with
        | some (s', t') => topRunT tb p w n₀ ann n s' t'
        | none => none
theorem topRun_of : ∀ {n : Nat} {s s' : SharedT} {t : Thread}, topRunT tb p w n₀ ann n s t = some s' → topRun tb p w n₀ ann n s.abs t = some s'.abs
  | 0, _, _, _, h => by cases h
  | n + 1, s, s', t, h => by
    unfold topRunT at h
    rw [← PySem.W.Fast.te10156331382660048174, ← PySem.W.Fast.te11892475500146522536, ← PySem.W.Fast.te6613529449190102663] at h
    unfold topRun
    cases ht : through t with
    | true => rw [ht] at h; cases h; rfl
    | false =>
      rw [ht] at h
      cases hk : stepOk n₀ ann t with
      | false => rw [hk] at h; cases h
      | true =>
        rw [hk] at h
        cases hs : stepT (denote tb) p w s t with
        | none => rw [hs] at h; cases h
        | some r => obtain ⟨s₂, t₂⟩ := r; rw [hs] at h; rw [stepT_spec hs]; exact topRun_of h
end
noncomputable abbrev pw : Program := PySem.Challenge.pw_np0140_01
noncomputable def bootT (P : Params) : BT :=
  .node (boot_o_0 P)
    (.node (boot_o_1 P) (.node (boot_o_3 P) (.node (boot_o_7 P) .nil .nil) .nil) (.node (boot_o_5 P) (.node (boot_o_9 P) .nil .nil) .nil))
    (.node (boot_o_2 P) (.node (boot_o_4 P) (.node (boot_o_8 P) .nil .nil) .nil) (.node (boot_o_6 P) (.node (boot_o_10 P) .nil .nil) .nil))
theorem boot_abs (P : Params) : absHeap (bootT P) 11 {} = boot_heap P := by kernel_rfl
noncomputable def vw : Program := { pw with main := { pw.main with body := pw.main.body.drop 80 } }
noncomputable def lo : List Str := (pw.main.scope.names.map (·.1)).dropLast
theorem head_open : ∀ w : World, (fencedOpening treeTable pw w 6000).map (fun s => (s.heap, s.gens, s.drawn, s.toks)) = some (boot_heap w.params, Array.mk [], boot_drawn, boot_toks) :=
  boot_open (by kernel_rfl) (by decide) (fun s => by kernel_rfl)
theorem head_size (P : Params) : ((boot_heap P).isNs mainGlobals && (#[] : Array GenState).size == 0, (boot_heap P).objs.size, (boot_heap P).nsMap mainGlobals "__annotations__") = (true, 11, some (.ref 6)) := by kernel_rfl
noncomputable def fO (s : Option Stmt) (q m : Str) (t : Nat) (d : Value) (c : Nat) : Obj := match s with
  | some (.FunctionDef n a b _ _ _ sc _ _ _) => { cls := .type "function", data := .func { name := n, qualname := q, params := a, body := .stmts b, scope := sc, globals := 3, closure := [], defaults := d, kwdefaults := .none, pyModule := .str m t, code := .ref c } }
  | _ => default
noncomputable def inCls (s : Option Stmt) : Option Stmt := match s with
  | some (.ClassDef _ _ _ b ..) => b.head?
  | _ => none
noncomputable def cO (n q : Str) (t : Nat) (ln ac : Int) (r1 r2 : Nat) (v1 v2 : Value) (r3 : Nat) (i : Int) (t2 : Nat) : Obj :=
  { cls := .type "code", data := .fields #[.str n t, .str q (t + 1), .str "/claim/cut.py" (t + 2), .int ln 0, .int ac 0, .int 0 0, .int 0 0, .int 3 0, .ref r1, .bool true, .int 181 0, .ref r2, .none, v1, v2, .ref r3, .int i 0, .int ln 0, .str "/claim/cut.py" t2] }
noncomputable def hp : Params → Frag := fun P =>
  (nat_lit 3, { cls := Value.type "dict", data := Data.dict #[{ hash := PyData.keyHash P ("__name__"), key := Value.str ("__name__") 165, val := Value.str ("law_np0140_01") 694 }, { hash := PyData.keyHash P ("__doc__"), key := Value.str ("__doc__") 166, val := Value.none }, { hash := PyData.keyHash P ("__package__"), key := Value.str ("__package__") 167, val := Value.none }, { hash := PyData.keyHash P ("__loader__"), key := Value.str ("__loader__") 168, val := Value.builtin "__main__.__loader__#opaque" }, { hash := PyData.keyHash P ("__spec__"), key := Value.str ("__spec__") 169, val := Value.none }, { hash := PyData.keyHash P ("__annotations__"), key := Value.str ("__annotations__") 170, val := Value.ref 6 }, { hash := PyData.keyHash P ("__builtins__"), key := Value.str ("__builtins__") 171, val := Value.ref 4 }, { hash := PyData.keyHash P ("__file__"), key := Value.str ("__file__") 173, val := Value.str ("/claim/cut.py") 172 }, { hash := PyData.keyHash P ("__cached__"), key := Value.str ("__cached__") 174, val := Value.none }, { hash := PyData.keyHash P ("TclFault"), key := Value.str ("TclFault") 217, val := Value.ref 31 }, { hash := PyData.keyHash P ("Misused"), key := Value.str ("Misused") 233, val := Value.ref 44 }, { hash := PyData.keyHash P ("Raised"), key := Value.str ("Raised") 277, val := Value.ref 65 }, { hash := PyData.keyHash P ("error"), key := Value.str ("error") 286, val := Value.ref 77 }, { hash := PyData.keyHash P ("is_blank"), key := Value.str ("is_blank") 295, val := Value.ref 84 }, { hash := PyData.keyHash P ("digit"), key := Value.str ("digit") 303, val := Value.ref 91 }, { hash := PyData.keyHash P ("digits_value"), key := Value.str ("digits_value") 314, val := Value.ref 98 }, { hash := PyData.keyHash P ("base_of"), key := Value.str ("base_of") 321, val := Value.ref 105 }, { hash := PyData.keyHash P ("whole_of"), key := Value.str ("whole_of") 333, val := Value.ref 112 }, { hash := PyData.keyHash P ("bool_of"), key := Value.str ("bool_of") 343, val := Value.ref 119 }, { hash := PyData.keyHash P ("need_bool"), key := Value.str ("need_bool") 351, val := Value.ref 126 }, { hash := PyData.keyHash P ("text_of"), key := Value.str ("text_of") 358, val := Value.ref 343 }, { hash := PyData.keyHash P ("text_of_numbers"), key := Value.str ("text_of_numbers") 359, val := Value.ref 133 }, { hash := PyData.keyHash P ("wide"), key := Value.str ("wide") 367, val := Value.ref 140 }, { hash := PyData.keyHash P ("hex_sign"), key := Value.str ("hex_sign") 381, val := Value.ref 147 }, { hash := PyData.keyHash P ("octal_sign"), key := Value.str ("octal_sign") 392, val := Value.ref 154 }, { hash := PyData.keyHash P ("backslash"), key := Value.str ("backslash") 403, val := Value.ref 161 }, { hash := PyData.keyHash P ("check_behind"), key := Value.str ("check_behind") 415, val := Value.ref 168 }, { hash := PyData.keyHash P ("braced_element"), key := Value.str ("braced_element") 426, val := Value.ref 175 }, { hash := PyData.keyHash P ("quoted_element"), key := Value.str ("quoted_element") 436, val := Value.ref 182 }, { hash := PyData.keyHash P ("bare_element"), key := Value.str ("bare_element") 446, val := Value.ref 189 }, { hash := PyData.keyHash P ("find_element"), key := Value.str ("find_element") 454, val := Value.ref 196 }, { hash := PyData.keyHash P ("split_list"), key := Value.str ("split_list") 463, val := Value.ref 203 }, { hash := PyData.keyHash P ("operand_fault"), key := Value.str ("operand_fault") 475, val := Value.ref 210 }, { hash := PyData.keyHash P ("operand"), key := Value.str ("operand") 484, val := Value.ref 217 }, { hash := PyData.keyHash P ("unary"), key := Value.str ("unary") 494, val := Value.ref 224 }, { hash := PyData.keyHash P ("need_divisor"), key := Value.str ("need_divisor") 501, val := Value.ref 231 }, { hash := PyData.keyHash P ("power"), key := Value.str ("power") 510, val := Value.ref 238 }, { hash := PyData.keyHash P ("need_count"), key := Value.str ("need_count") 517, val := Value.ref 245 }, { hash := PyData.keyHash P ("shifted_left"), key := Value.str ("shifted_left") 526, val := Value.ref 252 }, { hash := PyData.keyHash P ("shifted_right"), key := Value.str ("shifted_right") 534, val := Value.ref 259 }, { hash := PyData.keyHash P ("arithmetic"), key := Value.str ("arithmetic") 543, val := Value.ref 266 }, { hash := PyData.keyHash P ("text_order"), key := Value.str ("text_order") 551, val := Value.ref 273 }, { hash := PyData.keyHash P ("order_of"), key := Value.str ("order_of") 561, val := Value.ref 280 }, { hash := PyData.keyHash P ("relation"), key := Value.str ("relation") 569, val := Value.ref 287 }, { hash := PyData.keyHash P ("binary"), key := Value.str ("binary") 581, val := Value.ref 294 }, { hash := PyData.keyHash P ("function_rows"), key := Value.str ("function_rows") 587, val := Value.ref 301 }, { hash := PyData.keyHash P ("need_number"), key := Value.str ("need_number") 595, val := Value.ref 308 }, { hash := PyData.keyHash P ("root_of"), key := Value.str ("root_of") 605, val := Value.ref 315 }, { hash := PyData.keyHash P ("function_value"), key := Value.str ("function_value") 613, val := Value.ref 322 }, { hash := PyData.keyHash P ("count_fault"), key := Value.str ("count_fault") 621, val := Value.ref 329 }, { hash := PyData.keyHash P ("call_function"), key := Value.str ("call_function") 634, val := Value.ref 336 }, { hash := PyData.keyHash P ("text_of_host"), key := Value.str ("text_of_host") 648, val := Value.ref 343 }, { hash := PyData.keyHash P ("call_value"), key := Value.str ("call_value") 662, val := Value.ref 350 }, { hash := PyData.keyHash P ("leaf_value"), key := Value.str ("leaf_value") 671, val := Value.ref 357 }, { hash := PyData.keyHash P ("logic_value"), key := Value.str ("logic_value") 682, val := Value.ref 364 }, { hash := PyData.keyHash P ("reckon"), key := Value.str ("reckon") 693, val := Value.ref 371 }, { hash := PyData.keyHash P ("_law_rows"), key := Value.str ("_law_rows") 702, val := Value.ref 378 }, { hash := PyData.keyHash P ("_law_texts"), key := Value.str ("_law_texts") 708, val := Value.ref 385 }, { hash := PyData.keyHash P ("_law_items"), key := Value.str ("_law_items") 716, val := Value.ref 392 }, { hash := PyData.keyHash P ("_law_whole"), key := Value.str ("_law_whole") 723, val := Value.ref 399 }, { hash := PyData.keyHash P ("_law_leaf"), key := Value.str ("_law_leaf") 736, val := Value.ref 406 }, { hash := PyData.keyHash P ("_law_truth"), key := Value.str ("_law_truth") 743, val := Value.ref 413 }, { hash := PyData.keyHash P ("_law_no_truth"), key := Value.str ("_law_no_truth") 750, val := Value.ref 420 }, { hash := PyData.keyHash P ("_law_no_operand"), key := Value.str ("_law_no_operand") 760, val := Value.ref 427 }, { hash := PyData.keyHash P ("_law_domain"), key := Value.str ("_law_domain") 768, val := Value.ref 434 }, { hash := PyData.keyHash P ("_law_unary"), key := Value.str ("_law_unary") 777, val := Value.ref 441 }, { hash := PyData.keyHash P ("_law_order"), key := Value.str ("_law_order") 786, val := Value.ref 448 }, { hash := PyData.keyHash P ("_law_quotient"), key := Value.str ("_law_quotient") 796, val := Value.ref 455 }, { hash := PyData.keyHash P ("_law_both"), key := Value.str ("_law_both") 806, val := Value.ref 462 }, { hash := PyData.keyHash P ("_law_power"), key := Value.str ("_law_power") 817, val := Value.ref 469 }, { hash := PyData.keyHash P ("_law_shift"), key := Value.str ("_law_shift") 827, val := Value.ref 476 }, { hash := PyData.keyHash P ("_law_arithmetic"), key := Value.str ("_law_arithmetic") 838, val := Value.ref 483 }, { hash := PyData.keyHash P ("_law_binary"), key := Value.str ("_law_binary") 853, val := Value.ref 490 }, { hash := PyData.keyHash P ("_law_root"), key := Value.str ("_law_root") 862, val := Value.ref 497 }, { hash := PyData.keyHash P ("_law_call"), key := Value.str ("_law_call") 868, val := Value.ref 502 }, { hash := PyData.keyHash P ("_law_logic"), key := Value.str ("_law_logic") 878, val := Value.ref 509 }, { hash := PyData.keyHash P ("_law_is_small"), key := Value.str ("_law_is_small") 889, val := Value.ref 516 }, { hash := PyData.keyHash P ("_law_many"), key := Value.str ("_law_many") 897, val := Value.ref 523 }, { hash := PyData.keyHash P ("_law_node"), key := Value.str ("_law_node") 909, val := Value.ref 530 }, { hash := PyData.keyHash P ("_law_told"), key := Value.str ("_law_told") 917, val := Value.ref 537 }, { hash := PyData.keyHash P ("law"), key := Value.str ("law") 923, val := Value.ref 542 }] 81 }) ::
  (nat_lit 55, { cls := Value.type "tuple", data := Data.seq #[Value.ref 54, Value.int 0 247, Value.int 0 248] }) ::
  (nat_lit 61, cO "__init__" "Raised.__init__" 249 11 6 56 57 (Value.ref 58) (Value.ref 59) 60 258 259) ::
  (nat_lit 62, fO (inCls pw.main.body[3]?) "Raised.__init__" "tclcore.faults" 187 (Value.ref 55) 61) ::
  (nat_lit 64, { cls := Value.type "dict", data := Data.dict #[{ hash := PyData.keyHash P ("__module__"), key := Value.str ("__module__") 241, val := Value.str ("tclcore.faults") 187 }, { hash := PyData.keyHash P ("__firstlineno__"), key := Value.str ("__firstlineno__") 245, val := Value.int 9 244 }, { hash := PyData.keyHash P ("__init__"), key := Value.str ("__init__") 260, val := Value.ref 62 }, { hash := PyData.keyHash P ("__static_attributes__"), key := Value.str ("__static_attributes__") 270, val := Value.ref 63 }, { hash := PyData.keyHash P ("__weakref__"), key := Value.str ("__weakref__") 272, val := Value.ref 66 }, { hash := PyData.keyHash P ("__doc__"), key := Value.str ("__doc__") 273, val := Value.none }] 3 }) ::
  (nat_lit 65, { cls := Value.type "type", data := Data.cls { name := "Raised", bases := [Value.type "Exception"], mro := [Value.ref 65, Value.type "Exception", Value.type "BaseException", Value.type "object"], ns := 64, qualname := "Raised" }, slots := #[some (Value.ref 47), none, some (Value.str ("Raised") 234), some (Value.str ("Raised") 242), some (Value.builtin "Exception.__new__"), some (Value.bool true)] }) ::
  (nat_lit 69, { cls := Value.type "tuple", data := Data.seq #[Value.str ("NONE") 278] }) ::
  (nat_lit 70, { cls := Value.type "tuple", data := Data.seq #[Value.ref 69] }) ::
  (nat_lit 76, cO "error" "error" 279 22 2 71 72 (Value.ref 73) (Value.ref 74) 75 284 285) ::
  (nat_lit 77, fO pw.main.body[4]? "error" "tclcore.faults" 187 (Value.ref 70) 76) ::
  (nat_lit 83, cO "is_blank" "is_blank" 289 25 1 78 79 (Value.ref 80) (Value.ref 81) 82 293 294) ::
  (nat_lit 84, fO pw.main.body[6]? "is_blank" "tclcore.numbers" 287 (Value.none) 83) ::
  (nat_lit 90, cO "digit" "digit" 296 27 1 85 86 (Value.ref 87) (Value.ref 88) 89 301 302) ::
  (nat_lit 91, fO pw.main.body[7]? "digit" "tclcore.numbers" 287 (Value.none) 90) ::
  (nat_lit 97, cO "digits_value" "digits_value" 304 38 2 92 93 (Value.ref 94) (Value.ref 95) 96 312 313) ::
  (nat_lit 98, fO pw.main.body[8]? "digits_value" "tclcore.numbers" 287 (Value.none) 97) ::
  (nat_lit 104, cO "base_of" "base_of" 315 48 1 99 100 (Value.ref 101) (Value.ref 102) 103 319 320) ::
  (nat_lit 105, fO pw.main.body[9]? "base_of" "tclcore.numbers" 287 (Value.none) 104) ::
  (nat_lit 111, cO "whole_of" "whole_of" 322 58 1 106 107 (Value.ref 108) (Value.ref 109) 110 331 332) ::
  (nat_lit 112, fO pw.main.body[10]? "whole_of" "tclcore.numbers" 287 (Value.none) 111) ::
  (nat_lit 118, cO "bool_of" "bool_of" 334 78 1 113 114 (Value.ref 115) (Value.ref 116) 117 341 342) ::
  (nat_lit 119, fO pw.main.body[11]? "bool_of" "tclcore.numbers" 287 (Value.none) 118) ::
  (nat_lit 125, cO "need_bool" "need_bool" 344 92 1 120 121 (Value.ref 122) (Value.ref 123) 124 349 350) ::
  (nat_lit 126, fO pw.main.body[12]? "need_bool" "tclcore.numbers" 287 (Value.none) 125) ::
  (nat_lit 132, cO "text_of" "text_of" 352 97 1 127 128 (Value.ref 129) (Value.ref 130) 131 356 357) ::
  (nat_lit 133, fO pw.main.body[13]? "text_of" "tclcore.numbers" 287 (Value.none) 132) ::
  (nat_lit 139, cO "wide" "wide" 360 100 1 134 135 (Value.ref 136) (Value.ref 137) 138 365 366) ::
  (nat_lit 140, fO pw.main.body[15]? "wide" "tclcore.numbers" 287 (Value.none) 139) ::
  (nat_lit 167, cO "check_behind" "check_behind" 406 151 3 162 163 (Value.ref 164) (Value.ref 165) 166 413 414) ::
  (nat_lit 168, fO pw.main.body[21]? "check_behind" "tclcore.lists" 404 (Value.none) 167) ::
  (nat_lit 174, cO "braced_element" "braced_element" 416 158 2 169 170 (Value.ref 171) (Value.ref 172) 173 424 425) ::
  (nat_lit 175, fO pw.main.body[22]? "braced_element" "tclcore.lists" 404 (Value.none) 174) ::
  (nat_lit 188, cO "bare_element" "bare_element" 437 186 2 183 184 (Value.ref 185) (Value.ref 186) 187 444 445) ::
  (nat_lit 189, fO pw.main.body[24]? "bare_element" "tclcore.lists" 404 (Value.none) 188) ::
  (nat_lit 195, cO "find_element" "find_element" 447 196 2 190 191 (Value.ref 192) (Value.ref 193) 194 452 453) ::
  (nat_lit 196, fO pw.main.body[25]? "find_element" "tclcore.lists" 404 (Value.none) 195) ::
  (nat_lit 202, cO "split_list" "split_list" 455 206 1 197 198 (Value.ref 199) (Value.ref 200) 201 461 462) ::
  (nat_lit 203, fO pw.main.body[26]? "split_list" "tclcore.lists" 404 (Value.none) 202) ::
  (nat_lit 209, cO "operand_fault" "operand_fault" 466 214 2 204 205 (Value.ref 206) (Value.ref 207) 208 473 474) ::
  (nat_lit 210, fO pw.main.body[28]? "operand_fault" "tclcore.exprops" 464 (Value.none) 209) ::
  (nat_lit 216, cO "operand" "operand" 476 219 2 211 212 (Value.ref 213) (Value.ref 214) 215 482 483) ::
  (nat_lit 217, fO pw.main.body[29]? "operand" "tclcore.exprops" 464 (Value.none) 216) ::
  (nat_lit 223, cO "unary" "unary" 485 224 2 218 219 (Value.ref 220) (Value.ref 221) 222 492 493) ::
  (nat_lit 224, fO pw.main.body[30]? "unary" "tclcore.exprops" 464 (Value.none) 223) ::
  (nat_lit 230, cO "need_divisor" "need_divisor" 495 238 1 225 226 (Value.ref 227) (Value.ref 228) 229 499 500) ::
  (nat_lit 231, fO pw.main.body[31]? "need_divisor" "tclcore.exprops" 464 (Value.none) 230) ::
  (nat_lit 237, cO "power" "power" 502 241 2 232 233 (Value.ref 234) (Value.ref 235) 236 508 509) ::
  (nat_lit 238, fO pw.main.body[32]? "power" "tclcore.exprops" 464 (Value.none) 237) ::
  (nat_lit 244, cO "need_count" "need_count" 511 256 1 239 240 (Value.ref 241) (Value.ref 242) 243 515 516) ::
  (nat_lit 245, fO pw.main.body[33]? "need_count" "tclcore.exprops" 464 (Value.none) 244) ::
  (nat_lit 251, cO "shifted_left" "shifted_left" 518 259 2 246 247 (Value.ref 248) (Value.ref 249) 250 524 525) ::
  (nat_lit 252, fO pw.main.body[34]? "shifted_left" "tclcore.exprops" 464 (Value.none) 251) ::
  (nat_lit 258, cO "shifted_right" "shifted_right" 527 267 2 253 254 (Value.ref 255) (Value.ref 256) 257 532 533) ::
  (nat_lit 259, fO pw.main.body[35]? "shifted_right" "tclcore.exprops" 464 (Value.none) 258) ::
  (nat_lit 265, cO "arithmetic" "arithmetic" 535 272 3 260 261 (Value.ref 262) (Value.ref 263) 264 541 542) ::
  (nat_lit 266, fO pw.main.body[36]? "arithmetic" "tclcore.exprops" 464 (Value.none) 265) ::
  (nat_lit 272, cO "text_order" "text_order" 544 298 2 267 268 (Value.ref 269) (Value.ref 270) 271 549 550) ::
  (nat_lit 273, fO pw.main.body[37]? "text_order" "tclcore.exprops" 464 (Value.none) 272) ::
  (nat_lit 279, cO "order_of" "order_of" 552 302 2 274 275 (Value.ref 276) (Value.ref 277) 278 559 560) ::
  (nat_lit 280, fO pw.main.body[38]? "order_of" "tclcore.exprops" 464 (Value.none) 279) ::
  (nat_lit 286, cO "relation" "relation" 562 308 2 281 282 (Value.ref 283) (Value.ref 284) 285 567 568) ::
  (nat_lit 287, fO pw.main.body[39]? "relation" "tclcore.exprops" 464 (Value.none) 286) ::
  (nat_lit 293, cO "binary" "binary" 570 320 3 288 289 (Value.ref 290) (Value.ref 291) 292 579 580) ::
  (nat_lit 294, fO pw.main.body[40]? "binary" "tclcore.exprops" 464 (Value.none) 293) ::
  (nat_lit 300, cO "function_rows" "function_rows" 582 331 0 295 296 (Value.ref 297) (Value.ref 298) 299 585 586) ::
  (nat_lit 301, fO pw.main.body[41]? "function_rows" "tclcore.exprops" 464 (Value.none) 300) ::
  (nat_lit 307, cO "need_number" "need_number" 588 333 1 302 303 (Value.ref 304) (Value.ref 305) 306 593 594) ::
  (nat_lit 308, fO pw.main.body[42]? "need_number" "tclcore.exprops" 464 (Value.none) 307) ::
  (nat_lit 314, cO "root_of" "root_of" 596 338 1 309 310 (Value.ref 311) (Value.ref 312) 313 603 604) ::
  (nat_lit 315, fO pw.main.body[43]? "root_of" "tclcore.exprops" 464 (Value.none) 314) ::
  (nat_lit 321, cO "function_value" "function_value" 606 350 2 316 317 (Value.ref 318) (Value.ref 319) 320 611 612) ::
  (nat_lit 322, fO pw.main.body[44]? "function_value" "tclcore.exprops" 464 (Value.none) 321) ::
  (nat_lit 328, cO "count_fault" "count_fault" 614 362 2 323 324 (Value.ref 325) (Value.ref 326) 327 619 620) ::
  (nat_lit 329, fO pw.main.body[45]? "count_fault" "tclcore.exprops" 464 (Value.none) 328) ::
  (nat_lit 335, cO "call_function" "call_function" 622 364 2 330 331 (Value.ref 332) (Value.ref 333) 334 632 633) ::
  (nat_lit 336, fO pw.main.body[46]? "call_function" "tclcore.exprops" 464 (Value.none) 335) ::
  (nat_lit 349, cO "call_value" "call_value" 651 395 3 344 345 (Value.ref 346) (Value.ref 347) 348 660 661) ::
  (nat_lit 350, fO pw.main.body[51]? "call_value" "tclcore.exprrun" 649 (Value.none) 349) ::
  (nat_lit 356, cO "leaf_value" "leaf_value" 663 403 2 351 352 (Value.ref 353) (Value.ref 354) 355 669 670) ::
  (nat_lit 357, fO pw.main.body[52]? "leaf_value" "tclcore.exprrun" 649 (Value.none) 356) ::
  (nat_lit 363, cO "logic_value" "logic_value" 672 418 3 358 359 (Value.ref 360) (Value.ref 361) 362 680 681) ::
  (nat_lit 364, fO pw.main.body[53]? "logic_value" "tclcore.exprrun" 649 (Value.none) 363) ::
  (nat_lit 370, cO "reckon" "reckon" 683 424 2 365 366 (Value.ref 367) (Value.ref 368) 369 691 692) ::
  (nat_lit 371, fO pw.main.body[54]? "reckon" "tclcore.exprrun" 649 (Value.none) 370) ::
  (nat_lit 377, cO "_law_rows" "_law_rows" 696 438 0 372 373 (Value.ref 374) (Value.ref 375) 376 700 701) ::
  (nat_lit 378, fO pw.main.body[56]? "_law_rows" "law_np0140_01" 694 (Value.none) 377) ::
  (nat_lit 384, cO "_law_texts" "_law_texts" 703 443 0 379 380 (Value.ref 381) (Value.ref 382) 383 706 707) ::
  (nat_lit 385, fO pw.main.body[57]? "_law_texts" "law_np0140_01" 694 (Value.none) 384) ::
  (nat_lit 391, cO "_law_items" "_law_items" 709 445 1 386 387 (Value.ref 388) (Value.ref 389) 390 714 715) ::
  (nat_lit 392, fO pw.main.body[58]? "_law_items" "law_np0140_01" 694 (Value.none) 391) ::
  (nat_lit 398, cO "_law_whole" "_law_whole" 717 448 1 393 394 (Value.ref 395) (Value.ref 396) 397 721 722) ::
  (nat_lit 399, fO pw.main.body[59]? "_law_whole" "law_np0140_01" 694 (Value.none) 398) ::
  (nat_lit 405, cO "_law_leaf" "_law_leaf" 724 450 2 400 401 (Value.ref 402) (Value.ref 403) 404 734 735) ::
  (nat_lit 406, fO pw.main.body[60]? "_law_leaf" "law_np0140_01" 694 (Value.none) 405) ::
  (nat_lit 412, cO "_law_truth" "_law_truth" 737 459 1 407 408 (Value.ref 409) (Value.ref 410) 411 741 742) ::
  (nat_lit 413, fO pw.main.body[61]? "_law_truth" "law_np0140_01" 694 (Value.none) 412) ::
  (nat_lit 419, cO "_law_no_truth" "_law_no_truth" 744 463 1 414 415 (Value.ref 416) (Value.ref 417) 418 748 749) ::
  (nat_lit 420, fO pw.main.body[62]? "_law_no_truth" "law_np0140_01" 694 (Value.none) 419) ::
  (nat_lit 426, cO "_law_no_operand" "_law_no_operand" 751 465 2 421 422 (Value.ref 423) (Value.ref 424) 425 758 759) ::
  (nat_lit 427, fO pw.main.body[63]? "_law_no_operand" "law_np0140_01" 694 (Value.none) 426) ::
  (nat_lit 433, cO "_law_domain" "_law_domain" 761 469 2 428 429 (Value.ref 430) (Value.ref 431) 432 766 767) ::
  (nat_lit 434, fO pw.main.body[64]? "_law_domain" "law_np0140_01" 694 (Value.none) 433) ::
  (nat_lit 440, cO "_law_unary" "_law_unary" 769 471 2 435 436 (Value.ref 437) (Value.ref 438) 439 775 776) ::
  (nat_lit 441, fO pw.main.body[65]? "_law_unary" "law_np0140_01" 694 (Value.none) 440) ::
  (nat_lit 447, cO "_law_order" "_law_order" 778 482 2 442 443 (Value.ref 444) (Value.ref 445) 446 784 785) ::
  (nat_lit 448, fO pw.main.body[66]? "_law_order" "law_np0140_01" 694 (Value.none) 447) ::
  (nat_lit 454, cO "_law_quotient" "_law_quotient" 787 487 2 449 450 (Value.ref 451) (Value.ref 452) 453 794 795) ::
  (nat_lit 455, fO pw.main.body[67]? "_law_quotient" "law_np0140_01" 694 (Value.none) 454) ::
  (nat_lit 461, cO "_law_both" "_law_both" 797 492 2 456 457 (Value.ref 458) (Value.ref 459) 460 804 805) ::
  (nat_lit 462, fO pw.main.body[68]? "_law_both" "law_np0140_01" 694 (Value.none) 461) ::
  (nat_lit 468, cO "_law_power" "_law_power" 807 501 2 463 464 (Value.ref 465) (Value.ref 466) 467 815 816) ::
  (nat_lit 469, fO pw.main.body[69]? "_law_power" "law_np0140_01" 694 (Value.none) 468) ::
  (nat_lit 475, cO "_law_shift" "_law_shift" 818 515 3 470 471 (Value.ref 472) (Value.ref 473) 474 825 826) ::
  (nat_lit 476, fO pw.main.body[70]? "_law_shift" "law_np0140_01" 694 (Value.none) 475) ::
  (nat_lit 482, cO "_law_arithmetic" "_law_arithmetic" 828 524 3 477 478 (Value.ref 479) (Value.ref 480) 481 836 837) ::
  (nat_lit 483, fO pw.main.body[71]? "_law_arithmetic" "law_np0140_01" 694 (Value.none) 482) ::
  (nat_lit 489, cO "_law_binary" "_law_binary" 839 538 3 484 485 (Value.ref 486) (Value.ref 487) 488 851 852) ::
  (nat_lit 490, fO pw.main.body[72]? "_law_binary" "law_np0140_01" 694 (Value.none) 489) ::
  (nat_lit 496, cO "_law_root" "_law_root" 854 561 1 491 492 (Value.ref 493) (Value.ref 494) 495 860 861) ::
  (nat_lit 497, fO pw.main.body[73]? "_law_root" "law_np0140_01" 694 (Value.none) 496) ::
  (nat_lit 501, cO "_law_call" "_law_call" 863 571 2 498 499 (Value.none) (Value.none) 500 866 867) ::
  (nat_lit 502, fO pw.main.body[74]? "_law_call" "law_np0140_01" 694 (Value.none) 501) ::
  (nat_lit 508, cO "_law_logic" "_law_logic" 869 598 2 503 504 (Value.ref 505) (Value.ref 506) 507 876 877) ::
  (nat_lit 509, fO pw.main.body[75]? "_law_logic" "law_np0140_01" 694 (Value.none) 508) ::
  (nat_lit 515, cO "_law_is_small" "_law_is_small" 879 614 3 510 511 (Value.ref 512) (Value.ref 513) 514 887 888) ::
  (nat_lit 516, fO pw.main.body[76]? "_law_is_small" "law_np0140_01" 694 (Value.none) 515) ::
  (nat_lit 522, cO "_law_many" "_law_many" 890 626 2 517 518 (Value.ref 519) (Value.ref 520) 521 895 896) ::
  (nat_lit 523, fO pw.main.body[77]? "_law_many" "law_np0140_01" 694 (Value.none) 522) ::
  (nat_lit 529, cO "_law_node" "_law_node" 898 630 4 524 525 (Value.ref 526) (Value.ref 527) 528 907 908) ::
  (nat_lit 530, fO pw.main.body[78]? "_law_node" "law_np0140_01" 694 (Value.none) 529) ::
  (nat_lit 536, cO "_law_told" "_law_told" 910 643 1 531 532 (Value.ref 533) (Value.ref 534) 535 915 916) ::
  (nat_lit 537, fO pw.main.body[79]? "_law_told" "law_np0140_01" 694 (Value.none) 536) ::
  (nat_lit 541, cO "law" "law" 918 648 1 538 539 (Value.none) (Value.none) 540 921 922) ::
  (nat_lit 542, fO pw.main.body[80]? "law" "law_np0140_01" 694 (Value.none) 541) :: []
noncomputable abbrev hpA : List Addr := [3, 55, 61, 62, 64, 65, 69, 70, 76, 77, 83, 84, 90, 91, 97, 98, 104, 105, 111, 112, 118, 119, 125, 126, 132, 133, 139, 140, 167, 168, 174, 175, 188, 189, 195, 196, 202, 203, 209, 210, 216, 217, 223, 224, 230, 231, 237, 238, 244, 245, 251, 252, 258, 259, 265, 266, 272, 273, 279, 280, 286, 287, 293, 294, 300, 301, 307, 308, 314, 315, 321, 322, 328, 329, 335, 336, 349, 350, 356, 357, 363, 364, 370, 371, 377, 378, 384, 385, 391, 392, 398, 399, 405, 406, 412, 413, 419, 420, 426, 427, 433, 434, 440, 441, 447, 448, 454, 455, 461, 462, 468, 469, 475, 476, 482, 483, 489, 490, 496, 497, 501, 502, 508, 509, 515, 516, 522, 523, 529, 530, 536, 537, 541, 542]
noncomputable abbrev rowL : OpenRow := PySem.Challenge.rw_np0140_01.row
theorem hpE : ∀ P : Params, hpA = (hp P).map (·.1) := fun P => by kernel_rfl
noncomputable abbrev hk : Hook := kHook hp hpA hpE
noncomputable abbrev hX (s : Shared) : Bool := xlAt vw [] s && recOk (RowW.records rowL.toRowW) s
theorem hp_alive (P : Params) : (hp P).map (fun p => alive p.2) = (hp P).map (fun p => some p.2) := by kernel_rfl
theorem head_run (w : World) (os : OsState) : (topRunT treeTable pw w 11 (some (.ref 6)) 6000 ⟨bootT w.params, 11, {}, Array.mk [], boot_drawn, boot_toks, os⟩ (topStub pw)).map (fun s => 
    ((staticsOk (importedModules pw.main.body) (boot_heap w.params) s.abs.heap && namesBound pw s.abs.heap && gensDone s.abs && laidKept (boot_heap w.params) s.abs.heap),
      PySem.W.Fast.tw4187177175401517315 vw lo (importedModules pw.main.body) hX true s.abs, s.n, hpA.map s.tree.get)) = some (true, openGood vw lo, 543, (hp w.params).map fun p => some p.2) := by kernel_rfl
theorem map_at {α β : Type} {l : List α} {f g : α → β} (h : l.map f = l.map g) : ∀ x ∈ l, f x = g x := List.map_inj_left.mp h
theorem hpA_lt : ∀ a ∈ hpA, a < 543 := by decide
theorem obs_of {s : SharedT} {P : Params} (hn : s.n = 543) (h : hpA.map s.tree.get = (hp P).map fun p => some p.2) : hpA.map s.abs.heap.get? = (hp P).map fun p => some p.2 := by
  have hl := hpA_lt
  have ha := map_at (hp_alive P)
  rw [hpE P] at h hl ⊢
  rw [List.map_map] at h ⊢
  refine List.map_congr_left fun p hp' => ?_
  have h1 := map_at h p hp'
  have h2 := hl p.1 (List.mem_map_of_mem hp')
  show (absHeap s.tree s.n s.life).get? p.1 = _
  rw [abs_get (by rw [hn]; exact h2) h1]
  exact ha p hp'
theorem left_of {p q : Program} {loose : List Str} {Xt : Shared → Bool} {α : Type} {Yf : Shared → α} {Ya : World → α} {N m₀ : Nat} {H₀ : Params → Heap} {gs₀ : Array GenState} {d₀ : Drawn} {k₀ : Nat} {ann : Option Value}
    (ho : ∀ w : World, (fencedOpening treeTable p w N).map (fun s => (s.heap, s.gens, s.drawn, s.toks)) = some (H₀ w.params, gs₀, d₀, k₀))
    (hz : ∀ P : Params, ((H₀ P).isNs mainGlobals && gs₀.size == 0, (H₀ P).objs.size, (H₀ P).nsMap mainGlobals "__annotations__") = (true, m₀, ann))
    (hr : ∀ (w : World) (os : OsState), ∃ s₁, topRun treeTable p w m₀ ann N ⟨H₀ w.params, gs₀, d₀, k₀, os⟩ (topStub p) = some s₁ ∧
      (staticsOk (importedModules p.main.body) (H₀ w.params) s₁.heap && namesBound p s₁.heap && gensDone s₁ && laidKept (H₀ w.params) s₁.heap) = true ∧ openSeen q loose (importedModules p.main.body) Xt true s₁ = openGood q loose ∧ Yf s₁ = Ya w) :
    LeftO p q loose Xt Yf Ya N := fun w => by
  obtain ⟨⟨h, gs, d, k, os⟩, e, e'⟩ := Option.map_eq_some_iff.mp (ho w)
  obtain ⟨rfl, rfl, rfl, rfl⟩ : h = H₀ w.params ∧ gs = gs₀ ∧ d = d₀ ∧ k = k₀ := by simpa using e'
  obtain ⟨z1, z2, z3⟩ : _ ∧ _ ∧ _ := by simpa only [Prod.mk.injEq] using hz w.params
  obtain ⟨s, r, l1, l2, l3⟩ := hr w os
  have t : topFrom treeTable p w N ⟨H₀ w.params, gs, d, k, os⟩ = some s := by
    unfold topFrom
    dsimp only
    rw [z1, z2, z3, r]
    show (match staticsOk (importedModules p.main.body) (H₀ w.params) s.heap && namesBound p s.heap && gensDone s && laidKept (H₀ w.params) s.heap with | true => _ | false => _) = _
    rw [l1]
  unfold openEnds
  rw [e]
  show (topFrom treeTable p w N _).map _ = _
  rw [t]
  show some (_, _) = _
  rw [l2, l3]
theorem run_of {p : Program} {w : World} {n₀ N n : Nat} {ann : Option Value} {S₀ : SharedT} {t : Thread} {β : Type} {f : SharedT → β} {x : β} (h : (topRunT treeTable p w n₀ ann N S₀ t).map f = some x) :
    ∃ s : SharedT, topRun treeTable p w n₀ ann N S₀.abs t = some s.abs ∧ f s = x := by
  obtain ⟨s, r, l⟩ := Option.map_eq_some_iff.mp h
  exact ⟨s, topRun_of r, l⟩
theorem parts {p q : Program} {loose : List Str} {Xt : Shared → Bool} {w : World} {P : Params} {H : Heap} {S₀ : SharedT} {ann : Option Value} {N n₀ : Nat} {s₀ : Shared} (hb : S₀.abs = s₀)
    (h : (topRunT treeTable p w n₀ ann N S₀ (topStub p)).map (fun s => 
      ((staticsOk (importedModules p.main.body) H s.abs.heap && namesBound p s.abs.heap && gensDone s.abs && laidKept H s.abs.heap),
      PySem.W.Fast.tw4187177175401517315 q loose (importedModules p.main.body) Xt true s.abs, s.n, hpA.map s.tree.get)) = some (true, openGood q loose, 543, (hp P).map fun p => some p.2)) :
    ∃ s₁, topRun treeTable p w n₀ ann N s₀ (topStub p) = some s₁ ∧ (staticsOk (importedModules p.main.body) H s₁.heap && namesBound p s₁.heap && gensDone s₁ && laidKept H s₁.heap) = true ∧ openSeen q loose (importedModules p.main.body) Xt true s₁ = openGood q loose ∧ hpA.map s₁.heap.get? = (hp P).map fun p => some p.2 := by
  subst hb
  obtain ⟨s, r, l⟩ := run_of (n := n₀) h
  obtain ⟨l1, l2, l3, l4⟩ : _ ∧ _ ∧ _ ∧ _ := by simpa only [Prod.mk.injEq] using l
  rw [← PySem.W.Fast.te4187177175401517315] at l2
  exact ⟨s.abs, r, l1, l2, obs_of l3 l4⟩
theorem boot_state (P : Params) (os : OsState) : (⟨bootT P, 11, {}, Array.mk [], boot_drawn, boot_toks, os⟩ : SharedT).abs = ⟨boot_heap P, Array.mk [], boot_drawn, boot_toks, os⟩ := by
  unfold SharedT.abs
  rw [boot_abs]
theorem head_left : LeftO pw vw lo hX hk.obs hk.val 6000 :=
  left_of (H₀ := boot_heap) (gs₀ := Array.mk []) (d₀ := boot_drawn) (k₀ := boot_toks) (m₀ := 11) (ann := some (.ref 6)) head_open head_size fun w os => parts (boot_state w.params os) (head_run w os)
theorem said_ok : OpenLaw.wellSaid PySem.Challenge.rw_np0140_01 = true := by
  rw [PySem.W.Fast.te9446332074065402090]; kernel_rfl
theorem opens_ok : (chainsOk vw && opensWell rowL.prog && (frees rowL.toRowW && rowL.within.isEmpty)) = true := by decide +kernel
theorem xel1 {t0 : Sort _} {P : t0 → Prop} {G : Prop} (h : ∃ x0, P x0) (k : ∀ x0, P x0 → G) : G := h.elim fun x0 h => k x0 h
theorem xel2 {t0 : Sort _} {t1 : Sort _} {P : t0 → t1 → Prop} {G : Prop} (h : ∃ x0 x1, P x0 x1) (k : ∀ x0 x1, P x0 x1 → G) : G := h.elim fun x0 h => h.elim fun x1 h => k x0 x1 h
theorem xel3 {t0 : Sort _} {t1 : Sort _} {t2 : Sort _} {P : t0 → t1 → t2 → Prop} {G : Prop} (h : ∃ x0 x1 x2, P x0 x1 x2) (k : ∀ x0 x1 x2, P x0 x1 x2 → G) : G := h.elim fun x0 h => h.elim fun x1 h => h.elim fun x2 h => k x0 x1 x2 h
theorem xel4 {t0 : Sort _} {t1 : Sort _} {t2 : Sort _} {t3 : Sort _} {P : t0 → t1 → t2 → t3 → Prop} {G : Prop} (h : ∃ x0 x1 x2 x3, P x0 x1 x2 x3) (k : ∀ x0 x1 x2 x3, P x0 x1 x2 x3 → G) : G := h.elim fun x0 h => h.elim fun x1 h => h.elim fun x2 h => h.elim fun x3 h => k x0 x1 x2 x3 h
theorem xel5 {t0 : Sort _} {t1 : Sort _} {t2 : Sort _} {t3 : Sort _} {t4 : Sort _} {P : t0 → t1 → t2 → t3 → t4 → Prop} {G : Prop} (h : ∃ x0 x1 x2 x3 x4, P x0 x1 x2 x3 x4) (k : ∀ x0 x1 x2 x3 x4, P x0 x1 x2 x3 x4 → G) : G := h.elim fun x0 h => h.elim fun x1 h => h.elim fun x2 h => h.elim fun x3 h => h.elim fun x4 h => k x0 x1 x2 x3 x4 h
theorem xel6 {t0 : Sort _} {t1 : Sort _} {t2 : Sort _} {t3 : Sort _} {t4 : Sort _} {t5 : Sort _} {P : t0 → t1 → t2 → t3 → t4 → t5 → Prop} {G : Prop} (h : ∃ x0 x1 x2 x3 x4 x5, P x0 x1 x2 x3 x4 x5) (k : ∀ x0 x1 x2 x3 x4 x5, P x0 x1 x2 x3 x4 x5 → G) : G := h.elim fun x0 h => h.elim fun x1 h => h.elim fun x2 h => h.elim fun x3 h => h.elim fun x4 h => h.elim fun x5 h => k x0 x1 x2 x3 x4 x5 h
theorem xel7 {t0 : Sort _} {t1 : Sort _} {t2 : Sort _} {t3 : Sort _} {t4 : Sort _} {t5 : Sort _} {t6 : Sort _} {P : t0 → t1 → t2 → t3 → t4 → t5 → t6 → Prop} {G : Prop} (h : ∃ x0 x1 x2 x3 x4 x5 x6, P x0 x1 x2 x3 x4 x5 x6) (k : ∀ x0 x1 x2 x3 x4 x5 x6, P x0 x1 x2 x3 x4 x5 x6 → G) : G := h.elim fun x0 h => h.elim fun x1 h => h.elim fun x2 h => h.elim fun x3 h => h.elim fun x4 h => h.elim fun x5 h => h.elim fun x6 h => k x0 x1 x2 x3 x4 x5 x6 h
theorem xel13 {t0 : Sort _} {t1 : Sort _} {t2 : Sort _} {t3 : Sort _} {t4 : Sort _} {t5 : Sort _} {t6 : Sort _} {t7 : Sort _} {t8 : Sort _} {t9 : Sort _} {t10 : Sort _} {t11 : Sort _} {t12 : Sort _} {P : t0 → t1 → t2 → t3 → t4 → t5 → t6 → t7 → t8 → t9 → t10 → t11 → t12 → Prop} {G : Prop} (h : ∃ x0 x1 x2 x3 x4 x5 x6 x7 x8 x9 x10 x11 x12, P x0 x1 x2 x3 x4 x5 x6 x7 x8 x9 x10 x11 x12) (k : ∀ x0 x1 x2 x3 x4 x5 x6 x7 x8 x9 x10 x11 x12, P x0 x1 x2 x3 x4 x5 x6 x7 x8 x9 x10 x11 x12 → G) : G := h.elim fun x0 h => h.elim fun x1 h => h.elim fun x2 h => h.elim fun x3 h => h.elim fun x4 h => h.elim fun x5 h => h.elim fun x6 h => h.elim fun x7 h => h.elim fun x8 h => h.elim fun x9 h => h.elim fun x10 h => h.elim fun x11 h => h.elim fun x12 h => k x0 x1 x2 x3 x4 x5 x6 x7 x8 x9 x10 x11 x12 h
theorem nel2 {A0 A1 G : Prop} (h : A0 ∧ A1) (k : A0 → A1 → G) : G := k h.1 h.2
theorem nel3 {A0 A1 A2 G : Prop} (h : A0 ∧ A1 ∧ A2) (k : A0 → A1 → A2 → G) : G := k h.1 h.2.1 h.2.2
theorem nel4 {A0 A1 A2 A3 G : Prop} (h : A0 ∧ A1 ∧ A2 ∧ A3) (k : A0 → A1 → A2 → A3 → G) : G := k h.1 h.2.1 h.2.2.1 h.2.2.2
theorem nel5 {A0 A1 A2 A3 A4 G : Prop} (h : A0 ∧ A1 ∧ A2 ∧ A3 ∧ A4) (k : A0 → A1 → A2 → A3 → A4 → G) : G := k h.1 h.2.1 h.2.2.1 h.2.2.2.1 h.2.2.2.2
theorem nel6 {A0 A1 A2 A3 A4 A5 G : Prop} (h : A0 ∧ A1 ∧ A2 ∧ A3 ∧ A4 ∧ A5) (k : A0 → A1 → A2 → A3 → A4 → A5 → G) : G := k h.1 h.2.1 h.2.2.1 h.2.2.2.1 h.2.2.2.2.1 h.2.2.2.2.2
theorem nel7 {A0 A1 A2 A3 A4 A5 A6 G : Prop} (h : A0 ∧ A1 ∧ A2 ∧ A3 ∧ A4 ∧ A5 ∧ A6) (k : A0 → A1 → A2 → A3 → A4 → A5 → A6 → G) : G := k h.1 h.2.1 h.2.2.1 h.2.2.2.1 h.2.2.2.2.1 h.2.2.2.2.2.1 h.2.2.2.2.2.2
theorem nel8 {A0 A1 A2 A3 A4 A5 A6 A7 G : Prop} (h : A0 ∧ A1 ∧ A2 ∧ A3 ∧ A4 ∧ A5 ∧ A6 ∧ A7) (k : A0 → A1 → A2 → A3 → A4 → A5 → A6 → A7 → G) : G := k h.1 h.2.1 h.2.2.1 h.2.2.2.1 h.2.2.2.2.1 h.2.2.2.2.2.1 h.2.2.2.2.2.2.1 h.2.2.2.2.2.2.2
theorem nel9 {A0 A1 A2 A3 A4 A5 A6 A7 A8 G : Prop} (h : A0 ∧ A1 ∧ A2 ∧ A3 ∧ A4 ∧ A5 ∧ A6 ∧ A7 ∧ A8) (k : A0 → A1 → A2 → A3 → A4 → A5 → A6 → A7 → A8 → G) : G := k h.1 h.2.1 h.2.2.1 h.2.2.2.1 h.2.2.2.2.1 h.2.2.2.2.2.1 h.2.2.2.2.2.2.1 h.2.2.2.2.2.2.2.1 h.2.2.2.2.2.2.2.2
theorem nel11 {A0 A1 A2 A3 A4 A5 A6 A7 A8 A9 A10 G : Prop} (h : A0 ∧ A1 ∧ A2 ∧ A3 ∧ A4 ∧ A5 ∧ A6 ∧ A7 ∧ A8 ∧ A9 ∧ A10) (k : A0 → A1 → A2 → A3 → A4 → A5 → A6 → A7 → A8 → A9 → A10 → G) : G := k h.1 h.2.1 h.2.2.1 h.2.2.2.1 h.2.2.2.2.1 h.2.2.2.2.2.1 h.2.2.2.2.2.2.1 h.2.2.2.2.2.2.2.1 h.2.2.2.2.2.2.2.2.1 h.2.2.2.2.2.2.2.2.2.1 h.2.2.2.2.2.2.2.2.2.2
theorem nel13 {A0 A1 A2 A3 A4 A5 A6 A7 A8 A9 A10 A11 A12 G : Prop} (h : A0 ∧ A1 ∧ A2 ∧ A3 ∧ A4 ∧ A5 ∧ A6 ∧ A7 ∧ A8 ∧ A9 ∧ A10 ∧ A11 ∧ A12) (k : A0 → A1 → A2 → A3 → A4 → A5 → A6 → A7 → A8 → A9 → A10 → A11 → A12 → G) : G := k h.1 h.2.1 h.2.2.1 h.2.2.2.1 h.2.2.2.2.1 h.2.2.2.2.2.1 h.2.2.2.2.2.2.1 h.2.2.2.2.2.2.2.1 h.2.2.2.2.2.2.2.2.1 h.2.2.2.2.2.2.2.2.2.1 h.2.2.2.2.2.2.2.2.2.2.1 h.2.2.2.2.2.2.2.2.2.2.2.1 h.2.2.2.2.2.2.2.2.2.2.2.2
theorem fx1 {t0 : Sort _} {P : t0 → Prop} {G : Prop} (k : ∀ x0, P x0 → G) (h : ∃ x0, P x0) : G := xel1 h k
theorem fx2 {t0 : Sort _} {t1 : Sort _} {P : t0 → t1 → Prop} {G : Prop} (k : ∀ x0 x1, P x0 x1 → G) (h : ∃ x0 x1, P x0 x1) : G := xel2 h k
theorem fx3 {t0 : Sort _} {t1 : Sort _} {t2 : Sort _} {P : t0 → t1 → t2 → Prop} {G : Prop} (k : ∀ x0 x1 x2, P x0 x1 x2 → G) (h : ∃ x0 x1 x2, P x0 x1 x2) : G := xel3 h k
theorem fx4 {t0 : Sort _} {t1 : Sort _} {t2 : Sort _} {t3 : Sort _} {P : t0 → t1 → t2 → t3 → Prop} {G : Prop} (k : ∀ x0 x1 x2 x3, P x0 x1 x2 x3 → G) (h : ∃ x0 x1 x2 x3, P x0 x1 x2 x3) : G := xel4 h k
theorem fn2 {A0 A1 G : Prop} (k : A0 → A1 → G) (h : A0 ∧ A1) : G := nel2 h k
theorem fn3 {A0 A1 A2 G : Prop} (k : A0 → A1 → A2 → G) (h : A0 ∧ A1 ∧ A2) : G := nel3 h k
theorem fn4 {A0 A1 A2 A3 G : Prop} (k : A0 → A1 → A2 → A3 → G) (h : A0 ∧ A1 ∧ A2 ∧ A3) : G := nel4 h k
theorem fn5 {A0 A1 A2 A3 A4 G : Prop} (k : A0 → A1 → A2 → A3 → A4 → G) (h : A0 ∧ A1 ∧ A2 ∧ A3 ∧ A4) : G := nel5 h k
theorem ns1 {α : Type _} {a : α} (h : none = some a) : False := nomatch h
theorem ns2 {α : Type _} {a : α} (h : some a = none) : False := nomatch h
theorem ne1 {ε α : Type _} {a : α} {b : ε} (h : (Except.ok a : Except ε α) = .error b) : False := nomatch h
theorem ne2 {ε α : Type _} {a : α} {b : ε} (h : (Except.error b : Except ε α) = .ok a) : False := nomatch h
set_option compiler.extract_closed false
def mdi (s : String) : Lean.Syntax := (Lean.mkIdent (("Mine." ++ s).toName)).raw
def tactic1 (s : String) : Lean.MacroM Lean.Syntax := do
  let r : Lean.TSyntax `tactic ← match s with
    | "dk" => `(tactic| decide +kernel)
    | "dec" => `(tactic| decide)
    | "rfl" => `(tactic| rfl)
    | "done" => `(tactic| done)
    | "asm" => `(tactic| assumption)
    | "simp" => `(tactic| simp)
    | "om" => `(tactic| omega)
    | "wu" => `(tactic| with_unfolding_all rfl)
    | "intro0" => `(tactic| intro)
    | "intro1" => `(tactic| intro _)
    | "lia" => `(tactic| lia)
    | "kr" => `(tactic| kernel_rfl)
    | "skip" => `(tactic| skip)
    | _ => `(tactic| intro _ _)
  return r
def firstOf (ts : Array Lean.Syntax) : Lean.MacroM Lean.Syntax := do
  let us : Array (Lean.TSyntax `tactic) := ts.map fun t => ⟨t⟩
  return (← `(tactic| first $[| $us:tactic]*))
def seqOf (ts : Array Lean.Syntax) : Lean.MacroM Lean.Syntax := do
  let us : Array (Lean.TSyntax `tactic) := ts.map fun t => ⟨t⟩
  return (← `(tactic| ($[$us:tactic];*)))
def redOf (t : Lean.Syntax) : Lean.MacroM Lean.Syntax := do
  let t : Lean.TSyntax `tactic := ⟨t⟩
  return (← `(tactic| with_reducible $t:tactic))
def refOf (e : Lean.Syntax) : Lean.MacroM Lean.Syntax := do
  let e : Lean.TSyntax `term := ⟨e⟩
  return (← `(tactic| refine $e:term))
def exOf (e : Lean.Syntax) : Lean.MacroM Lean.Syntax := do
  let e : Lean.TSyntax `term := ⟨e⟩
  return (← `(tactic| exact $e:term))
def holeS : Lean.MacroM Lean.Syntax := do return (← `(?_))
def holeU : Lean.MacroM Lean.Syntax := do return (← `(_))
def appOf (f : Lean.Syntax) (xs : Array Lean.Syntax) : Lean.Syntax := (Lean.Syntax.mkApp ⟨f⟩ (xs.map fun x => ⟨x⟩)).raw
def opOf (o : String) (a : Array Lean.Syntax) : Lean.MacroM Lean.Syntax := do
  let t : Lean.TSyntax `tactic := ⟨a[0]!⟩
  let e : Lean.TSyntax `term := ⟨a[0]!⟩
  match o with
  | "gt" => return (← `(tactic| guard_target = $e:term))
  | "rep" => return (← `(tactic| repeat $t:tactic))
  | "rep2" => return (← `(tactic| repeat' $t:tactic))
  | "fis" => return (← `(tactic| fail_if_success $t:tactic))
  | "foc" => return (← `(tactic| focus $t:tactic))
  | "app" => return (← `(tactic| apply $e:term))
  | "then" => let u : Lean.TSyntax `tactic := ⟨a[1]!⟩; return (← `(tactic| ($t:tactic <;> $u:tactic)))
  | "rw1" => return (← `(tactic| rw [$e:term]))
  | "so" => let es : Array (Lean.TSyntax `ident) := a.map fun x => ⟨x⟩; return (← `(tactic| simp only [$[$es:ident],*]))
  | "soa" => let es : Array (Lean.TSyntax `ident) := a.map fun x => ⟨x⟩; return (← `(tactic| simp only [$[$es:ident],*] at *))
  | "have" => let i : Lean.TSyntax `ident := ⟨a[0]!⟩; let v : Lean.TSyntax `term := ⟨a[1]!⟩; return (← `(tactic| have $i:ident := $v))
  | "rpl" => let i : Lean.TSyntax `ident := ⟨a[0]!⟩; let v : Lean.TSyntax `term := ⟨a[1]!⟩; return (← `(tactic| replace $i:ident := $v))
  | "clear" => let i : Lean.TSyntax `ident := ⟨a[0]!⟩; return (← `(tactic| clear $i:ident))
  | "subst" => return (← `(tactic| subst $e:term))
  | "cases" => return (← `(tactic| cases ($e:term)))
  | "try" => return (← `(tactic| try $t:tactic))
  | "case" => let i : Lean.TSyntax `ident := ⟨a[0]!⟩; let u : Lean.TSyntax `tactic := ⟨a[1]!⟩; return (← `(tactic| case $i:ident => $u:tactic))
  | "at" => let s := Lean.Syntax.mkStrLit a[0]!.getAtomVal; return (← `(tactic| wtm_at $s:str))
  | "by" => return (← `((by $t:tactic)))
  | ":" => return (← `(($e:term :)))
  | "anon" => let es : Array (Lean.TSyntax `term) := a.map fun x => ⟨x⟩; return (← `(⟨$es,*⟩))
  | "exi" => let i : Lean.TSyntax `ident := ⟨a[0]!⟩; let b : Lean.TSyntax `term := ⟨a[1]!⟩; return (← `(∃ $i:ident, $b))
  | "and" => let b : Lean.TSyntax `term := ⟨a[1]!⟩; return (← `($e ∧ $b))
  | "eq" => let b : Lean.TSyntax `term := ⟨a[1]!⟩; return (← `($e = $b))
  | "le" => let b : Lean.TSyntax `term := ⟨a[1]!⟩; return (← `($e ≤ $b))
  | "lam" => let i : Lean.TSyntax `ident := ⟨a[0]!⟩; let b : Lean.TSyntax `term := ⟨a[1]!⟩; return (← `(fun $i:ident => $b))
  | "tri" => let b : Lean.TSyntax `term := ⟨a[1]!⟩; return (← `($e ▸ $b))
  | _ => Lean.Macro.throwUnsupported
def argTac : List String := ["rep", "rep2", "fis", "foc", "then", "try", "by"]
def red1 (isRef : Bool) (nm : String) (k : Nat) : Lean.MacroM Lean.Syntax := do
  let h ← if isRef then holeS else holeU
  let e := appOf (mdi nm) (Array.replicate k h)
  if isRef then refOf e else exOf e
def step (go : Bool → Array Lean.Syntax → Lean.Syntax → Lean.MacroM Lean.Syntax) (isT : Bool) (as : Array Lean.Syntax) (x : Lean.Syntax) : Lean.MacroM Lean.Syntax :=
    if x.isAtom then
      let s := x.getAtomVal
      if s.startsWith "$" then return as[(s.drop 1).toNat!]!
      else if isT then tactic1 s
      else if s == "_" then holeU
      else if s == "?_" then holeS
      else if s.startsWith "?" then do
        let i := Lean.mkIdent (← Lean.Macro.addMacroScope (s.drop 1).toString.toName)
        return (← `(?$i:ident))
      else if s.startsWith "!" then return (Lean.mkIdent (← Lean.Macro.addMacroScope (s.drop 1).toString.toName)).raw
      else if s.startsWith "'" then return (Lean.Syntax.mkStrLit (s.drop 1).toString).raw
      else if s == "2" then return (Lean.Syntax.mkNumLit s).raw
      else if s.startsWith "." then return (Lean.mkNode `Lean.Parser.Term.dotIdent #[Lean.mkAtom ".", Lean.mkIdent (s.drop 1).toString.toName]).raw
      else return (Lean.mkIdent s.toName).raw
    else do
      let h := x[0]
      let ys := x.getArgs.extract 1 x.getNumArgs
      let o := h.getAtomVal
      if isT && o == "first" then firstOf (← ys.mapM (go true as))
      else if isT && o == "seq" then seqOf (← ys.mapM (go true as))
      else if isT && o == "red" then redOf (← go true as ys[0]!)
      else if isT && o == "ref" then refOf (← go false as ys[0]!)
      else if isT && o == "ex" then exOf (← go false as ys[0]!)
      else if isT && o == "rs" then redOf (← firstOf (← ys.mapM fun y => red1 true y.getAtomVal 1))
      else if isT && o == "xs" then redOf (← firstOf (← ys.mapM fun y => let p := y.getAtomVal.splitOn ":"; red1 false p[0]! p[1]!.toNat!))
      else if isT && o == "lks" then firstOf (← (Array.range 7).mapM fun k => do redOf (← opOf "then" #[← red1 true (ys[0]!.getAtomVal ++ toString (k + 1)) (k + 1), ← tactic1 "kr"]))
      else if isT && o == "at" then opOf o ys
      else if isT && o == "case" then opOf o #[(Lean.mkIdent (← Lean.Macro.addMacroScope ys[0]!.getAtomVal.toName)).raw, ← go true as ys[1]!]
      else if o == "fun" then do
        let b ← go false as ys.back!
        (ys.pop).foldrM (fun v b => opOf "lam" #[(Lean.mkIdent v.getAtomVal.toName).raw, b]) b
      else if o == ":=" then return (Lean.mkNode `Lean.Parser.Term.namedArgument #[Lean.mkAtom "(", Lean.mkIdent ys[0]!.getAtomVal.toName, Lean.mkAtom ":=", ← go false as ys[1]!, Lean.mkAtom ")"]).raw
      else if isT || o == "by" || o == ":" || o == "anon" || o == "exi" || o == "and" || o == "eq" || o == "le" || o == "tri" then opOf o (← ys.mapM (go (argTac.contains o) as))
      else return appOf (← go false as h) (← ys.mapM (go false as))
def sx (s : String) : Lean.Syntax :=
  let st := (s.splitOn " ").foldl (fun (st : List (Array Lean.Syntax)) t =>
    if t == "(" then #[] :: st
    else if t == ")" then match st with
      | a :: b :: r => b.push (Lean.mkNullNode a) :: r
      | r => r
    else match st with
      | a :: r => a.push (Lean.mkAtom t) :: r
      | [] => []) [#[]]
  (st.head!)[0]!
def tac (s : String) (as : Array Lean.Syntax) : Lean.MacroM (Lean.TSyntax `tactic) := do
  return ⟨← Nat.repeat step 60 (fun _ _ _ => Lean.Macro.throwUnsupported) true as (sx s)⟩
def rin (ps : Array (Lean.TSyntax `rintroPat)) : Lean.MacroM Lean.Syntax := do return (← `(tactic| rintro $ps*))
def patOf (q : Lean.TSyntax `Lean.Parser.Tactic.rcasesPatLo) : Lean.MacroM (Lean.TSyntax `rintroPat) := do
  if q.raw[0][0].getSepArgs.size == 1 && q.raw[1].getNumArgs == 0 then
    let x : Lean.TSyntax `rcasesPat := ⟨q.raw[0][0].getSepArgs[0]!⟩
    `(rintroPat| $x:rcasesPat)
  else `(rintroPat| ($q:rcasesPatLo))
def obtAlt (e cl : Lean.Syntax) (qs : Array (Lean.TSyntax `rintroPat)) (los : Array (Lean.TSyntax `Lean.Parser.Tactic.rcasesPatLo)) (hq : Lean.TSyntax `ident) (hp : Lean.TSyntax `rintroPat) (ci : Nat × Nat) : Lean.MacroM Lean.Syntax := do
  let n := qs.size
  let c := ci.1
  let i := ci.2
  let b := qs.extract i n
  let r := los.extract i n
  let ne := "( ref ( : ( Mine.nel" ++ toString (if c == 2 then i + 1 else n - i) ++ " "
  let xe := "( ref ( : ( Mine.xel" ++ toString i ++ " $0 ?_ ) ) ) "
  let s := if c == 0 then (if i == 0 then ne ++ "$0 ?_ ) ) ) $1 $2" else if i == n - 1 then xe ++ "$1 $2" else xe ++ "$1 $3 " ++ ne ++ "!hq ?_ ) ) ) ( clear !hq ) $4")
    else (if c == 1 then xe else ne ++ "$0 ?_ ) ) ) ") ++ "$1 $3 $5"
  let o : Lean.TSyntax `tactic ← `(tactic| obtain ⟨$r,*⟩ := $hq:ident)
  return (← tac ("( seq " ++ s ++ " )") #[e, cl, ← rin qs, ← rin ((qs.extract 0 i).push hp), ← rin b, o]).raw
def obt (p : Lean.TSyntax `Lean.Parser.Tactic.rcasesPatMed) (e : Lean.TSyntax `term) : Lean.MacroM (Lean.TSyntax `tactic) := do
  let us := p.raw[0].getSepArgs
  let last : Lean.TSyntax `tactic ← `(tactic| rcases $e:term with $p:rcasesPatMed)
  unless us.size == 1 && us[0]!.isOfKind `Lean.Parser.Tactic.rcasesPat.tuple do return last
  let los : Array (Lean.TSyntax `Lean.Parser.Tactic.rcasesPatLo) := us[0]![1].getSepArgs.map fun q => ⟨q⟩
  let qs : Array (Lean.TSyntax `rintroPat) ← los.mapM patOf
  let n := qs.size
  if n < 2 then return last
  let cl ← tac (if e.raw.isIdent then "( try ( clear $0 ) )" else "skip") #[e]
  let hq := Lean.mkIdent (← Lean.Macro.addMacroScope `hq)
  let hp : Lean.TSyntax `rintroPat ← `(rintroPat| $hq:ident)
  let ks := (List.range n).reverse
  let cs := ks.map (fun i => (0, i)) ++ (ks.filter (fun i => 0 < i && i < n - 1)).map (fun i => (1, i)) ++ (ks.filter (fun i => 0 < i && i < n - 1)).map (fun i => (2, i))
  let ts ← cs.mapM (obtAlt e.raw cl.raw qs los hq hp)
  return ⟨← firstOf (ts.toArray.push last.raw)⟩
def rwOne (r : Lean.TSyntax `Lean.Parser.Tactic.rwRule) (h? : Option (Lean.TSyntax `ident)) : Lean.MacroM Lean.Syntax := do
  let e := r.raw[1]
  let fall : Lean.TSyntax `tactic ← match h? with | none => `(tactic| rewrite [$r:rwRule]) | some h => `(tactic| rewrite [$r:rwRule] at $h:ident)
  if (e.find? fun x => ["fun", "byTactic", "hole", "show", "dotIdent", "anonymousCtor"].contains x.getKind.getString!).isSome then return fall
  let e1 := if r.raw[0].getNumArgs == 0 then appOf (Lean.mkIdent `Eq.symm) #[e] else e
  match h? with
  | none => tac "( first ( ref ( tri $0 ?_ ) ) $1 )" #[e1, fall]
  | some h => tac "( first ( rpl $0 ( Eq.trans $1 $0 ) ) $2 )" #[h, e1, fall]
def rwAll (rs : Array (Lean.TSyntax `Lean.Parser.Tactic.rwRule)) (h? : Option (Lean.TSyntax `ident)) : Lean.MacroM (Lean.TSyntax `tactic) := do
  let ts ← rs.mapM fun r => rwOne r h?
  return ⟨← seqOf (ts.push (← tac "( try ( red rfl ) )" #[]))⟩
def rinOne (p : Lean.TSyntax `rintroPat) : Lean.MacroM Lean.Syntax := do
  if p.raw[0].isOfKind `Lean.Parser.Tactic.rcasesPat.tuple then
    let q : Lean.TSyntax `Lean.Parser.Tactic.rcasesPatMed := ⟨Lean.mkNode `Lean.Parser.Tactic.rcasesPatMed #[Lean.mkNullNode #[p.raw[0]]]⟩
    let t : Lean.TSyntax `tactic ← `(tactic| (intro hq; obtain $q:rcasesPatMed := hq))
    return t.raw
  else rin #[p]
def rinAll (ps : Array (Lean.TSyntax `rintroPat)) : Lean.MacroM (Lean.TSyntax `tactic) := do
  let tup (p : Lean.TSyntax `rintroPat) : Bool := p.raw[0].isOfKind `Lean.Parser.Tactic.rcasesPat.tuple
  if !(ps.any tup) then Lean.Macro.throwUnsupported
  let ts ← ps.mapM rinOne
  return ⟨← seqOf ts⟩
def steps : List (String × String) := [
  ("lk", "( first ( red ( ex Lk.here ) ) ( lks lk ) ( rep ( first ( red ( ex Lk.here ) ) ( seq ( app Lk.there ) dk ) ) ) )"),
  ("put", "( first ( red ( ex Put.here ) ) ( red ( ex Put.nil ) ) ( lks pt ) ( rep ( first ( red ( ex Put.here ) ) ( red ( ex Put.nil ) ) ( seq ( app Put.there ) dk ) ) ) )"),
  ("lkI", "( rep ( first ( red ( ex Lk.here ) ) ( red ( ref ( Lk.hereI ( by om ) ) ) ) ( red ( ref ( Lk.hereO ( by ( first rfl simp ) ) ) ) ) ( seq ( app Lk.there ) dk ) ) )"),
  ("sub", "( rep ( first ( red ( ex Sub.nil ) ) ( seq ( app Sub.cons ) ( foc ( at lkI ) ) ) ) )"),
  ("o2", "( first ( xs op_eqS:2 op_eqI:2 op_lt:2 op_add:2 op_sub:2 op_neI:2 op_neS:2 op_le:2 op_gt:2 op_ge:2 op_is:1 op_isnot:1 op_eqB:2 op_neB:2 op_ltS:2 op_and:2 op_or:2 op_xor:2 op_neg:1 op_inv:1 op_notb:1 ) ( seq ( gt ( Op2 _ _ ( subscriptTail _ _ ) ( PV.tup _ ) ( PV.int _ ) _ ) ) ( ex ( op_itemT ( by ( first rfl dec ) ) ( by rfl ) ( by dec ) ( by dec ) ) ) ) ( red ( ex ( o_inT ( by wu ) ) ) ) ( red ( ex ( o_inTI ( by wu ) ) ) ) ( red ( ex ( o_ninT ( by wu ) ) ) ) )"),
  ("e1", "( first ( seq ( red ( ref ( e1_name ?ha ) ) ) ( case ha ( seq ( at lk ) done ) ) ) ( xs e1_int:0 e1_str:0 e1_none:0 e1_bool:0 ) ( seq ( first ( red ( ref ( e1_cmp ( := a ?pa ) ( := b ?pb ) ?ha ?hb ?hc ) ) ) ( red ( ref ( e1_bin ( := a ?pa ) ( := b ?pb ) ?ha ?hb ?hc ) ) ) ( red ( ref ( e1_sub ( := o ?pa ) ( := i ?pb ) ?ha ?hb ?hc ) ) ) ) ( case ha ( at e1 ) ) ( case hb ( at e1 ) ) ( case hc ( at o2 ) ) ) ( seq ( first ( red ( ref ( e1_tuple ( := ps ?ps ) ?ha ?hb ) ) ) ( red ( ref ( e1_list ( := ps ?ps ) ?ha ?hb ) ) ) ) ( case ha ( at es1 ) ) ( case hb rfl ) ) ( seq ( red ( ref ( e1_un ( := a ?pa ) ?ha ?hc ) ) ) ( case ha ( at e1 ) ) ( case hc ( at o2 ) ) ) )"),
  ("es1", "( first ( red ( ex es1_nil ) ) ( seq ( red ( ref ( es1_cons ( := p ?pa ) ( := ps ?ps ) ?ha ?hb ?hc ) ) ) ( case ha ( at e1 ) ) ( case hb ( at es1 ) ) ( case hc ( seq intro1 wu ) ) ) )"),
  ("ex", "( seq ( gt ( Mine.ex _ _ _ _ _ _ _ _ ) ) ( first ( seq ( red ( ref ( x_assign ( := p ?pa ) ( := ρ2 ?pr ) ?ha ?hb ?_ ) ) ) ( case ha ( at e1 ) ) ( case hb ( seq ( at put ) done ) ) ) ( rs ex_ret ex_if ex_assign ex_ret0 ex_cont ex_break ) ( red ( ref ( ex_aug ( by ( at lk ) ) ?_ ) ) ) ) )"),
  ("ev", "( seq ( gt ( Mine.ev _ _ _ _ _ _ _ ) ) ( first ( seq ( red ( ref ( ev_of ( := p ?pa ) ?ha ?_ ) ) ) ( case ha ( at e1 ) ) ) ( red ( ref ( ev_name ( by ( at lk ) ) ?_ ) ) ) ( red ( ref ( ev_bin ?_ ) ) ) ( seq ( gt ( Mine.ev _ _ _ ( Expr.Call ( Expr.Name _ _ ) _ _ _ ) _ _ _ ) ) ( first ( red ( ref ( ev_callB ( := g 'len ) ( := id 'len ) g_len b_len ?_ ) ) ) ( red ( ref ( ev_callT ( := g 'str ) ( := id 'str ) g_str b_str ?_ ) ) ) ( red ( ref ( ev_callB ( := g 'abs ) ( := id 'abs ) g_abs b_abs ?_ ) ) ) ( red ( ref ( ev_callB ( := g 'ord ) ( := id 'ord ) g_ord b_ord ?_ ) ) ) ( red ( ref ( ev_callB ( := g 'divmod ) ( := id 'divmod ) g_divmod b_divmod ?_ ) ) ) ( red ( ref ( ev_callT ( := g 'tuple ) ( := id 'tuple ) g_tuple b_tuple ?_ ) ) ) ) ) ( seq ( fis ( gt ( Mine.ev _ _ _ ( Expr.Subscript _ ( Expr.Slice _ _ _ _ ) _ ) _ _ _ ) ) ) ( red ( ref ( ev_sub ?_ ) ) ) ) ( rs ev_tuple ev_cmp ev_if ev_un ev_list ev_and ev_or ev_bool_one ev_fmt ev_joined ev_sliceS ) ( red ( ref ( ev_dict ( by wu ) ?_ ) ) ) ) )"),
  ("evb", "( seq ( gt ( Mine.evb _ _ _ _ _ _ _ ) ) ( first ( seq ( red ( ref ( evb_of ( := b ?pb ) ?ha ?_ ) ) ) ( case ha ( seq ( red ( ref ( b1_cmp ( := a ?pa ) ( := b ?pc ) ?hd ?he ?hf ) ) ) ( case hd ( at e1 ) ) ( case he ( at e1 ) ) ( case hf ( at o2 ) ) ) ) ) ( rs evb_cmp evb_chain evb_not evb_and evb_or evb_and_nil evb_or_nil ) ( seq ( gt ( Mine.evb _ _ _ ( Expr.Name _ _ ) _ _ _ ) ) ( red ( ref ( evb_val ?_ ) ) ) ) ( seq ( gt ( Mine.evb _ _ _ ( Expr.Call _ _ _ _ ) _ _ _ ) ) ( red ( ref ( evb_val ?_ ) ) ) ) ) )"),
  ("op2", "( first ( rs t_eqS t_eqI t_lt s_add s_sub ) ( seq ( gt ( exi c ( and ( Op2 _ _ ( subscriptTail _ _ ) ( PV.tup _ ) ( PV.int _ ) _ ) _ ) ) ) ( ref ( s_itemT ( by ( first rfl dec ) ) ( by rfl ) ( by dec ) ( by dec ) ( by ( seq intro2 wu ) ) ?_ ) ) ) ( seq ( gt ( exi c ( and ( Op2 _ _ ( binaryOp .Add ) ( PV.str _ ) ( PV.str _ ) _ ) _ ) ) ) ( ref ( s_addS2 ( by ( at len ) ) ( by ( at len ) ) ( by dk ) ?_ ) ) ) ( seq ( gt ( exi c ( and ( Op2 _ _ ( binaryOp .Pow ) ( PV.int 2 ) ( PV.int _ ) _ ) _ ) ) ) ( ref ( s_pow2 ( by dec ) ( by dec ) ?_ ) ) ) ( rs t_neI t_neS t_le t_gt t_ge t_is t_isnot ) ( red ( ref ( t_inT ( by wu ) ?_ ) ) ) ( red ( ref ( t_inTI ( by wu ) ?_ ) ) ) ( red ( ref ( t_ninT ( by wu ) ?_ ) ) ) ( rs t_eqB t_neB t_ltS s_eqS s_eqI s_lt s_neI s_neS s_le s_gt s_ge s_is s_isnot ) ( red ( ref ( s_inT ( by wu ) ?_ ) ) ) ( red ( ref ( s_inTI ( by wu ) ?_ ) ) ) ( rs s_eqB s_neB s_iadd s_isub s_band s_bor s_bxor ) )"),
  ("op", "( first ( seq ( gt ( Br _ _ _ ) ) ( rs Br.t Br.f ) ) ( seq ( gt ( exi c ( and _ _ ) ) ) ( first ( seq ( gt ( exi ρ2 ( and ( Put _ _ _ ρ2 ) _ ) ) ) ( ref ( anon _ ( by ( at put ) ) ?_ ) ) ) ( seq ( gt ( exi c ( and ( Op2 _ _ _ _ _ _ ) _ ) ) ) ( at op2 ) ) ( red ( ref ( s_bool ?_ ) ) ) ( seq ( gt ( exi y ( and ( eq ( PV.str _ ) ( PV.str y ) ) _ ) ) ) ( first ( seq ( gt ( exi y ( and ( eq ( PV.str _ ) ( PV.str y ) ) ( and ( le ( Str.length _ ) sizeLine ) _ ) ) ) ) ( first ( ref ( j_part ( by ( at len ) ) ( by ( at len ) ) ( by dk ) ?_ ) ) ( ref ( f_part ( by ( at len ) ) ( by dk ) ?_ ) ) ) ) ( red ( ref ( e_str ?_ ) ) ) ) ) ( seq ( gt ( exi c ( and ( OpN _ _ _ _ c ) _ ) ) ) ( first ( rs s_lenC s_ordC s_abs ) ( red ( ref ( s_lenM ( by ( first asm om ) ) ?_ ) ) ) ) ) ( seq ( gt ( exi c ( and ( Op1 _ _ _ _ _ ) _ ) ) ) ( rs s_neg s_inv s_notb ) ) ) ) ( seq ( gt ( and ( le ( List.length _ ) sizeLine ) _ ) ) ( ref ( anon ( by ( seq ( rw1 sizeLine_eq ) ( so List.length_cons List.length_nil ) om ) ) ?_ ) ) ) )"),
  ("one", "( first ( at ev ) ( at op ) ( seq ( gt ( Mine.evs _ _ _ _ _ _ _ ) ) ( first ( seq ( red ( ref ( evs_of ( := ps ?ps ) ?ha ?_ ) ) ) ( case ha ( at es1 ) ) ) ( rs evs_cons evs_nil ) ) ) ( at evb ) ( seq ( gt ( Mine.exs _ _ _ _ _ _ _ _ ) ) ( first ( seq ( red ( ref ( xs_ret ( := p ?pa ) ?ha ?_ ) ) ) ( case ha ( at e1 ) ) ) ( seq ( red ( ref ( xs_assign ( := p ?pa ) ( := ρ2 ?pr ) ?ha ?hb ?_ ) ) ) ( case ha ( at e1 ) ) ( case hb ( seq ( at put ) done ) ) ) ( rs exs_cons exs_nil ) ) ) ( at ex ) ( seq ( gt ( Mine.evj _ _ _ _ _ _ _ _ ) ) ( first ( red ( ref ( evj_cons ?_ ) ) ) ( ref ( evj_nil ( sh_sz ( by ( at len ) ) ( by dk ) ) ?_ ) ) ) ) ( seq ( gt ( Mine.evp _ _ _ _ _ _ _ _ ) ) ( rs evp_cons evp_nil ) ) )"),
  ("go", "( rep ( at one ) )"),
  ("bs", "( first ( ref ( Br.tt ( by dk ) ?_ ) ) ( ref ( Br.ff ( by dk ) ?_ ) ) ( ref ( Br.ff ( by ( ex rfl ) ) ?_ ) ) ( ref ( Br.tt ( by ( ex rfl ) ) ?_ ) ) )"),
  ("gd", "( rep ( first ( at one ) ( at bs ) ) )"),
  ("gs", "( rep2 ( first ( at one ) ( seq ( gt ( Br _ _ _ ) ) ( then ( ref ( Br.split ?_ ?_ ) ) intro0 ) ) ) )"),
  ("dec", "( soa decide_eq_true_eq decide_eq_false_iff_not bne_iff_ne beq_iff_eq ne_eq Decidable.not_not bne_eq_false_iff_eq beq_eq_false_iff_ne Bool.not_eq_true' Bool.not_eq_false' Bool.not_true Bool.not_false )"),
  ("a0", "( ex ( fun s vs h ( bt0 h ( BindsTo.of_eq rfl ) ) ) )"),
  ("a1", "( ex ( fun s vs h ( bt1 h ( fun a ( BindsTo.of_eq rfl ) ) ) ) )"),
  ("a2", "( ex ( fun s vs h ( bt2 h ( fun a b ( BindsTo.of_eq rfl ) ) ) ) )"),
  ("a3", "( ex ( fun s vs h ( bt3 h ( fun a b c ( BindsTo.of_eq rfl ) ) ) ) )"),
  ("a4", "( ex ( fun s vs h ( bt4 h ( fun a b c d ( BindsTo.of_eq rfl ) ) ) ) )"),
  ("len", "( rep ( first ( red asm ) ( red ( ex ( sh_mk ( by asm ) ) ) ) ( red ( app sh_app ) ) ( red ( ex ( Nat.le_refl _ ) ) ) ) )")]
def wtmAt (k : String) : Lean.MacroM (Lean.TSyntax `tactic) :=
  match steps.lookup k with
  | some s => tac s #[]
  | none => Lean.Macro.throwUnsupported
end
section
open PySem PySem.W PyProof.Rows PySem.Calls PySem.Spec
local macro_rules | `(tactic| omega) => Mine.tac "( first ( ex ( Nat.succ_pos _ ) ) lia )" #[]
local macro_rules | `(tactic| obtain $p:rcasesPatMed := $e:term) => Mine.obt p e
local macro_rules | `(tactic| cases $h:ident) => Mine.tac "( first ( ex ( False.elim ( Mine.ns1 $0 ) ) ) ( ex ( False.elim ( Mine.ns2 $0 ) ) ) ( ex ( False.elim ( Mine.ne1 $0 ) ) ) ( ex ( False.elim ( Mine.ne2 $0 ) ) ) ( seq ( have !hq ( Option.some.inj $0 ) ) ( clear $0 ) ( subst !hq ) ) ( seq ( have !hq ( Except.ok.inj $0 ) ) ( clear $0 ) ( subst !hq ) ) ( cases $0 ) )" #[h]
local macro_rules | `(tactic| rw (occs := .all) [$rs:rwRule,*]) => Mine.rwAll rs.getElems none
local macro_rules | `(tactic| rw (occs := .all) [$rs:rwRule,*] at $h:ident) => Mine.rwAll rs.getElems (some h)
local macro_rules | `(tactic| rintro $ps:rintroPat*) => Mine.rinAll ps

noncomputable abbrev prg : Program := PySem.Challenge.rw_np0140_01.row.prog
inductive PV where
  | none
  | bool (b : Bool)
  | int (i : Int)
  | str (x : Str)
  | tup (l : List PV)
  | lst (l : List PV)
  | dic (l : List (Str × PV))
structure Cl (o : Obj) (c : String) : Prop where
  cls : o.cls = .type c
  dict : o.dict = none
mutual
inductive Rd (P : World) (h : Heap) (bad : Addr → Prop) : Value → PV → Prop
  | none : Rd P h bad Value.none PV.none
  | bool (b : Bool) : Rd P h bad (Value.bool b) (PV.bool b)
  | int (i : Int) (t : Tok) : Rd P h bad (Value.int i t) (PV.int i)
  | str (x : Str) (t : Tok) : Rd P h bad (Value.str x t) (PV.str x)
  | tup {a : Addr} {o : Obj} {vs : Array Value} {n : Nat} {l : List PV} : h.get? a = some o → Cl o "tuple" → o.data = .seq vs n → ¬ bad a → RdL P h bad vs.toList l → Rd P h bad (Value.ref a) (PV.tup l)
  | lst {a : Addr} {o : Obj} {vs : Array Value} {n : Nat} {l : List PV} : h.get? a = some o → Cl o "list" → o.data = .seq vs n → ¬ bad a → RdL P h bad vs.toList l → Rd P h bad (Value.ref a) (PV.lst l)
  | dic {a : Addr} {o : Obj} {kvs : List (Str × Value)} {l : List (Str × PV)} : h.get? a = some o → o.IsDictOf (strKind prg P) kvs → (a == sysModules) = false → ¬ bad a → RdD P h bad kvs l → Rd P h bad (Value.ref a) (PV.dic l)
inductive RdL (P : World) (h : Heap) (bad : Addr → Prop) : List Value → List PV → Prop
  | nil : RdL P h bad [] []
  | cons {v : Value} {vs : List Value} {p : PV} {ps : List PV} : Rd P h bad v p → RdL P h bad vs ps → RdL P h bad (v :: vs) (p :: ps)
inductive RdD (P : World) (h : Heap) (bad : Addr → Prop) : List (Str × Value) → List (Str × PV) → Prop
  | nil : RdD P h bad [] []
  | cons {x : Str} {v : Value} {es : List (Str × Value)} {p : PV} {ps : List (Str × PV)} : Rd P h bad v p → RdD P h bad es ps → RdD P h bad ((x, v) :: es) ((x, p) :: ps)
end
noncomputable def RdI (P : World) (h : Heap) (bad : Addr → Prop) : PV → Value → Prop
  | .none, v => ∃ _ : Unit, v = .none
  | .bool b, v => ∃ _ : Unit, v = .bool b
  | .int i, v => ∃ t, v = .int i t
  | .str x, v => ∃ t, v = .str x t
  | .tup l, v => ∃ a o vs n, v = .ref a ∧ h.get? a = some o ∧ Cl o "tuple" ∧ o.data = .seq vs n ∧ ¬ bad a ∧ RdL P h bad vs.toList l
  | .lst l, v => ∃ a o vs n, v = .ref a ∧ h.get? a = some o ∧ Cl o "list" ∧ o.data = .seq vs n ∧ ¬ bad a ∧ RdL P h bad vs.toList l
  | .dic l, v => ∃ a o kvs, v = .ref a ∧ h.get? a = some o ∧ o.IsDictOf (strKind prg P) kvs ∧ (a == sysModules) = false ∧ ¬ bad a ∧ RdD P h bad kvs l
theorem Rd.i {P : World} {h : Heap} {bad : Addr → Prop} {v : Value} {p : PV} (r : Rd P h bad v p) : RdI P h bad p v := by
  cases r with
  | none => exact ⟨(), rfl⟩
  | bool b => exact ⟨(), rfl⟩
  | int i t => exact ⟨t, rfl⟩
  | str x t => exact ⟨t, rfl⟩
  | tup a b c d e => exact ⟨_, _, _, _, rfl, a, b, c, d, e⟩
  | lst a b c d e => exact ⟨_, _, _, _, rfl, a, b, c, d, e⟩
  | dic a b c d e => exact ⟨_, _, _, rfl, a, b, c, d, e⟩
theorem RdL.c {P : World} {h : Heap} {bad : Addr → Prop} {v : List Value} {p : PV} {ps : List PV} (r : RdL P h bad v (p :: ps)) : ∃ a vs, v = a :: vs ∧ Rd P h bad a p ∧ RdL P h bad vs ps := by
  cases r with | cons a b => exact ⟨_, _, rfl, a, b⟩
theorem RdL.n {P : World} {h : Heap} {bad : Addr → Prop} {v : List Value} (r : RdL P h bad v []) : v = [] := by cases r; rfl
noncomputable def Sim (bad : Addr → Prop) (g : Addr → Option Obj) (h : Heap) : Prop :=
  ∀ b o, g b = some o → ∃ sl, h.get? b = some { o with slots := sl } ∧ (¬ bad b → sl = o.slots)
theorem Sim.of_keeps {bad : Addr → Prop} {g h : Heap} (k : ∀ b o, g.get? b = some o → h.get? b = some o) : Sim bad g.get? h :=
  fun b o e => ⟨o.slots, k b o e, fun _ => rfl⟩
theorem Sim.trans {bad : Addr → Prop} {g : Addr → Option Obj} {h k : Heap} (x : Sim bad g h) (y : Sim bad h.get? k) : Sim bad g k := by
  intro b o e
  obtain ⟨sl, h1, h2⟩ := x b o e
  obtain ⟨sl', h3, h4⟩ := y b _ h1
  exact ⟨sl', h3, fun n => (h4 n).trans (h2 n)⟩
theorem Sim.mono {bad bad' : Addr → Prop} {g : Addr → Option Obj} {h : Heap} (x : Sim bad g h) (k : ∀ a, bad a → bad' a) : Sim bad' g h := by
  intro b o e
  obtain ⟨sl, h1, h2⟩ := x b o e
  exact ⟨sl, h1, fun n => h2 fun q => n (k _ q)⟩
theorem Sim.exact {bad : Addr → Prop} {g : Addr → Option Obj} {h : Heap} (x : Sim bad g h) {b : Addr} {o : Obj} (e : g b = some o) (n : ¬ bad b) : h.get? b = some o := by
  obtain ⟨sl, h1, h2⟩ := x b o e
  rw (occs := .all) [h1, h2 n]
theorem Sim.ns {bad : Addr → Prop} {g h : Heap} (x : Sim bad g.get? h) {L : Addr} {m : Str → Option Value} (n : g.Ns L m) : h.Ns L m := by
  obtain ⟨o, es, ep, ho, hd, r⟩ := n
  obtain ⟨sl, h1, _⟩ := x L o ho
  exact ⟨_, es, ep, h1, hd, r⟩
theorem Sim.frames {bad : Addr → Prop} {g h base : Heap} (x : Sim bad g.get? h) {l : List Env} (n : g.FunFrames base l) : h.FunFrames base l :=
  n.of_keeps fun b o e _ => let ⟨_, h1, _⟩ := x b o e; ⟨_, h1, rfl⟩
section
variable {P : World} {bad bad' : Addr → Prop} {h h' : Heap}
mutual
theorem Rd.move {v : Value} {p : PV} (r : Rd P h bad v p) (k : ∀ a o, h.get? a = some o → ¬ bad a → (o.cls = .type "tuple" ∨ o.cls = .type "list" ∨ o.cls = .type "dict") → h'.get? a = some o ∧ ¬ bad' a) : Rd P h' bad' v p := by
  cases r with
  | none => exact .none
  | bool b => exact .bool b
  | int i t => exact .int i t
  | str x t => exact .str x t
  | tup e c d n l => exact .tup (k _ _ e n (.inl c.cls)).1 c d (k _ _ e n (.inl c.cls)).2 (RdL.move l k)
  | lst e c d n l => exact .lst (k _ _ e n (.inr (.inl c.cls))).1 c d (k _ _ e n (.inr (.inl c.cls))).2 (RdL.move l k)
  | dic e c d n l =>
    have q := k _ _ e n (.inr (.inr (let ⟨_, _, z, _⟩ := c; z.1)))
    exact .dic q.1 c d q.2 (RdD.move l k)
theorem RdL.move {vs : List Value} {ps : List PV} (r : RdL P h bad vs ps) (k : ∀ a o, h.get? a = some o → ¬ bad a → (o.cls = .type "tuple" ∨ o.cls = .type "list" ∨ o.cls = .type "dict") → h'.get? a = some o ∧ ¬ bad' a) : RdL P h' bad' vs ps := by
  cases r with
  | nil => exact .nil
  | cons a b => exact .cons (Rd.move a k) (RdL.move b k)
theorem RdD.move {vs : List (Str × Value)} {ps : List (Str × PV)} (r : RdD P h bad vs ps) (k : ∀ a o, h.get? a = some o → ¬ bad a → (o.cls = .type "tuple" ∨ o.cls = .type "list" ∨ o.cls = .type "dict") → h'.get? a = some o ∧ ¬ bad' a) : RdD P h' bad' vs ps := by
  cases r with
  | nil => exact .nil
  | cons a b => exact .cons (Rd.move a k) (RdD.move b k)
end
theorem RdL.length {vs : List Value} {ps : List PV} (r : RdL P h bad vs ps) : vs.length = ps.length := by
  induction vs generalizing ps with
  | nil => cases r; rfl
  | cons v vs ih => cases r with | cons _ r => rw [List.length_cons, List.length_cons, ih r]
theorem RdL.append {vs ws : List Value} {ps qs : List PV} (r : RdL P h bad vs ps) (q : RdL P h bad ws qs) : RdL P h bad (vs ++ ws) (ps ++ qs) := by
  induction vs generalizing ps with
  | nil => cases r; exact q
  | cons v vs ih => cases r with | cons a r => exact .cons a (ih r)
theorem RdL.get {vs : List Value} {ps : List PV} (r : RdL P h bad vs ps) {i : Nat} {p : PV} (e : ps[i]? = some p) : ∃ v, vs[i]? = some v ∧ Rd P h bad v p := by
  induction vs generalizing ps i with
  | nil => cases r; simp at e
  | cons v vs ih =>
    cases r with
    | cons a r =>
      cases i with
      | zero => simp only [List.getElem?_cons_zero, Option.some.injEq] at e ⊢; subst e; exact ⟨v, rfl, a⟩
      | succ i => simp only [List.getElem?_cons_succ] at e ⊢; exact ih r e
theorem RdL.take {vs : List Value} {ps : List PV} (r : RdL P h bad vs ps) (n : Nat) : RdL P h bad (vs.take n) (ps.take n) := by
  induction vs generalizing ps n with
  | nil => cases r; simp; exact .nil
  | cons v vs ih =>
    cases r with
    | cons a r =>
      cases n with
      | zero => exact .nil
      | succ n => exact .cons a (ih r n)
theorem RdL.drop {vs : List Value} {ps : List PV} (r : RdL P h bad vs ps) (n : Nat) : RdL P h bad (vs.drop n) (ps.drop n) := by
  induction vs generalizing ps n with
  | nil => cases r; simp; exact .nil
  | cons v vs ih =>
    cases r with
    | cons a r =>
      cases n with
      | zero => exact .cons a r
      | succ n => exact ih r n
end
set_option genInjectivity false in
structure Fm where
  A : Around
  base : Heap
  h₀ : Addr → Option Obj
  outer : List Env
  qual : Str
  scope : Scope
  L : Addr
  a : Addr
  cd : Value
  bad : Addr → Prop
noncomputable abbrev Fm.env (f : Fm) : Env := envOf f.qual f.scope f.L f.a f.cd
inductive Bnd where
  | fz (p : PV)
  | own (l : List PV)
noncomputable abbrev PEnv := List (Str × Bnd)
noncomputable def OwnAt (ρ : PEnv) (m : Str → Option Value) (a : Addr) : Prop := ∃ x l, ρ.lookup x = some (Bnd.own l) ∧ m x = some (.ref a)
noncomputable def Fm.badAt (f : Fm) (ρ : PEnv) (m : Str → Option Value) (a : Addr) : Prop := f.bad a ∨ a = f.L ∨ OwnAt ρ m a
noncomputable def BndOk (P : World) (bad : Addr → Prop) (h : Heap) (m : Str → Option Value) (x : Str) : Bnd → Prop
  | .fz p => ∃ v, m x = some v ∧ Rd P h bad v p
  | .own l => ∃ a o vs n, m x = some (.ref a) ∧ h.get? a = some o ∧ Cl o "list" ∧ o.data = .seq vs n ∧ RdL P h bad vs.toList l
structure St (P : World) (f : Fm) (ρ : PEnv) (m : Str → Option Value) (h : Heap) : Prop where
  ns : h.Ns f.L m
  bnd : ∀ x b, ρ.lookup x = some b → BndOk P (f.badAt ρ m) h m x b
  inj : ∀ x y l l', ρ.lookup x = some (Bnd.own l) → ρ.lookup y = some (Bnd.own l') → m x = m y → x = y
  sim : Sim f.bad f.h₀ h
  stays : f.base.StaysIn h
  frames : h.FunFrames f.base (f.env :: f.outer)
  newL : f.h₀ f.L = none
  ownNew : ∀ a, OwnAt ρ m a → f.h₀ a = none
  badOld : ∀ a, f.bad a → ∃ o, f.h₀ a = some o
  badFr : ∀ e ∈ f.outer, ∀ a, e.frame = some a → f.bad a
  baseOld : ∀ b o, f.base.get? b = some o → f.h₀ b = some o ∧ ¬ f.bad b
structure Bs (w : World) (base : Heap) : Prop where
  k : (hp w.params).In base
  t : ∃ loose mean mg mb, Top vw loose mean mg mb base
structure Fm.Ok (w : World) (f : Fm) (n : Nat) (σ : Scope) : Prop where
  frames : f.A.frames = some (f.env :: f.outer)
  handled : 0 < n → f.A.handled = none
  depth : f.A.depth + n < recursionLimit
  units : f.A.units + 16 * n < cLine
  sc : f.scope = σ
  kind : σ.kind = .function
  bs : Bs w f.base
section
variable {P : World} {f : Fm} {ρ ρ' : PEnv} {m m' : Str → Option Value} {h h' : Heap} {bad : Addr → Prop}
theorem St.notOwnL (S : St P f ρ m h) {a : Addr} (q : OwnAt ρ m a) : a ≠ f.L := by
  obtain ⟨x, l, e1, e2⟩ := q
  obtain ⟨b, o, vs, n, h1, h2, h3, h4, _⟩ := S.bnd x _ e1
  rw (occs := .all) [e2] at h1; cases h1
  intro e; subst e
  obtain ⟨o', es, ep, ho, hd, _⟩ := S.ns
  rw (occs := .all) [h2] at ho; cases ho
  rw (occs := .all) [h4] at hd; cases hd
theorem St.ownThere (S : St P f ρ m h) {a : Addr} (q : OwnAt ρ m a) : ∃ o, h.get? a = some o ∧ o.cls = .type "list" := by
  obtain ⟨x, l, e1, e2⟩ := q
  obtain ⟨b, o, vs, n, h1, h2, h3, h4, _⟩ := S.bnd x _ e1
  rw (occs := .all) [e2] at h1; cases h1
  exact ⟨o, h2, h3.cls⟩
theorem St.badThere (S : St P f ρ m h) {a : Addr} (q : f.badAt ρ m a) : ∃ o, h.get? a = some o := by
  rcases q with q | rfl | q
  · obtain ⟨o, e⟩ := S.badOld a q
    obtain ⟨sl, h1, _⟩ := S.sim a o e
    exact ⟨_, h1⟩
  · obtain ⟨o, _, _, ho, _⟩ := S.ns
    exact ⟨o, ho⟩
  · obtain ⟨o, ho, _⟩ := S.ownThere q
    exact ⟨o, ho⟩
theorem St.grow (S : St P f ρ m h) (k : ∀ b o, h.get? b = some o → h'.get? b = some o) : St P f ρ m h' where
  ns := S.ns.keeps k
  bnd := fun x b e => by
    have q := S.bnd x b e
    cases b with
    | fz p =>
      obtain ⟨v, h1, h2⟩ := q
      exact ⟨v, h1, h2.move fun a o e n _ => ⟨k a o e, n⟩⟩
    | own l =>
      obtain ⟨a, o, vs, n, h1, h2, h3, h4, h5⟩ := q
      exact ⟨a, o, vs, n, h1, k _ _ h2, h3, h4, h5.move fun a o e n _ => ⟨k a o e, n⟩⟩
  inj := S.inj
  sim := S.sim.trans (Sim.of_keeps k)
  stays := fun b o e => k _ _ (S.stays b o e)
  frames := S.frames.of_keeps fun b o e _ => ⟨o, k b o e, rfl⟩
  newL := S.newL
  ownNew := S.ownNew
  badOld := S.badOld
  badFr := S.badFr
  baseOld := S.baseOld
theorem Rd.grow {v : Value} {p : PV} (r : Rd P h bad v p) (k : ∀ b o, h.get? b = some o → h'.get? b = some o) : Rd P h' bad v p := r.move fun a o e n _ => ⟨k a o e, n⟩
theorem RdL.grow {v : List Value} {p : List PV} (r : RdL P h bad v p) (k : ∀ b o, h.get? b = some o → h'.get? b = some o) : RdL P h' bad v p := r.move fun a o e n _ => ⟨k a o e, n⟩
noncomputable def Fm.re (f : Fm) (ρ : PEnv) (m : Str → Option Value) (h : Heap) : Fm :=
  { f with h₀ := fun a => open Classical in if a = f.L ∨ OwnAt ρ m a then none else h.get? a }
theorem re_some {b : Addr} {o : Obj} (e : (f.re ρ m h).h₀ b = some o) : h.get? b = some o ∧ b ≠ f.L ∧ ¬ OwnAt ρ m b := by
  have e' : (open Classical in if b = f.L ∨ OwnAt ρ m b then none else h.get? b) = some o := e
  split at e'
  · cases e'
  · rename_i n
    exact ⟨e', fun q => n (.inl q), fun q => n (.inr q)⟩
theorem re_of {b : Addr} {o : Obj} (e : h.get? b = some o) (n1 : b ≠ f.L) (n2 : ¬ OwnAt ρ m b) : (f.re ρ m h).h₀ b = some o := by
  show (open Classical in if b = f.L ∨ OwnAt ρ m b then none else h.get? b) = some o
  rw (occs := .all) [if_neg (fun q => q.elim n1 n2)]
  exact e
theorem re_none {b : Addr} (q : b = f.L ∨ OwnAt ρ m b) : (f.re ρ m h).h₀ b = none := by
  show (open Classical in if b = f.L ∨ OwnAt ρ m b then none else h.get? b) = none
  rw (occs := .all) [if_pos q]
theorem St.simRe (S : St P f ρ m h) {b : Addr} {o : Obj} (e : f.h₀ b = some o) : ∃ sl, (f.re ρ m h).h₀ b = some { o with slots := sl } ∧ (¬ f.bad b → sl = o.slots) := by
  obtain ⟨sl, h1, h2⟩ := S.sim b o e
  refine ⟨sl, re_of h1 (fun q => ?_) (fun q => ?_), h2⟩
  · rw (occs := .all) [q, S.newL] at e; cases e
  · rw (occs := .all) [S.ownNew _ q] at e; cases e
theorem St.re (S : St P f ρ m h) : St P (f.re ρ m h) ρ m h where
  ns := S.ns
  bnd := S.bnd
  inj := S.inj
  sim := fun b o e => ⟨o.slots, (re_some e).1, fun _ => rfl⟩
  stays := S.stays
  frames := S.frames
  newL := re_none (.inl rfl)
  ownNew := fun a q => re_none (.inr q)
  badOld := fun a q => by
    obtain ⟨o, e⟩ := S.badOld a q
    obtain ⟨sl, h1, _⟩ := S.simRe e
    exact ⟨_, h1⟩
  badFr := S.badFr
  baseOld := fun b o e => by
    obtain ⟨h1, h2⟩ := S.baseOld b o e
    obtain ⟨sl, h3, h4⟩ := S.simRe h1
    rw (occs := .all) [h4 h2] at h3
    exact ⟨h3, h2⟩
theorem St.simBack (S : St P f ρ m h) (X : Sim f.bad (f.re ρ m h).h₀ h') : Sim f.bad f.h₀ h' := fun b o e => by
  obtain ⟨sl, h1, h2⟩ := S.simRe e
  obtain ⟨sl', h3, h4⟩ := X b _ h1
  exact ⟨sl', h3, fun n => (h4 n).trans (h2 n)⟩
theorem St.noneBack (S : St P f ρ m h) {b : Addr} (e : (f.re ρ m h).h₀ b = none) : f.h₀ b = none := by
  cases q : f.h₀ b with
  | none => rfl
  | some o => obtain ⟨sl, h1, _⟩ := S.simRe q; rw (occs := .all) [h1] at e; cases e
theorem St.back (S : St P f ρ m h) (T : St P (f.re ρ m h) ρ' m' h') : St P f ρ' m' h' where
  ns := T.ns
  bnd := T.bnd
  inj := T.inj
  sim := S.simBack T.sim
  stays := T.stays
  frames := T.frames
  newL := S.newL
  ownNew := fun a q => S.noneBack (T.ownNew a q)
  badOld := S.badOld
  badFr := S.badFr
  baseOld := S.baseOld
theorem St.keep (S : St P f ρ m h) (T : St P (f.re ρ m h) ρ' m' h') (a : Addr) (o : Obj) (e : h.get? a = some o) (n : ¬ f.badAt ρ m a) : h'.get? a = some o ∧ ¬ f.badAt ρ' m' a := by
  have e' : (f.re ρ m h).h₀ a = some o := re_of e (fun q => n (.inr (.inl q))) (fun q => n (.inr (.inr q)))
  refine ⟨T.sim.exact e' fun q => n (.inl q), fun q => ?_⟩
  rcases q with q | q | q
  · exact n (.inl q)
  · exact n (.inr (.inl q))
  · have := T.ownNew a q; rw (occs := .all) [e'] at this; cases this
theorem St.keepRd (S : St P f ρ m h) (T : St P (f.re ρ m h) ρ' m' h') {v : Value} {p : PV} (r : Rd P h (f.badAt ρ m) v p) : Rd P h' (f.badAt ρ' m') v p := r.move fun a o e n _ => S.keep T a o e n
theorem Fm.Ok.re {w : World} {n : Nat} {σ : Scope} (O : f.Ok w n σ) : (f.re ρ m h).Ok w n σ := ⟨O.frames, O.handled, O.depth, O.units, O.sc, O.kind, O.bs⟩
end
structure Exc where
  msg : Str
  code : List Str
noncomputable def clsRaised : Value := .ref 65
inductive StrsAre : List Value → List Str → Prop
  | nil : StrsAre [] []
  | cons {x : Str} {t : Tok} {vs : List Value} {xs : List Str} : StrsAre vs xs → StrsAre (.str x t :: vs) (x :: xs)
theorem StrsAre.rd {P : World} {h : Heap} {bad : Addr → Prop} : ∀ {vs : List Value} {xs : List Str}, StrsAre vs xs → RdL P h bad vs (xs.map PV.str)
  | _, _, .nil => .nil
  | _, _, .cons r => .cons (.str _ _) r.rd
theorem StrsAre.of_rd {P : World} {h : Heap} {bad : Addr → Prop} : ∀ {vs : List Value} {xs : List Str}, RdL P h bad vs (xs.map PV.str) → StrsAre vs xs := by
  intro vs xs
  induction xs generalizing vs with
  | nil => intro r; rw [RdL.n r]; exact .nil
  | cons x xs ih =>
    intro r
    obtain ⟨a, l, rfl, ra, rs⟩ := RdL.c r
    obtain ⟨t, rfl⟩ := ra.i
    exact .cons (ih rs)
noncomputable def ExcAttrs (bad : Addr → Prop) (h : Heap) (dx : Addr) (x : Exc) : Prop :=
  ¬ bad dx ∧ ∃ md t t' a o vs n, h.Ns dx md ∧ md ("code" : Str) = some (.int 1 t) ∧ md ("value" : Str) = some (.str x.msg t') ∧ md ("errorcode" : Str) = some (.ref a) ∧
    h.get? a = some o ∧ Cl o "tuple" ∧ o.data = .seq vs n ∧ ¬ bad a ∧ StrsAre vs.toList x.code
noncomputable def ExcNew (bad : Addr → Prop) (h : Heap) (e : Addr) (x : Exc) : Prop :=
  ∃ oe vs dx, h.get? e = some oe ∧ oe.cls = clsRaised ∧ oe.dict = some dx ∧ oe.data = .fields vs ∧ vs[1]? = some .none ∧ ExcAttrs bad h dx x
noncomputable def ExcFly (bad : Addr → Prop) (g : Addr → Option Obj) (h : Heap) (e : Addr) (x : Exc) (here : Value → Prop) : Prop :=
  ∃ oe vs dx, h.get? e = some oe ∧ oe.cls = clsRaised ∧ oe.dict = some dx ∧ oe.data = .fields vs ∧ 1 < vs.size ∧
    (vs[1]? = some .none ∨ ∃ T oT ts fl, vs[1]? = some (.ref T) ∧ g T = none ∧ T ≠ e ∧ h.get? T = some oT ∧ oT.data = .fields ts ∧ ts[3]? = some fl ∧ here fl) ∧ ExcAttrs bad h dx x
noncomputable def flagOk (L : Addr) (fl : Value) : Prop := fl = .none ∨ fl = rawInt L
noncomputable def Fm.badL (f : Fm) (a : Addr) : Prop := f.bad a ∨ a = f.L
structure Fly (f : Fm) (e : Addr) (x : Exc) (h : Heap) : Prop where
  exc : ExcFly f.badL f.h₀ h e x (flagOk f.L)
  new : f.h₀ e = none
  ns : ∃ m, h.Ns f.L m
  sim : Sim f.bad f.h₀ h
  stays : f.base.StaysIn h
  frames : h.FunFrames f.base (f.env :: f.outer)
  newL : f.h₀ f.L = none
inductive Fl where
  | next
  | brk
  | cont
  | ret (p : PV)
  | obj (x : Exc)
noncomputable def FlIn (P : World) (f : Fm) (ρ : PEnv) (m : Str → Option Value) (h : Heap) : Flow → Fl → Prop
  | .next, .next => True
  | .brk, .brk => True
  | .cont, .cont => True
  | .ret v, .ret p => Rd P h (f.badAt ρ m) v p
  | .ret v, .obj x => ∃ e, v = .ref e ∧ ExcNew f.bad h e x ∧ f.h₀ e = none
  | _, _ => False
noncomputable abbrev upd (s : Shared) (h : Heap) (tk : Nat) : Shared := { s with heap := h, toks := tk }
noncomputable def ev (w : World) (n : Nat) (σ : Scope) (e : Expr) (ρ : PEnv) (Q : PEnv → PV → Prop) (X : Exc → Prop) : Prop :=
  ∀ (f : Fm) (s : Shared) (m : Str → Option Value) (QV EV : Value → Shared → Prop), f.Ok w n σ → St w f ρ m s.heap →
    (∀ ρ' p v h' tk', St w f ρ' m h' → Rd w h' (f.badAt ρ' m) v p → Q ρ' p → QV v (upd s h' tk')) →
    (∀ x a h' tk', Fly f a x h' → X x → EV (.ref a) (upd s h' tk')) →
    wpAny (model prg w) f.A (eval e f.env) QV EV s
noncomputable def evs (w : World) (n : Nat) (σ : Scope) (es : List Expr) (ρ : PEnv) (Q : PEnv → List PV → Prop) (X : Exc → Prop) : Prop :=
  ∀ (f : Fm) (s : Shared) (m : Str → Option Value) (pos : Pos) (QV : List Value → Shared → Prop) (EV : Value → Shared → Prop), f.Ok w n σ → St w f ρ m s.heap →
    (∀ ρ' ps vs h' tk', St w f ρ' m h' → RdL w h' (f.badAt ρ' m) vs ps → Q ρ' ps → QV vs (upd s h' tk')) →
    (∀ x a h' tk', Fly f a x h' → X x → EV (.ref a) (upd s h' tk')) →
    wpAny (model prg w) f.A (spliced (backTo pos (starEach es f.env))) QV EV s
noncomputable def evb (w : World) (n : Nat) (σ : Scope) (e : Expr) (ρ : PEnv) (Q : PEnv → Bool → Prop) (X : Exc → Prop) : Prop :=
  ∀ (f : Fm) (s : Shared) (m : Str → Option Value) (QV : Bool → Shared → Prop) (EV : Value → Shared → Prop), f.Ok w n σ → St w f ρ m s.heap →
    (∀ ρ' b h' tk', St w f ρ' m h' → Q ρ' b → QV b (upd s h' tk')) →
    (∀ x a h' tk', Fly f a x h' → X x → EV (.ref a) (upd s h' tk')) →
    wpAny (model prg w) f.A (isTrue e f.env (eval e f.env)) QV EV s
noncomputable def evo (w : World) (n : Nat) (σ : Scope) (e : Expr) (ρ : PEnv) (Q : Exc → Prop) : Prop :=
  ∀ (f : Fm) (s : Shared) (m : Str → Option Value) (QV EV : Value → Shared → Prop), f.Ok w n σ → St w f ρ m s.heap →
    (∀ ρ' x a h' tk', St w f ρ' m h' → ExcNew f.badL h' a x → f.h₀ a = none → Q x → QV (.ref a) (upd s h' tk')) →
    wpAny (model prg w) f.A (eval e f.env) QV EV s
structure Ks where
  B : PEnv → Prop
  C : PEnv → Prop
  R : PV → Prop
  O : Exc → Prop
noncomputable def Fl.post (N : PEnv → Prop) (k : Ks) (ρ : PEnv) : Fl → Prop
  | .next => N ρ
  | .brk => k.B ρ
  | .cont => k.C ρ
  | .ret p => k.R p
  | .obj x => k.O x
noncomputable def ex (w : World) (n : Nat) (σ : Scope) (st : Stmt) (ρ : PEnv) (N : PEnv → Prop) (k : Ks) (X : Exc → Prop) : Prop :=
  ∀ (f : Fm) (s : Shared) (m : Str → Option Value) (QV : Flow → Shared → Prop) (EV : Value → Shared → Prop), f.Ok w n σ → St w f ρ m s.heap →
    (∀ ρ' m' fl flv h' tk', St w f ρ' m' h' → FlIn w f ρ' m' h' flv fl → fl.post N k ρ' → QV flv (upd s h' tk')) →
    (∀ x a h' tk', Fly f a x h' → X x → EV (.ref a) (upd s h' tk')) →
    wpAny (model prg w) f.A (exec st f.env) QV EV s
noncomputable def exs (w : World) (n : Nat) (σ : Scope) (sts : List Stmt) (ρ : PEnv) (N : PEnv → Prop) (k : Ks) (X : Exc → Prop) : Prop :=
  ∀ (f : Fm) (s : Shared) (m : Str → Option Value) (QV : Flow → Shared → Prop) (EV : Value → Shared → Prop), f.Ok w n σ → St w f ρ m s.heap →
    (∀ ρ' m' fl flv h' tk', St w f ρ' m' h' → FlIn w f ρ' m' h' flv fl → fl.post N k ρ' → QV flv (upd s h' tk')) →
    (∀ x a h' tk', Fly f a x h' → X x → EV (.ref a) (upd s h' tk')) →
    wpAny (model prg w) f.A (execs sts f.env) QV EV s
structure CallOk (w : World) (n : Nat) (A : Around) (base : Heap) (outer : List Env) (bad : Addr → Prop) (h : Heap) : Prop where
  frames : A.frames = some outer
  handled : A.handled = none
  depth : A.depth + n < recursionLimit
  units : A.units + 16 * n < cLine
  bs : Bs w base
  stays : base.StaysIn h
  funs : h.FunFrames base outer
  badOld : ∀ a, bad a → ∃ o, h.get? a = some o
  badFr : ∀ e ∈ outer, ∀ a, e.frame = some a → bad a
  badBase : ∀ b o, base.get? b = some o → ¬ bad b
structure Out (bad : Addr → Prop) (h : Heap) (e : Addr) (x : Exc) (h' : Heap) : Prop where
  exc : ExcFly bad h.get? h' e x (· = .none)
  new : h.get? e = none
  sim : Sim bad h.get? h'
noncomputable def fnc (w : World) (n : Nat) (fa : Addr) (ps : List PV) (Q : PV → Prop) (X : Exc → Prop) : Prop :=
  ∀ (A : Around) (base : Heap) (outer : List Env) (bad : Addr → Prop) (s : Shared) (vs : List Value) (R : Result → Shared → Prop), CallOk w n A base outer bad s.heap → RdL w s.heap bad vs ps →
    (∀ p v h' tk', Sim bad s.heap.get? h' → Rd w h' bad v p → Q p → R (.ok (.ret v)) (upd s h' tk')) →
    (∀ x a h' tk', Out bad s.heap a x h' → X x → R (.error (.ref a)) (upd s h' tk')) →
    codeAny (model prg w) A (.call (.ref fa) ⟨vs, []⟩) R s
noncomputable def fno (w : World) (n : Nat) (fa : Addr) (ps : List PV) (Q : Exc → Prop) : Prop :=
  ∀ (A : Around) (base : Heap) (outer : List Env) (bad : Addr → Prop) (s : Shared) (vs : List Value) (R : Result → Shared → Prop), CallOk w n A base outer bad s.heap → RdL w s.heap bad vs ps →
    (∀ x a h' tk', Sim bad s.heap.get? h' → ExcNew bad h' a x → s.heap.get? a = none → Q x → R (.ok (.ret (.ref a))) (upd s h' tk')) →
    codeAny (model prg w) A (.call (.ref fa) ⟨vs, []⟩) R s
section
variable {w : World} {n : Nat} {σ : Scope} {ρ : PEnv} {X X' : Exc → Prop}
theorem Fly.back {P : World} {f : Fm} {m : Str → Option Value} {h h' : Heap} {e : Addr} {x : Exc} (S : St P f ρ m h) (F : Fly (f.re ρ m h) e x h') : Fly f e x h' where
  exc := by
    obtain ⟨oe, vs, dx, h1, h2, h3, h4, h5, h6, h7⟩ := F.exc
    refine ⟨oe, vs, dx, h1, h2, h3, h4, h5, ?_, h7⟩
    rcases h6 with h6 | ⟨T, oT, ts, fl, a1, a2, a3⟩
    · exact .inl h6
    · exact .inr ⟨T, oT, ts, fl, a1, S.noneBack a2, a3⟩
  new := S.noneBack F.new
  ns := F.ns
  sim := S.simBack F.sim
  stays := F.stays
  frames := F.frames
  newL := S.newL
theorem ev_mono {e : Expr} {Q Q' : PEnv → PV → Prop} (h : ev w n σ e ρ Q X) (hQ : ∀ ρ' p, Q ρ' p → Q' ρ' p) (hX : ∀ x, X x → X' x) : ev w n σ e ρ Q' X' :=
  fun f s m QV EV O S K E => h f s m QV EV O S (fun ρ' p v h' tk' a b c => K ρ' p v h' tk' a b (hQ _ _ c)) (fun x a h' tk' b c => E x a h' tk' b (hX _ c))
theorem evb_mono {e : Expr} {Q Q' : PEnv → Bool → Prop} (h : evb w n σ e ρ Q X) (hQ : ∀ ρ' p, Q ρ' p → Q' ρ' p) (hX : ∀ x, X x → X' x) : evb w n σ e ρ Q' X' :=
  fun f s m QV EV O S K E => h f s m QV EV O S (fun ρ' p h' tk' a c => K ρ' p h' tk' a (hQ _ _ c)) (fun x a h' tk' b c => E x a h' tk' b (hX _ c))
theorem exs_mono {sts : List Stmt} {N N' : PEnv → Prop} {k k' : Ks} (h : exs w n σ sts ρ N k X) (hQ : ∀ (fl : Fl) ρ', fl.post N k ρ' → fl.post N' k' ρ') (hX : ∀ x, X x → X' x) : exs w n σ sts ρ N' k' X' :=
  fun f s m QV EV O S C E => h f s m QV EV O S (fun ρ' m' p v h' tk' a b c => C ρ' m' p v h' tk' a b (hQ _ _ c)) (fun x a h' tk' b c => E x a h' tk' b (hX _ c))
theorem fnc_mono {fa : Addr} {ps : List PV} {n' : Nat} {Q Q' : PV → Prop} (h : fnc w n fa ps Q X) (hn : n ≤ n') (hQ : ∀ p, Q p → Q' p) (hX : ∀ x, X x → X' x) : fnc w n' fa ps Q' X' :=
  fun A base outer bad s vs R C r K E => h A base outer bad s vs R ⟨C.frames, C.handled, by have := C.depth; omega, by have := C.units; omega, C.bs, C.stays, C.funs, C.badOld, C.badFr, C.badBase⟩ r
    (fun p v h' tk' a b c => K p v h' tk' a b (hQ _ c)) (fun x a h' tk' b c => E x a h' tk' b (hX _ c))
theorem exs_nil {N : PEnv → Prop} {k : Ks} (h : N ρ) : exs w n σ [] ρ N k X :=
  fun f s m QV EV O S C E => wpAny_execs_nil (C ρ m .next .next s.heap s.toks S trivial h)
theorem exs_cons {st : Stmt} {rest : List Stmt} {N : PEnv → Prop} {k : Ks} (h : ex w n σ st ρ (fun ρ' => exs w n σ rest ρ' N k X) k X) : exs w n σ (st :: rest) ρ N k X := by
  intro f s m QV EV O S C E
  refine wpAny_execs_cons (h f s m _ EV O S (fun ρ' m' fl flv h' tk' S' I q => ?_) E)
  cases flv with
  | next =>
    cases fl with
    | next => exact q f (upd s h' tk') m' QV EV O S' (fun ρ'' m'' fl flv h'' tk'' a b c => C ρ'' m'' fl flv h'' tk'' a b c) (fun x a h'' tk'' b c => E x a h'' tk'' b c)
    | _ => exact I.elim
  | brk => cases fl with
    | brk => exact C _ _ .brk _ _ _ S' I q
    | _ => exact I.elim
  | cont => cases fl with
    | cont => exact C _ _ .cont _ _ _ S' I q
    | _ => exact I.elim
  | ret v => cases fl with
    | ret p => exact C _ _ (.ret p) _ _ _ S' I q
    | obj p => exact C _ _ (.obj p) _ _ _ S' I q
    | _ => exact I.elim
theorem evs_nil {Q : PEnv → List PV → Prop} (h : Q ρ []) : evs w n σ [] ρ Q X :=
  fun f s m pos QV EV O S K E => wpAny_items_nil (K ρ [] [] s.heap s.toks S .nil h)
theorem evs_cons {e : Expr} {rest : List Expr} {Q : PEnv → List PV → Prop} (h : ev w n σ e ρ (fun ρ' p => evs w n σ rest ρ' (fun ρ'' ps => Q ρ'' (p :: ps)) X) X)
    (he : ∀ env, starEach (e :: rest) env = (false, eval e env) :: starEach rest env := by intro _; with_unfolding_all rfl) : evs w n σ (e :: rest) ρ Q X := by
  intro f s m pos QV EV O S K E
  refine args_cons (h f s m _ EV O S (fun ρ' p v h' tk' S' r k => ?_) E) (he _)
  exact k (f.re ρ' m h') (upd s h' tk') m pos _ EV O.re S'.re (fun ρ'' ps vs h'' tk'' S'' rs q => K _ _ _ _ _ (S'.back S'') (.cons (S'.keepRd S'' r) rs) q)
    (fun x a h'' tk'' F q => E x a h'' tk'' (F.back S') q)
end
structure FlyT (f : Fm) (e : Addr) (x : Exc) (h : Heap) (fl : Value) : Prop where
  exc : ∃ oe vs dx T oT ts, h.get? e = some oe ∧ oe.cls = clsRaised ∧ oe.dict = some dx ∧ oe.data = .fields vs ∧ vs[1]? = some (.ref T) ∧ f.h₀ T = none ∧ T ≠ e ∧ h.get? T = some oT ∧ oT.data = .fields ts ∧ ts[3]? = some fl ∧ ExcAttrs f.badL h dx x
  new : f.h₀ e = none
  ns : ∃ m, h.Ns f.L m
  sim : Sim f.bad f.h₀ h
  stays : f.base.StaysIn h
  frames : h.FunFrames f.base (f.env :: f.outer)
  newL : f.h₀ f.L = none
theorem getElem?_lt {α : Type} {vs : Array α} {i : Nat} {x : α} (h : vs[i]? = some x) : i < vs.size := (Array.getElem?_eq_some_iff.mp h).1
theorem FlyT.fly {f : Fm} {e : Addr} {x : Exc} {h : Heap} {fl : Value} (F : FlyT f e x h fl) (q : flagOk f.L fl) : Fly f e x h where
  exc := by
    obtain ⟨oe, vs, dx, T, oT, ts, h1, h2, h3, h4, h5, h6, h7, h8, h9, h10, h11⟩ := F.exc
    exact ⟨oe, vs, dx, h1, h2, h3, h4, getElem?_lt h5, .inr ⟨T, oT, ts, fl, h5, h6, h7, h8, h9, h10, q⟩, h11⟩
  new := F.new
  ns := F.ns
  sim := F.sim
  stays := F.stays
  frames := F.frames
  newL := F.newL
theorem dict_mapFields (o : Obj) (g : Array Value → Array Value) : (o.mapFields g).dict = o.dict := by
  obtain ⟨c, d, dt, sl⟩ := o; cases dt <;> rfl
theorem ExcAttrs.upTo {bad : Addr → Prop} {h h' : Heap} {dx : Addr} {x : Exc} (k : h.UpToSlots h') (A : ExcAttrs bad h dx x) : ExcAttrs bad h' dx x := by
  obtain ⟨nd, md, t, t', a, o, vs, n, h1, h2, h3, h4, h5, h6, h7, h8, h9⟩ := A
  obtain ⟨sl, hs⟩ := k a o h5 fun vs q => by rw (occs := .all) [h7] at q; cases q
  exact ⟨nd, md, t, t', a, _, vs, n, k.ns h1, h2, h3, h4, hs, ⟨h6.cls, h6.dict⟩, h7, h8, h9⟩
theorem ExcAttrs.sim {bad : Addr → Prop} {h h' : Heap} {dx : Addr} {x : Exc} (k : Sim bad h.get? h') (A : ExcAttrs bad h dx x) : ExcAttrs bad h' dx x :=
  A.upTo fun b o e _ => let ⟨sl, h1, _⟩ := k b o e; ⟨sl, h1⟩
theorem ExcAttrs.mono {bad bad' : Addr → Prop} {h : Heap} {dx : Addr} {x : Exc} (k : ∀ a, bad' a → bad a) (A : ExcAttrs bad h dx x) : ExcAttrs bad' h dx x := by
  obtain ⟨nd, md, t, t', a, o, vs, n, h1, h2, h3, h4, h5, h6, h7, h8, h9⟩ := A
  exact ⟨fun q => nd (k _ q), md, t, t', a, o, vs, n, h1, h2, h3, h4, h5, h6, h7, fun q => h8 (k _ q), h9⟩
section
variable {M : Model} {A : Around} {E : Value → Shared → Prop} {s : Shared} {f : Fm} {e : Addr} {x : Exc}
theorem flight_any {oe : Obj} {vs : Array Value} {T : Addr} {oT : Obj} {ts : Array Value} {fl : Value} {fr : Option Addr} {Q : Unit → Shared → Prop}
    (h1 : s.heap.get? e = some oe) (h2 : oe.data = .fields vs) (h3 : vs[1]? = some (.ref T)) (h4 : s.heap.get? T = some oT) (h5 : oT.data = .fields ts) (h6 : ts[3]? = some fl)
    (h : Q () { s with heap := s.heap.update T (Obj.mapFields (·.setIfInBounds 3 (fr.elim .none fun f => rawInt f))) }) : wpAny M A (setFlight (.ref e) fr) Q E s := by
  unfold setFlight
  refine wpAny_bind (wpAny_field h1 h2 h3 ?_)
  rw (occs := .all) [if_pos (show (Value.ref T != Value.none) = true from by simp)]
  exact wpAny_setField h4 h5 (getElem?_lt h6) h
theorem FlyT.flag {f : Fm} {e : Addr} {x : Exc} {h : Heap} {fl : Value} (F : FlyT f e x h fl) (B : ∀ b o, f.base.get? b = some o → f.h₀ b = some o) (fl' : Value) :
    ∃ oe vs T oT ts, h.get? e = some oe ∧ oe.data = .fields vs ∧ vs[1]? = some (.ref T) ∧ h.get? T = some oT ∧ oT.data = .fields ts ∧ ts[3]? = some fl ∧
      FlyT f e x (h.update T (Obj.mapFields (·.setIfInBounds 3 fl'))) fl' := by
  obtain ⟨oe, vs, dx, T, oT, ts, h1, h2, h3, h4, h5, h6, h7, h8, h9, h10, h11⟩ := F.exc
  refine ⟨oe, vs, T, oT, ts, h1, h4, h5, h8, h9, h10, ?_⟩
  have other : ∀ b, b ≠ T → (h.update T (Obj.mapFields (·.setIfInBounds 3 fl'))).get? b = h.get? b := fun b hb => Heap.get?_update_other _ _ (Ne.symm hb)
  have hd := Obj.data_mapFields h9 (·.setIfInBounds 3 fl')
  have hT := Heap.get?_update_self (Obj.mapFields (·.setIfInBounds 3 fl')) h8 (Obj.isFreed_of_fields hd)
  have up : h.UpToSlots (h.update T (Obj.mapFields (·.setIfInBounds 3 fl'))) := fun b o hb hn => ⟨o.slots, (other b fun q => by rw (occs := .all) [q, h8] at hb; cases hb; exact hn ts h9).trans hb⟩
  refine ⟨⟨oe, vs, dx, T, _, _, (other e (Ne.symm h7)).trans h1, h2, h3, h4, h5, h6, h7, hT, hd, by rw [Array.getElem?_setIfInBounds_self_of_lt (getElem?_lt h10)], h11.upTo up⟩, F.new, ?_, ?_, ?_, ?_, F.newL⟩
  · obtain ⟨m, hm⟩ := F.ns
    exact ⟨m, up.ns hm⟩
  · intro b o hb
    obtain ⟨sl, k1, k2⟩ := F.sim b o hb
    exact ⟨sl, (other b fun q => by rw (occs := .all) [q, h6] at hb; cases hb).trans k1, k2⟩
  · intro b o hb
    exact (other b fun q => by rw (occs := .all) [q] at hb; have := B _ _ hb; rw (occs := .all) [h6] at this; cases this).trans (F.stays b o hb)
  · exact F.frames.of_keeps fun b o hb hn => let ⟨sl, q⟩ := up b o hb hn; ⟨_, q, rfl⟩
theorem flight {fl : Value} {fr : Option Addr} {Q : Unit → Shared → Prop} (F : FlyT f e x s.heap fl) (B : ∀ b o, f.base.get? b = some o → f.h₀ b = some o)
    (h : ∀ h', FlyT f e x h' (fr.elim .none fun f => rawInt f) → Q () { s with heap := h' }) : wpAny M A (setFlight (.ref e) fr) Q E s := by
  obtain ⟨oe, vs, T, oT, ts, h1, h2, h3, h4, h5, h6, h7⟩ := F.flag B (fr.elim .none fun f => rawInt f)
  exact flight_any h1 h2 h3 h4 h5 h6 (h _ h7)
theorem entry_new {oe : Obj} {vs : Array Value} {head : Value} {hadNext : Bool} {dx : Addr} {Q : Unit → Shared → Prop} (hA : A.frames = some (f.env :: f.outer)) (B : ∀ b o, f.base.get? b = some o → f.h₀ b = some o) (C : ∀ en ∈ f.outer, ∀ a, en.frame = some a → f.bad a)
    (he : s.heap.get? e = some oe) (hc : oe.cls = clsRaised) (hdx : oe.dict = some dx) (hd : oe.data = .fields vs) (hsz : 1 < vs.size) (ha : ExcAttrs f.badL s.heap dx x)
    (new : f.h₀ e = none) (ns : ∃ m, s.heap.Ns f.L m) (sim : Sim f.bad f.h₀ s.heap) (stays : f.base.StaysIn s.heap) (frames : s.heap.FunFrames f.base (f.env :: f.outer)) (newL : f.h₀ f.L = none)
    (h : ∀ h', FlyT f e x h' (rawInt f.L) → Q () { s with heap := h' }) :
    wpAny M A (do let a ← frameOf f.env; let pl ← entryPlaceOf f.L hadNext; let b ← EntryCells.newEntry head a .none (rawInt f.L) .none pl; setField (.ref e) 1 b) Q E s := by
  have hene : e ∉ (f.env :: f.outer).filterMap (·.frame) := fun hm => by
    obtain ⟨_, o, ho, hnf⟩ := frames.mem hm
    rw (occs := .all) [he] at ho; injection ho with ho; subst ho; exact hnf vs hd
  refine wpAny_bind (wpAny_frameOf_fun hA frames rfl fun h₁ hs₁ => ?_)
  refine wpAny_bind (wpAny_entryPlaceOf fun pl hpl => ?_)
  unfold EntryCells.newEntry newFields
  refine wpAny_bind (wpAny_newObj_type ?_ (hpl.sizeOk5 _ _ _ _ _))
  have he₁ : h₁.get? e = some oe := (hs₁.2.1 e hene).trans he
  have hen : f.base.get? e = none := by
    cases q : f.base.get? e with
    | none => rfl
    | some o => have := B _ _ q; rw (occs := .all) [new] at this; cases this
  have kb₁ : f.base.StaysIn h₁ := fun b o hbo => (hs₁.2.1 b fun hm => by rw (occs := .all) [(frames.mem hm).1] at hbo; cases hbo).trans (stays b o hbo)
  have he₂ := Heap.get?_push_of_some (h := h₁) { cls := .type "traceback", dict := none, data := .fields ([head, .ref f.L, .none, rawInt f.L, .none] ++ (if pl.isEmpty then List.replicate 6 Value.none else pl)).toArray } he₁
  refine wpAny_setField he₂ hd hsz (h _ ?_)
  have hTe : h₁.objs.size ≠ e := Nat.ne_of_gt (Heap.lt_size he₁)
  have hd₃ := Obj.data_mapFields hd (·.setIfInBounds 1 (Value.ref h₁.objs.size))
  have he₃ := Heap.get?_update_self (Obj.mapFields (·.setIfInBounds 1 (Value.ref h₁.objs.size))) he₂ (Obj.isFreed_of_fields hd₃)
  have hT₃ := (Heap.get?_update_other (h₁.push { cls := .type "traceback", dict := none, data := .fields ([head, .ref f.L, .none, rawInt f.L, .none] ++ (if pl.isEmpty then List.replicate 6 Value.none else pl)).toArray })
    (Obj.mapFields (·.setIfInBounds 1 (Value.ref h₁.objs.size))) (Ne.symm hTe)).trans (Heap.get?_push_size h₁ rfl)
  have keep : ∀ b o, b ≠ e → h₁.get? b = some o →
      ((h₁.push { cls := .type "traceback", dict := none, data := .fields ([head, .ref f.L, .none, rawInt f.L, .none] ++ (if pl.isEmpty then List.replicate 6 Value.none else pl)).toArray }).update e (Obj.mapFields (·.setIfInBounds 1 (Value.ref h₁.objs.size)))).get? b = some o :=
    fun b o hbe hb => by
      rw (occs := .all) [Heap.get?_update_other _ _ (Ne.symm hbe)]
      exact Heap.get?_push_of_some _ hb
  have up : s.heap.UpToSlots ((h₁.push { cls := .type "traceback", dict := none, data := .fields ([head, .ref f.L, .none, rawInt f.L, .none] ++ (if pl.isEmpty then List.replicate 6 Value.none else pl)).toArray }).update e (Obj.mapFields (·.setIfInBounds 1 (Value.ref h₁.objs.size)))) := fun b o hb hnf => by
    obtain ⟨sl, hs⟩ := hs₁.2.2 b o hb
    exact ⟨sl, keep b _ (fun q => by rw (occs := .all) [q, he] at hb; injection hb with hb; subst hb; exact hnf vs hd) hs⟩
  have hT0 : f.h₀ h₁.objs.size = none := by
    cases q : f.h₀ h₁.objs.size with
    | none => rfl
    | some o =>
      obtain ⟨sl, k1, _⟩ := sim _ _ q
      have := Heap.lt_size k1
      rw (occs := .all) [hs₁.1] at this
      exact absurd this (Nat.lt_irrefl _)
  refine ⟨⟨_, _, dx, h₁.objs.size, _, _, he₃, (Obj.cls_mapFields _ _).trans hc, (dict_mapFields _ _).trans hdx, hd₃, by simp [hsz], hT0, hTe, hT₃, rfl, ?_, ha.upTo up⟩, new, ?_, ?_, ?_, ?_, newL⟩
  · first | (simp; done) | (rcases hpl with rfl | ⟨_, _, _, _, _, _, _, rfl⟩ <;> simp)
  · obtain ⟨m, hm⟩ := ns
    exact ⟨m, up.ns hm⟩
  · intro b o hb
    obtain ⟨sl, k1, k2⟩ := sim b o hb
    have hbe : b ≠ e := fun q => by rw (occs := .all) [q, new] at hb; cases hb
    by_cases hm : b ∈ (f.env :: f.outer).filterMap (·.frame)
    · obtain ⟨sl', hs⟩ := hs₁.2.2 b _ k1
      refine ⟨sl', keep b _ hbe hs, fun n => (n ?_).elim⟩
      obtain ⟨en, hen', hf⟩ := List.mem_filterMap.mp hm
      rcases List.mem_cons.mp hen' with rfl | hen'
      · cases hf; rw (occs := .all) [newL] at hb; cases hb
      · exact C en hen' b hf
    · exact ⟨sl, keep b _ hbe ((hs₁.2.1 b hm).trans k1), k2⟩
  · intro b o hb
    exact keep b _ (fun q => by rw (occs := .all) [q, hen] at hb; cases hb) (kb₁ b o hb)
  · exact frames.of_keeps fun b o hb hn => let ⟨sl, q⟩ := up b o hb hn; ⟨_, q, rfl⟩
theorem note {Q : Unit → Shared → Prop} (F : Fly f e x s.heap) (hA : A.frames = some (f.env :: f.outer)) (B : ∀ b o, f.base.get? b = some o → f.h₀ b = some o) (C : ∀ en ∈ f.outer, ∀ a, en.frame = some a → f.bad a)
    (h : ∀ h', FlyT f e x h' (rawInt f.L) → Q () { s with heap := h' }) : wpAny M A (noteFrame (.ref e) f.env) Q E s := by
  obtain ⟨oe, vs, dx, h1, h2, h3, h4, h5, h6, h7⟩ := F.exc
  have hframe : f.env.frame = some f.L := rfl
  rcases h6 with h6 | ⟨T, oT, ts, fl, a1, a2, a3, a4, a5, a6, a7⟩
  · unfold noteFrame
    simp only [hframe]
    refine wpAny_bind (wpAny_field h1 h4 h6 ?_)
    rw (occs := .all) [if_neg (by decide)]
    exact entry_new hA B C h1 h2 h3 h4 h5 h7 F.new F.ns F.sim F.stays F.frames F.newL h
  · have G : FlyT f e x s.heap fl := ⟨⟨oe, vs, dx, T, oT, ts, h1, h2, h3, h4, a1, a2, a3, a4, a5, a6, h7⟩, F.new, F.ns, F.sim, F.stays, F.frames, F.newL⟩
    unfold noteFrame
    simp only [hframe]
    refine wpAny_bind (wpAny_field h1 h4 a1 ?_)
    rw (occs := .all) [if_pos (show (Value.ref T != Value.none) = true from by simp)]
    refine wpAny_bind (wpAny_field a4 a5 a6 ?_)
    rcases a7 with rfl | rfl
    · rw (occs := .all) [if_neg (show ¬ ((Value.none == rawInt f.L) = true) from by simp [rawInt])]
      obtain ⟨oe', vs', T', oT', ts', b1, b2, b3, b4, b5, b6, b7⟩ := G.flag B .none
      rw (occs := .all) [h1] at b1; cases b1
      rw (occs := .all) [h4] at b2; cases b2
      rw (occs := .all) [a1] at b3; cases b3
      refine wpAny_bind (wpAny_setField b4 b5 (getElem?_lt b6) ?_)
      obtain ⟨oe2, vs2, dx2, T2, oT2, ts2, c1, c2, c3, c4, c5, c6, c7, c8, c9, c10, c11⟩ := b7.exc
      have oth : (s.heap.update T (Obj.mapFields (·.setIfInBounds 3 Value.none))).get? e = s.heap.get? e := Heap.get?_update_other _ _ a3
      rw (occs := .all) [oth, h1] at c1; cases c1
      exact entry_new hA B C (oth.trans h1) c2 c3 c4 (getElem?_lt c5) c11 b7.new b7.ns b7.sim b7.stays b7.frames b7.newL h
    · rw (occs := .all) [if_pos (show (rawInt f.L == rawInt f.L) = true from by simp)]
      exact wpAny_pure (h s.heap G)
theorem leave {Q : Unit → Shared → Prop} (F : Fly f e x s.heap) (hA : A.frames = some (f.env :: f.outer)) (B : ∀ b o, f.base.get? b = some o → f.h₀ b = some o) (C : ∀ en ∈ f.outer, ∀ a, en.frame = some a → f.bad a)
    (h : ∀ h', FlyT f e x h' .none → Q () { s with heap := h' }) : wpAny M A (leaving f.env (.ref e)) Q E s := by
  unfold leaving
  exact wpAny_bind (note F hA B C fun h' G => flight G B fun h'' H => h h'' H)
theorem came {Q : Value → Shared → Prop} {fl : Value} (F : FlyT f e x s.heap fl) (B : ∀ b o, f.base.get? b = some o → f.h₀ b = some o)
    (h : ∀ h', FlyT f e x h' (rawInt f.L) → E (.ref e) { s with heap := h' }) : cameBackBy M A f.env E (.ref e) s := by
  unfold cameBackBy
  obtain ⟨oe, vs, dx, T, oT, ts, h1, h2, h3, h4, h5, h6, h7, h8, h9, h10, h11⟩ := F.exc
  refine wpAny_bind (wpAny_field h1 h4 h5 ?_)
  rw (occs := .all) [if_neg (by simp)]
  exact flight F B h
end
section
variable {P : World} {f : Fm} {ρ ρ' : PEnv} {m m' : Str → Option Value} {h h' : Heap}
theorem St.simCall (S : St P f ρ m h) (k : Sim (f.badAt ρ m) h.get? h') : Sim f.bad f.h₀ h' := by
  intro b o e
  obtain ⟨sl, h1, h2⟩ := S.sim b o e
  obtain ⟨sl', h3, h4⟩ := k b _ h1
  refine ⟨sl', h3, fun n => (h4 fun q => ?_).trans (h2 n)⟩
  rcases q with q | q | q
  · exact n q
  · rw (occs := .all) [q, S.newL] at e; cases e
  · rw (occs := .all) [S.ownNew _ q] at e; cases e
theorem St.staysSim (S : St P f ρ m h) (k : Sim f.bad f.h₀ h') : f.base.StaysIn h' := fun b o e => let ⟨h1, h2⟩ := S.baseOld b o e; k.exact h1 h2
theorem St.old (S : St P f ρ m h) {a : Addr} (e : h.get? a = none) : f.h₀ a = none := by
  cases q : f.h₀ a with
  | none => rfl
  | some o => obtain ⟨sl, h1, _⟩ := S.sim a o q; rw (occs := .all) [e] at h1; cases h1
theorem St.call (S : St P f ρ m h) (k : Sim (f.badAt ρ m) h.get? h') : St P f ρ m h' where
  ns := k.ns S.ns
  bnd := fun x b e => by
    have q := S.bnd x b e
    cases b with
    | fz p =>
      obtain ⟨v, h1, h2⟩ := q
      exact ⟨v, h1, h2.move fun a o e n _ => ⟨k.exact e n, n⟩⟩
    | own l =>
      obtain ⟨a, o, vs, n, h1, h2, h3, h4, h5⟩ := q
      obtain ⟨sl, g1, _⟩ := k a o h2
      exact ⟨a, _, vs, n, h1, g1, ⟨h3.cls, h3.dict⟩, h4, h5.move fun a o e n _ => ⟨k.exact e n, n⟩⟩
  inj := S.inj
  sim := S.simCall k
  stays := S.staysSim (S.simCall k)
  frames := k.frames S.frames
  newL := S.newL
  ownNew := S.ownNew
  badOld := S.badOld
  badFr := S.badFr
  baseOld := S.baseOld
theorem St.out (S : St P f ρ m h) {e : Addr} {x : Exc} (O : Out (f.badAt ρ m) h e x h') : Fly f e x h' where
  exc := by
    obtain ⟨oe, vs, dx, h1, h2, h3, h4, h5, h6, h7⟩ := O.exc
    refine ⟨oe, vs, dx, h1, h2, h3, h4, h5, ?_, h7.mono fun a q => q.elim .inl fun q => .inr (.inl q)⟩
    rcases h6 with h6 | ⟨T, oT, ts, fl, a1, a2, a3, a4, a5, a6, a7⟩
    · exact .inl h6
    · exact .inr ⟨T, oT, ts, fl, a1, S.old a2, a3, a4, a5, a6, .inl a7⟩
  new := S.old O.new
  ns := ⟨m, O.sim.ns S.ns⟩
  sim := S.simCall O.sim
  stays := S.staysSim (S.simCall O.sim)
  frames := O.sim.frames S.frames
  newL := S.newL
theorem Rd.call {v : Value} {p : PV} {bad : Addr → Prop} (r : Rd P h bad v p) (k : Sim bad h.get? h') : Rd P h' bad v p := r.move fun a o e n _ => ⟨k.exact e n, n⟩
theorem RdL.call {v : List Value} {p : List PV} {bad : Addr → Prop} (r : RdL P h bad v p) (k : Sim bad h.get? h') : RdL P h' bad v p := r.move fun a o e n _ => ⟨k.exact e n, n⟩
theorem Rd.less {v : Value} {p : PV} {bad bad' : Addr → Prop} (r : Rd P h bad v p) (k : ∀ a, bad' a → bad a) : Rd P h bad' v p := r.move fun a o e n _ => ⟨e, fun q => n (k a q)⟩
theorem lookup_rev {α : Type} : ∀ {l : List (Str × α)} (_ : (l.map (·.1)).Nodup) (x : Str), l.reverse.lookup x = l.lookup x
  | [], _, _ => rfl
  | (y, a) :: l, n, x => by
    rw (occs := .all) [List.map_cons, List.nodup_cons] at n
    rw (occs := .all) [List.reverse_cons, List.lookup_append, lookup_rev n.2 x, List.lookup_cons]
    by_cases q : x = y
    · subst q
      have : l.lookup x = none := by
        cases z : l.lookup x with
        | none => rfl
        | some b =>
          exact (n.1 (by
            clear n
            induction l with
            | nil => cases z
            | cons c l ih =>
              rw (occs := .all) [List.lookup_cons] at z
              rw (occs := .all) [List.map_cons]
              by_cases e : x = c.1
              · rw (occs := .all) [e]; exact .head _
              · have : (x == c.1) = false := by simpa using e
                rw (occs := .all) [this] at z
                exact .tail _ (ih z))).elim
      rw (occs := .all) [this]
      simp [List.lookup]
    · have : (x == y) = false := by simpa using q
      simp only [this, List.lookup]
      cases l.lookup x <;> rfl
theorem lookup_zip {bad : Addr → Prop} : ∀ {xs : List Str} {vs : List Value} {ps : List PV} {x : Str} {b : Bnd}, xs.length = ps.length → RdL P h bad vs ps → (xs.zip (ps.map Bnd.fz)).lookup x = some b →
    ∃ v p, b = .fz p ∧ (xs.zip vs).lookup x = some v ∧ Rd P h bad v p
  | [], _, [], _, _, _, _, e => by simp at e
  | y :: xs, _, p :: ps, x, b, hl, .cons (v := v) (vs := vs) r rs, e => by
    simp only [List.map_cons, List.zip_cons_cons, List.lookup_cons] at e ⊢
    split at e
    · cases e
      exact ⟨v, p, rfl, rfl, r⟩
    · exact lookup_zip (by simpa using hl) rs e
end
section
variable {w : World} {n : Nat} {σ : Scope}
theorem fly_start {A : Around} {base : Heap} {outer : List Env} {bad : Addr → Prop} {s : Shared} (C : CallOk w n A base outer bad s.heap) : ∀ b o, base.get? b = some o → s.heap.get? b = some o ∧ ¬ bad b := fun b o e => ⟨C.stays b o e, C.badBase b o e⟩
theorem fnc_body {fa : Addr} {xs : List Str} {ps : List PV} {Q : PV → Prop} {X : Exc → Prop} {name qual : Str} {params : Arguments} {body : List Stmt} {dV kV doc pm cdv ct oc : Value} {an od : Option Addr} {osl : Array (Option Value)}
    (ho : (hp w.params).lookup fa = some ⟨oc, od, .func (fnOf name qual params body σ dV kV doc pm an cdv ct), osl⟩) (hcd : codeIn (hp w.params) cdv qual = true)
    (hbind : ∀ s vs, vs.length = ps.length → BindsTo s (fnOf name qual params body σ dV kV doc pm an cdv ct) ⟨vs, []⟩ (xs.zip vs)) (hn : xs.Nodup) (hl : xs.length = ps.length)
    (hloc : ∀ y ∈ xs, σ.names.lookup y = some .local) (hcell : ∀ x ∈ σ.names, x.2 ≠ .cell) (hco : σ.isCoroutine = false) (hgen : σ.isGenerator = false) (hk : σ.kind = .function)
    {ρ₀ : PEnv} (hρ : xs.zip (ps.map Bnd.fz) = ρ₀) (h : exs w n σ body ρ₀ (fun _ => Q .none) ⟨fun _ => False, fun _ => False, Q, fun _ => False⟩ X) : fnc w (n + 1) fa ps Q X := by
  subst hρ
  intro A base outer bad s vs R C r K E
  have hlen := r.length
  have hvl : xs.length = vs.length := hl.trans hlen.symm
  obtain ⟨loose, mean, mg, mb, T⟩ := C.bs.t
  refine codeAny_call_def (fd := fnOf name qual params body σ dV kV doc pm an cdv ct) (body := body) (binds := xs.zip vs) (by have := C.depth; omega) (C.stays _ _ (C.bs.k _ _ ho)) rfl (T.nolimit.keeps C.stays) ((codeRec_of C.bs.k hcd).keeps C.stays) rfl (hbind s vs hlen) hcell
    (fun y hy => hloc _ (List.of_mem_zip hy).1) (fun h₁ hns hk₁ => ?_) hco hgen hk
  have hzm : (xs.zip vs).map (·.1) = xs := List.map_fst_zip (by omega)
  have hns' : h₁.Ns s.heap.objs.size fun x => (xs.zip vs).lookup x := by
    have : (fun x => List.lookup x (xs.zip vs).reverse) = fun x => (xs.zip vs).lookup x := funext fun x => lookup_rev (by rw [hzm]; exact hn) x
    rw (occs := .all) [← this]; exact hns
  let f : Fm := { A := A.deeper (callEnv (fnOf name qual params body σ dV kV doc pm an cdv ct) s.heap.objs.size fa), base := base, h₀ := s.heap.get?, outer := outer, qual := qual, scope := σ, L := s.heap.objs.size, a := fa, cd := cdv, bad := bad }
  have hsz : s.heap.get? s.heap.objs.size = none := by
    cases q : s.heap.get? s.heap.objs.size with
    | none => rfl
    | some o => exact absurd (Heap.lt_size q) (Nat.lt_irrefl _)
  have noOwn : ∀ {ρ : PEnv} {x l}, ρ = xs.zip (ps.map Bnd.fz) → ρ.lookup x = some (Bnd.own l) → False := by
    intro ρ x l e q
    subst e
    obtain ⟨v, p, e1, _⟩ := lookup_zip hl r q
    cases e1
  have hbase := fly_start C
  have S : St w f (xs.zip (ps.map Bnd.fz)) (fun x => (xs.zip vs).lookup x) h₁ := by
    refine ⟨hns', fun x b e => ?_, fun x y l l' e => (noOwn rfl e).elim, Sim.of_keeps hk₁, fun b o e => hk₁ b o (C.stays b o e), ?_, hsz, ?_, C.badOld, C.badFr, hbase⟩
    · obtain ⟨v, p, e1, e2, e3⟩ := lookup_zip hl r e
      subst e1
      refine ⟨v, e2, e3.move fun a o q nb _ => ⟨hk₁ a o q, fun z => ?_⟩⟩
      rcases z with z | z | z
      · exact nb z
      · rw (occs := .all) [z] at q; rw (occs := .all) [show f.L = s.heap.objs.size from rfl, hsz] at q; cases q
      · obtain ⟨x', l', e', _⟩ := z
        exact noOwn rfl e'
    · refine Heap.FunFrames.cons (L := s.heap.objs.size) (by show σ.kind ≠ .module; rw [hk]; decide) rfl hns' ?_ (C.funs.of_keeps fun b o e _ => ⟨o, hk₁ b o e, rfl⟩)
      cases q : base.get? s.heap.objs.size with
      | none => rfl
      | some o => have := (hbase _ _ q).1; rw (occs := .all) [hsz] at this; cases this
    · rintro a ⟨x', l', e', _⟩
      exact (noOwn rfl e').elim
  have O : f.Ok w n σ := ⟨by show (A.deeper _).frames = _; exact Around.frames_deeper C.frames, fun _ => C.handled, by show A.depth + 1 + n < _; have := C.depth; omega, by show A.units + 3 + 16 * n < _; have := C.units; omega, rfl, hk, C.bs⟩
  refine h f _ _ _ _ O S ?_ ?_
  · intro ρ' m' fl flv h' tk' S' I k
    cases fl with
    | next =>
      cases flv with
      | next => exact K _ _ h' tk' S'.sim .none k
      | _ => exact I.elim
    | ret p =>
      cases flv with
      | ret v => exact K _ _ h' tk' S'.sim (Rd.less I fun a q => .inl q) k
      | _ => exact I.elim
    | _ => exact k.elim
  · intro x a h' tk' F k
    have henv : callEnv (fnOf name qual params body σ dV kV doc pm an cdv ct) s.heap.objs.size fa = f.env := rfl
    rw (occs := .all) [henv]
    refine leave (f := f) (x := x) (Q := fun _ s'' => R (.error (.ref a)) s'') F O.frames (fun b o e => (hbase b o e).1) C.badFr fun h'' G => ?_
    refine E x a h'' tk' ⟨?_, G.new, G.sim⟩ k
    obtain ⟨oe, vs', dx, Ta, oT, ts, h1, h2, h3, h4, h5, h6, h7, h8, h9, h10, h11⟩ := G.exc
    exact ⟨oe, vs', dx, h1, h2, h3, h4, getElem?_lt h5, .inr ⟨Ta, oT, ts, .none, h5, h6, h7, h8, h9, h10, rfl⟩, h11.mono fun a q => .inl q⟩
end
inductive Lk : Str → Bnd → PEnv → Prop
  | here {x : Str} {b : Bnd} {ρ : PEnv} : Lk x b ((x, b) :: ρ)
  | there {x y : Str} {b c : Bnd} {ρ : PEnv} : (x == y) = false → Lk x b ρ → Lk x b ((y, c) :: ρ)
theorem Lk.eq {x : Str} {b : Bnd} {ρ : PEnv} (h : Lk x b ρ) : ρ.lookup x = some b := by
  induction h with
  | here => simp [List.lookup]
  | there e _ ih => rw [List.lookup_cons, e]; exact ih
inductive Put : Str → Bnd → PEnv → PEnv → Prop
  | here {x : Str} {b c : Bnd} {ρ : PEnv} : Put x b ((x, c) :: ρ) ((x, b) :: ρ)
  | there {x y : Str} {b c : Bnd} {ρ ρ' : PEnv} : (x == y) = false → Put x b ρ ρ' → Put x b ((y, c) :: ρ) ((y, c) :: ρ')
  | nil {x : Str} {b : Bnd} : Put x b [] [(x, b)]
theorem lk1 {x y1 : Str} {b c1 : Bnd} {ρ : PEnv} (h1 : (x == y1) = false) : Lk x b ((y1, c1) :: (x, b) :: ρ) := .there h1 .here
theorem lk2 {x y1 y2 : Str} {b c1 c2 : Bnd} {ρ : PEnv} (h1 : (x == y1) = false) (h2 : (x == y2) = false) : Lk x b ((y1, c1) :: (y2, c2) :: (x, b) :: ρ) := .there h1 (.there h2 .here)
theorem lk3 {x y1 y2 y3 : Str} {b c1 c2 c3 : Bnd} {ρ : PEnv} (h1 : (x == y1) = false) (h2 : (x == y2) = false) (h3 : (x == y3) = false) : Lk x b ((y1, c1) :: (y2, c2) :: (y3, c3) :: (x, b) :: ρ) := .there h1 (.there h2 (.there h3 .here))
theorem lk4 {x y1 y2 y3 y4 : Str} {b c1 c2 c3 c4 : Bnd} {ρ : PEnv} (h1 : (x == y1) = false) (h2 : (x == y2) = false) (h3 : (x == y3) = false) (h4 : (x == y4) = false) : Lk x b ((y1, c1) :: (y2, c2) :: (y3, c3) :: (y4, c4) :: (x, b) :: ρ) := .there h1 (.there h2 (.there h3 (.there h4 .here)))
theorem lk5 {x y1 y2 y3 y4 y5 : Str} {b c1 c2 c3 c4 c5 : Bnd} {ρ : PEnv} (h1 : (x == y1) = false) (h2 : (x == y2) = false) (h3 : (x == y3) = false) (h4 : (x == y4) = false) (h5 : (x == y5) = false) : Lk x b ((y1, c1) :: (y2, c2) :: (y3, c3) :: (y4, c4) :: (y5, c5) :: (x, b) :: ρ) := .there h1 (.there h2 (.there h3 (.there h4 (.there h5 .here))))
theorem lk6 {x y1 y2 y3 y4 y5 y6 : Str} {b c1 c2 c3 c4 c5 c6 : Bnd} {ρ : PEnv} (h1 : (x == y1) = false) (h2 : (x == y2) = false) (h3 : (x == y3) = false) (h4 : (x == y4) = false) (h5 : (x == y5) = false) (h6 : (x == y6) = false) : Lk x b ((y1, c1) :: (y2, c2) :: (y3, c3) :: (y4, c4) :: (y5, c5) :: (y6, c6) :: (x, b) :: ρ) := .there h1 (.there h2 (.there h3 (.there h4 (.there h5 (.there h6 .here)))))
theorem lk7 {x y1 y2 y3 y4 y5 y6 y7 : Str} {b c1 c2 c3 c4 c5 c6 c7 : Bnd} {ρ : PEnv} (h1 : (x == y1) = false) (h2 : (x == y2) = false) (h3 : (x == y3) = false) (h4 : (x == y4) = false) (h5 : (x == y5) = false) (h6 : (x == y6) = false) (h7 : (x == y7) = false) : Lk x b ((y1, c1) :: (y2, c2) :: (y3, c3) :: (y4, c4) :: (y5, c5) :: (y6, c6) :: (y7, c7) :: (x, b) :: ρ) := .there h1 (.there h2 (.there h3 (.there h4 (.there h5 (.there h6 (.there h7 .here))))))
theorem pt1 {x y1 : Str} {a b c1 : Bnd} {ρ : PEnv} (h1 : (x == y1) = false) : Put x b ((y1, c1) :: (x, a) :: ρ) ((y1, c1) :: (x, b) :: ρ) := .there h1 .here
theorem pt2 {x y1 y2 : Str} {a b c1 c2 : Bnd} {ρ : PEnv} (h1 : (x == y1) = false) (h2 : (x == y2) = false) : Put x b ((y1, c1) :: (y2, c2) :: (x, a) :: ρ) ((y1, c1) :: (y2, c2) :: (x, b) :: ρ) := .there h1 (.there h2 .here)
theorem pt3 {x y1 y2 y3 : Str} {a b c1 c2 c3 : Bnd} {ρ : PEnv} (h1 : (x == y1) = false) (h2 : (x == y2) = false) (h3 : (x == y3) = false) : Put x b ((y1, c1) :: (y2, c2) :: (y3, c3) :: (x, a) :: ρ) ((y1, c1) :: (y2, c2) :: (y3, c3) :: (x, b) :: ρ) := .there h1 (.there h2 (.there h3 .here))
theorem pt4 {x y1 y2 y3 y4 : Str} {a b c1 c2 c3 c4 : Bnd} {ρ : PEnv} (h1 : (x == y1) = false) (h2 : (x == y2) = false) (h3 : (x == y3) = false) (h4 : (x == y4) = false) : Put x b ((y1, c1) :: (y2, c2) :: (y3, c3) :: (y4, c4) :: (x, a) :: ρ) ((y1, c1) :: (y2, c2) :: (y3, c3) :: (y4, c4) :: (x, b) :: ρ) := .there h1 (.there h2 (.there h3 (.there h4 .here)))
theorem pt5 {x y1 y2 y3 y4 y5 : Str} {a b c1 c2 c3 c4 c5 : Bnd} {ρ : PEnv} (h1 : (x == y1) = false) (h2 : (x == y2) = false) (h3 : (x == y3) = false) (h4 : (x == y4) = false) (h5 : (x == y5) = false) : Put x b ((y1, c1) :: (y2, c2) :: (y3, c3) :: (y4, c4) :: (y5, c5) :: (x, a) :: ρ) ((y1, c1) :: (y2, c2) :: (y3, c3) :: (y4, c4) :: (y5, c5) :: (x, b) :: ρ) := .there h1 (.there h2 (.there h3 (.there h4 (.there h5 .here))))
theorem pt6 {x y1 y2 y3 y4 y5 y6 : Str} {a b c1 c2 c3 c4 c5 c6 : Bnd} {ρ : PEnv} (h1 : (x == y1) = false) (h2 : (x == y2) = false) (h3 : (x == y3) = false) (h4 : (x == y4) = false) (h5 : (x == y5) = false) (h6 : (x == y6) = false) : Put x b ((y1, c1) :: (y2, c2) :: (y3, c3) :: (y4, c4) :: (y5, c5) :: (y6, c6) :: (x, a) :: ρ) ((y1, c1) :: (y2, c2) :: (y3, c3) :: (y4, c4) :: (y5, c5) :: (y6, c6) :: (x, b) :: ρ) := .there h1 (.there h2 (.there h3 (.there h4 (.there h5 (.there h6 .here)))))
theorem Put.same {x : Str} {b : Bnd} {ρ ρ' : PEnv} (h : Put x b ρ ρ') : ρ'.lookup x = some b := by
  induction h with
  | here => simp [List.lookup]
  | there e _ ih => rw [List.lookup_cons, e]; exact ih
  | nil => simp [List.lookup]
theorem Put.other {x : Str} {b : Bnd} {ρ ρ' : PEnv} (h : Put x b ρ ρ') {y : Str} (n : y ≠ x) : ρ'.lookup y = ρ.lookup y := by
  induction h with
  | here => simp only [List.lookup_cons]; rw [show (y == _) = false from by simpa using n]
  | there e _ ih => simp only [List.lookup_cons, ih]
  | nil => simp only [List.lookup_cons, List.lookup_nil]; rw [show (y == _) = false from by simpa using n]
structure Cx (w : World) (n : Nat) (A : Around) (h : Heap) (bad : Addr → Prop) : Prop where
  bs : ∃ base, Bs w base ∧ base.StaysIn h
  units : A.units + 16 * n < cLine
  handled : 0 < n → A.handled = none
  bad : ∀ a, bad a → ∃ o, h.get? a = some o
theorem Fm.Ok.cx {w : World} {n : Nat} {σ : Scope} {f : Fm} {ρ : PEnv} {m : Str → Option Value} {h : Heap} (O : f.Ok w n σ) (S : St w f ρ m h) : Cx w n f.A h (f.badAt ρ m) :=
  ⟨⟨f.base, O.bs, S.stays⟩, O.units, O.handled, fun _ q => S.badThere q⟩
noncomputable abbrev Grows (h h' : Heap) : Prop := ∀ b o, h.get? b = some o → h'.get? b = some o
noncomputable def Op1 (w : World) (n : Nat) (op : Value → Sem Value) (a c : PV) : Prop :=
  ∀ (A : Around) (s : Shared) (bad : Addr → Prop) (va : Value) (QV EV : Value → Shared → Prop), Cx w n A s.heap bad → Rd w s.heap bad va a →
    (∀ v h' tk', Grows s.heap h' → Rd w h' bad v c → QV v (upd s h' tk')) → wpAny (model prg w) A (op va) QV EV s
noncomputable def Op2 (w : World) (n : Nat) (op : Value → Value → Sem Value) (a b c : PV) : Prop :=
  ∀ (A : Around) (s : Shared) (bad : Addr → Prop) (va vb : Value) (QV EV : Value → Shared → Prop), Cx w n A s.heap bad → Rd w s.heap bad va a → Rd w s.heap bad vb b →
    (∀ v h' tk', Grows s.heap h' → Rd w h' bad v c → QV v (upd s h' tk')) → wpAny (model prg w) A (op va vb) QV EV s
noncomputable def OpN (w : World) (n : Nat) (op : List Value → Sem Value) (a : List PV) (c : PV) : Prop :=
  ∀ (A : Around) (s : Shared) (bad : Addr → Prop) (va : List Value) (QV EV : Value → Shared → Prop), Cx w n A s.heap bad → RdL w s.heap bad va a →
    (∀ v h' tk', Grows s.heap h' → Rd w h' bad v c → QV v (upd s h' tk')) → wpAny (model prg w) A (op va) QV EV s
noncomputable def Br : Bool → Prop → Prop → Prop
  | true, A, _ => A
  | false, _, B => B
theorem Br.t {A B : Prop} (h : A) : Br true A B := h
theorem Br.f {A B : Prop} (h : B) : Br false A B := h
theorem Br.tt {c : Bool} {A B : Prop} (e : c = true) (h : A) : Br c A B := by subst e; exact h
theorem Br.ff {c : Bool} {A B : Prop} (e : c = false) (h : B) : Br c A B := by subst e; exact h
theorem Br.split2 {c : Bool} {A B P Q : Prop} (f : c = true → P) (g : c = false → Q) (h : P → A) (h' : Q → B) : Br c A B := by
  cases c
  · exact h' (g rfl)
  · exact h (f rfl)
theorem Br.split {c : Bool} {A B : Prop} (h : c = true → A) (h' : c = false → B) : Br c A B := by
  cases c
  · exact h' rfl
  · exact h rfl
section
variable {w : World} {n : Nat} {σ : Scope} {ρ : PEnv} {X : Exc → Prop}
theorem ev_name {x : Str} {pos : Pos} {p : PV} {Q : PEnv → PV → Prop} (hl : Lk x (.fz p) ρ) (h : Q ρ p) (hx : σ.names.lookup x = some .local := by kernel_rfl) (hd : (x == ("__debug__" : Str)) = false := by kernel_rfl) : ev w n σ (.Name x pos) ρ Q X := by
  intro f s m QV EV O S K E
  obtain ⟨v, h1, h2⟩ := S.bnd x _ hl.eq
  have hsc := O.sc
  subst hsc
  exact wpAny_Name (wpAny_loadName_local O.kind hx S.ns h1 (K ρ p v s.heap s.toks S h2 h)) hd
theorem ev_int {i : Int} {k : Nat} {pos : Pos} {Q : PEnv → PV → Prop} (h : Q ρ (.int i)) : ev w n σ (.Constant (.int i) k pos) ρ Q X :=
  fun f s m QV EV O S K E => wpAny_Constant_int (K ρ _ _ s.heap _ S (.int i _) h)
theorem ev_str {x : Str} {k : Nat} {pos : Pos} {Q : PEnv → PV → Prop} (h : Q ρ (.str x)) : ev w n σ (.Constant (.str x) k pos) ρ Q X :=
  fun f s m QV EV O S K E => wpAny_Constant_str (K ρ _ _ s.heap _ S (.str x _) h)
theorem ev_bool {b : Bool} {k : Nat} {pos : Pos} {Q : PEnv → PV → Prop} (h : Q ρ (.bool b)) : ev w n σ (.Constant (.bool b) k pos) ρ Q X :=
  fun f s m QV EV O S K E => wpAny_Constant_bool (K ρ _ _ s.heap s.toks S (.bool b) h)
theorem ev_none {k : Nat} {pos : Pos} {Q : PEnv → PV → Prop} (h : Q ρ .none) : ev w n σ (.Constant .none k pos) ρ Q X :=
  fun f s m QV EV O S K E => wpAny_Constant_none (K ρ _ _ s.heap s.toks S .none h)
theorem ev_bin {l r : Expr} {op : Operator} {pos : Pos} {Q : PEnv → PV → Prop} (h : ev w n σ l ρ (fun ρ1 a => ev w n σ r ρ1 (fun ρ2 b => ∃ c, Op2 w n (binaryOp op) a b c ∧ Q ρ2 c) X) X) : ev w n σ (.BinOp l op r pos) ρ Q X := by
  intro f s m QV EV O S K E
  refine wpAny_BinOp (h f s m _ EV O S (fun ρ1 a va h1 tk1 S1 r1 k1 => ?_) E)
  refine k1 (f.re ρ1 m h1) (upd s h1 tk1) m _ EV O.re S1.re (fun ρ2 b vb h2 tk2 S2 r2 k2 => ?_) (fun x a h' tk' F q => E x a h' tk' (F.back S1) q)
  obtain ⟨c, op, q⟩ := k2
  have S2' := S1.back S2
  exact op f.A (upd s h2 tk2) _ va vb QV EV (O.cx S2') (S1.keepRd S2 r1) r2 (fun v h3 tk3 g r => K ρ2 c v h3 tk3 (S2'.grow g) r q)
theorem ev_un {l : Expr} {op : UnaryOp} {pos : Pos} {Q : PEnv → PV → Prop} (h : ev w n σ l ρ (fun ρ1 a => ∃ c, Op1 w n (unaryOp op) a c ∧ Q ρ1 c) X) : ev w n σ (.UnaryOp op l pos) ρ Q X := by
  intro f s m QV EV O S K E
  refine wpAny_UnaryOp (h f s m _ EV O S (fun ρ1 a va h1 tk1 S1 r1 k1 => ?_) E)
  obtain ⟨c, op, q⟩ := k1
  exact op f.A (upd s h1 tk1) _ va QV EV (O.cx S1) r1 (fun v h3 tk3 g r => K ρ1 c v h3 tk3 (S1.grow g) r q)
theorem ev_cmp {l r : Expr} {op : CmpOp} {pos : Pos} {Q : PEnv → PV → Prop} (h : ev w n σ l ρ (fun ρ1 a => ev w n σ r ρ1 (fun ρ2 b => ∃ c, Op2 w n (compareOp op) a b c ∧ Q ρ2 c) X) X)
    (hm : behindInMarks op r = false := by with_unfolding_all rfl) : ev w n σ (.Compare l [op] [r] pos) ρ Q X := by
  intro f s m QV EV O S K E
  refine wpAny_Compare1 (h f s m _ EV O S (fun ρ1 a va h1 tk1 S1 r1 k1 => ?_) E) hm
  refine k1 (f.re ρ1 m h1) (upd s h1 tk1) m _ EV O.re S1.re (fun ρ2 b vb h2 tk2 S2 r2 k2 => ?_) (fun x a h' tk' F q => E x a h' tk' (F.back S1) q)
  obtain ⟨c, op, q⟩ := k2
  have S2' := S1.back S2
  exact op f.A (upd s h2 tk2) _ va vb QV EV (O.cx S2') (S1.keepRd S2 r1) r2 (fun v h3 tk3 g r => K ρ2 c v h3 tk3 (S2'.grow g) r q)
theorem evb_cmp {l r : Expr} {op : CmpOp} {pos : Pos} {Q : PEnv → Bool → Prop} (h : ev w n σ l ρ (fun ρ1 a => ev w n σ r ρ1 (fun ρ2 b => ∃ c, Op2 w n (compareOp op) a b (.bool c) ∧ Q ρ2 c) X) X)
    (hm : behindInMarks op r = false := by with_unfolding_all rfl) : evb w n σ (.Compare l [op] [r] pos) ρ Q X := by
  intro f s m QV EV O S K E
  refine wpAny_isTrue_Compare1 (h f s m _ EV O S (fun ρ1 a va h1 tk1 S1 r1 k1 => ?_) E) hm
  refine k1 (f.re ρ1 m h1) (upd s h1 tk1) m _ EV O.re S1.re (fun ρ2 b vb h2 tk2 S2 r2 k2 => ?_) (fun x a h' tk' F q => E x a h' tk' (F.back S1) q)
  obtain ⟨c, op, q⟩ := k2
  have S2' := S1.back S2
  refine op f.A (upd s h2 tk2) _ va vb _ EV (O.cx S2') (S1.keepRd S2 r1) r2 (fun v h3 tk3 g r => ?_)
  cases r
  exact wpAny_truthy_bool (K ρ2 c h3 tk3 (S2'.grow g) q)
theorem evb_not {x : Expr} {pos : Pos} {Q : PEnv → Bool → Prop} (h : evb w n σ x ρ (fun ρ1 b => Q ρ1 (!b)) X) : evb w n σ (.UnaryOp .Not x pos) ρ Q X :=
  fun f s m QV EV O S K E => isTrue_not (h f s m _ EV O S (fun ρ' b h' tk' a c => K ρ' _ h' tk' a c) E)
theorem evb_and_nil {pos : Pos} {Q : PEnv → Bool → Prop} (h : Q ρ true) : evb w n σ (.BoolOp .And [] pos) ρ Q X :=
  fun f s m QV EV O S K E => isTrue_and_nil (K ρ true s.heap s.toks S h)
theorem evb_or_nil {pos : Pos} {Q : PEnv → Bool → Prop} (h : Q ρ false) : evb w n σ (.BoolOp .Or [] pos) ρ Q X :=
  fun f s m QV EV O S K E => isTrue_or_nil (K ρ false s.heap s.toks S h)
theorem evb_and {x : Expr} {rest : List Expr} {pos : Pos} {Q : PEnv → Bool → Prop} (h : evb w n σ x ρ (fun ρ1 b => Br b (evb w n σ (.BoolOp .And rest pos) ρ1 Q X) (Q ρ1 false)) X) : evb w n σ (.BoolOp .And (x :: rest) pos) ρ Q X := by
  intro f s m QV EV O S K E
  refine isTrue_and (h f s m _ EV O S (fun ρ' b h' tk' S' k => ?_) E)
  cases b with
  | true => exact k f _ m QV EV O S' (fun ρ'' b h'' tk'' a c => K ρ'' b h'' tk'' a c) (fun x a h'' tk'' b c => E x a h'' tk'' b c)
  | false => exact K _ _ _ _ S' k
theorem evb_or {x : Expr} {rest : List Expr} {pos : Pos} {Q : PEnv → Bool → Prop} (h : evb w n σ x ρ (fun ρ1 b => Br b (Q ρ1 true) (evb w n σ (.BoolOp .Or rest pos) ρ1 Q X)) X) : evb w n σ (.BoolOp .Or (x :: rest) pos) ρ Q X := by
  intro f s m QV EV O S K E
  refine isTrue_or (h f s m _ EV O S (fun ρ' b h' tk' S' k => ?_) E)
  cases b with
  | false => exact k f _ m QV EV O S' (fun ρ'' b h'' tk'' a c => K ρ'' b h'' tk'' a c) (fun x a h'' tk'' b c => E x a h'' tk'' b c)
  | true => exact K _ _ _ _ S' k
theorem evb_val {x : Expr} {Q : PEnv → Bool → Prop} (h : ev w n σ x ρ (fun ρ1 p => ∃ b, p = .bool b ∧ Q ρ1 b) X)
    (he : ∀ env whole, isTrue x env whole = (do let v ← whole; standAt x.pos; holding [v] (truthy v)) := by intro _ _; with_unfolding_all rfl) : evb w n σ x ρ Q X := by
  intro f s m QV EV O S K E
  refine wpAny_isTrue_value (h f s m _ EV O S (fun ρ' p v h' tk' S' r k => ?_) E) (he _ _)
  obtain ⟨b, rfl, q⟩ := k
  cases r
  exact wpAny_truthy_bool (K ρ' b h' tk' S' q)
theorem ev_if {test body orelse : Expr} {pos : Pos} {Q : PEnv → PV → Prop} (h : evb w n σ test ρ (fun ρ1 b => Br b (ev w n σ body ρ1 Q X) (ev w n σ orelse ρ1 Q X)) X) : ev w n σ (.IfExp test body orelse pos) ρ Q X := by
  intro f s m QV EV O S K E
  refine IfExp_ (h f s m _ EV O S (fun ρ' b h' tk' S' k => ?_) E)
  cases b with
  | true => exact k f _ m QV EV O S' (fun ρ'' p v h'' tk'' a b c => K ρ'' p v h'' tk'' a b c) (fun x a h'' tk'' b c => E x a h'' tk'' b c)
  | false => exact k f _ m QV EV O S' (fun ρ'' p v h'' tk'' a b c => K ρ'' p v h'' tk'' a b c) (fun x a h'' tk'' b c => E x a h'' tk'' b c)
theorem ev_bool_one {op : BoolOp} {x : Expr} {pos : Pos} {Q : PEnv → PV → Prop} (h : ev w n σ x ρ Q X) : ev w n σ (.BoolOp op [x] pos) ρ Q X :=
  fun f s m QV EV O S K E => BoolOp_one (h f s m QV EV O S K E)
theorem ev_and {x y : Expr} {rest : List Expr} {pos : Pos} {Q : PEnv → PV → Prop} (h : ev w n σ x ρ (fun ρ1 p => ∃ b, p = .bool b ∧ Br b (ev w n σ (.BoolOp .And (y :: rest) pos) ρ1 Q X) (Q ρ1 (.bool false))) X) : ev w n σ (.BoolOp .And (x :: y :: rest) pos) ρ Q X := by
  intro f s m QV EV O S K E
  refine BoolOp_and (h f s m _ EV O S (fun ρ' p v h' tk' S' r k => ?_) E)
  obtain ⟨b, rfl, k⟩ := k
  cases r
  refine wpAny_truthy_bool ?_
  cases b with
  | true => exact k f _ m QV EV O S' (fun ρ'' p v h'' tk'' a b c => K ρ'' p v h'' tk'' a b c) (fun x a h'' tk'' b c => E x a h'' tk'' b c)
  | false => exact K _ _ _ _ _ S' (.bool false) k
theorem ev_or {x y : Expr} {rest : List Expr} {pos : Pos} {Q : PEnv → PV → Prop} (h : ev w n σ x ρ (fun ρ1 p => ∃ b, p = .bool b ∧ Br b (Q ρ1 (.bool true)) (ev w n σ (.BoolOp .Or (y :: rest) pos) ρ1 Q X)) X) : ev w n σ (.BoolOp .Or (x :: y :: rest) pos) ρ Q X := by
  intro f s m QV EV O S K E
  refine BoolOp_or (h f s m _ EV O S (fun ρ' p v h' tk' S' r k => ?_) E)
  obtain ⟨b, rfl, k⟩ := k
  cases r
  refine wpAny_truthy_bool ?_
  cases b with
  | false => exact k f _ m QV EV O S' (fun ρ'' p v h'' tk'' a b c => K ρ'' p v h'' tk'' a b c) (fun x a h'' tk'' b c => E x a h'' tk'' b c)
  | true => exact K _ _ _ _ _ S' (.bool true) k
theorem ev_tuple {es : List Expr} {k : Nat} {pos : Pos} {Q : PEnv → PV → Prop} (h : evs w n σ es ρ (fun ρ1 ps => ps.length ≤ sizeLine ∧ Q ρ1 (.tup ps)) X) : ev w n σ (.Tuple es k pos) ρ Q X := by
  intro f s m QV EV O S K E
  refine Tuple_ (h f s m pos _ EV O S (fun ρ' ps vs h' tk' S' r k => ?_) E)
  refine wpAny_newTuple ?_ (r.length ▸ k.1)
  have g : Grows h' (h'.push { cls := .type "tuple", data := .seq vs.toArray }) := fun b o e => Heap.get?_push_of_some _ e
  refine K ρ' _ _ _ _ (S'.grow g) (.tup (Heap.get?_push_size _ rfl) ⟨rfl, rfl⟩ rfl (fun q => ?_) (r.grow g)) k.2
  obtain ⟨o, ho⟩ := S'.badThere q
  exact absurd (Heap.lt_size ho) (Nat.lt_irrefl _)
theorem ev_list {es : List Expr} {pos : Pos} {Q : PEnv → PV → Prop} (h : evs w n σ es ρ (fun ρ1 ps => ps.length ≤ sizeLine ∧ Q ρ1 (.lst ps)) X) : ev w n σ (.List es pos) ρ Q X := by
  intro f s m QV EV O S K E
  refine List_ (h f s m pos _ EV O S (fun ρ' ps vs h' tk' S' r k => ?_) E)
  refine wpAny_newObj_type ?_ (by show vs.toArray.size ≤ sizeLine; rw [List.size_toArray]; exact r.length ▸ k.1)
  have g : Grows h' (h'.push { cls := .type "list", data := .seq vs.toArray }) := fun b o e => Heap.get?_push_of_some _ e
  refine K ρ' _ _ _ _ (S'.grow g) (.lst (Heap.get?_push_size _ rfl) ⟨rfl, rfl⟩ rfl (fun q => ?_) (r.grow g)) k.2
  obtain ⟨o, ho⟩ := S'.badThere q
  exact absurd (Heap.lt_size ho) (Nat.lt_irrefl _)
theorem ex_if {test : Expr} {body orelse : List Stmt} {pos : Pos} {N : PEnv → Prop} {k : Ks} (h : evb w n σ test ρ (fun ρ1 b => Br b (exs w n σ body ρ1 N k X) (exs w n σ orelse ρ1 N k X)) X) : ex w n σ (.If test body orelse pos) ρ N k X := by
  intro f s m QV EV O S C E
  refine wpAny_If (h f s m _ EV O S (fun ρ' b h' tk' S' k => ?_) E)
  cases b with
  | true => exact k f _ m QV EV O S' (fun ρ'' m'' fl flv h'' tk'' a b c => C ρ'' m'' fl flv h'' tk'' a b c) (fun x a h'' tk'' b c => E x a h'' tk'' b c)
  | false => exact k f _ m QV EV O S' (fun ρ'' m'' fl flv h'' tk'' a b c => C ρ'' m'' fl flv h'' tk'' a b c) (fun x a h'' tk'' b c => E x a h'' tk'' b c)
theorem ex_ret {e : Expr} {pos : Pos} {N B C : PEnv → Prop} {R : PV → Prop} {O : Exc → Prop} (h : ev w n σ e ρ (fun ρ1 p => R p) X) : ex w n σ (.Return (some e) pos) ρ N ⟨B, C, R, O⟩ X :=
  fun f s m QV EV O S C E => wpAny_Return_some (h f s m _ EV O S (fun ρ' p v h' tk' S' r k => C ρ' m (.ret p) (.ret v) h' tk' S' r k) E)
theorem ex_retO {e : Expr} {pos : Pos} {N B C : PEnv → Prop} {R : PV → Prop} {O : Exc → Prop} (h : evo w n σ e ρ (fun x => O x)) : ex w n σ (.Return (some e) pos) ρ N ⟨B, C, R, O⟩ X :=
  fun f s m QV EV O S C E => wpAny_Return_some (h f s m _ EV O S (fun ρ' x a h' tk' S' r e k => C ρ' m (.obj x) (.ret _) h' tk' S' ⟨a, rfl, (let ⟨oe, ws, dx, a1, a2, a3, a4, a5, a6⟩ := r; ⟨oe, ws, dx, a1, a2, a3, a4, a5, a6.mono fun a q => .inl q⟩), e⟩ k))
theorem ex_cont {pos : Pos} {N B C : PEnv → Prop} {R : PV → Prop} {O : Exc → Prop} (h : C ρ) : ex w n σ (.Continue pos) ρ N ⟨B, C, R, O⟩ X := by
  intro f s m QV EV O S C E
  rw (occs := .all) [arm_exec_Continue]
  exact wpAny_bind (wpAny_standAt (wpAny_pure (C ρ m .cont .cont s.heap s.toks S trivial h)))
theorem frames_keep {h h' base : Heap} : ∀ {l : List Env}, h.FunFrames base l → (∀ e ∈ l, ∀ b, e.frame = some b → ∀ o, h.get? b = some o → h'.get? b = some o) → h'.FunFrames base l
  | [], _, _ => trivial
  | env :: _, ⟨hk, ⟨L, o, hf, hn, ho, hd⟩, hr⟩, k => ⟨hk, ⟨L, o, hf, hn, k env (.head _) L hf o ho, hd⟩, frames_keep hr fun e he => k e (.tail _ he)⟩
theorem St.store {P : World} {f : Fm} {ρ' : PEnv} {m : Str → Option Value} {h h' : Heap} {x : Str} {v : Value} {p : PV} (S : St P f ρ m h) (r : Rd P h (f.badAt ρ m) v p) (hp : Put x (.fz p) ρ ρ')
    (hn : h'.Ns f.L (fun y => if y = x then some v else m y)) (hs : Heap.SameBut f.L h h') : St P f ρ' (fun y => if y = x then some v else m y) h' := by
  have own : ∀ a, OwnAt ρ' (fun y => if y = x then some v else m y) a → OwnAt ρ m a := by
    rintro a ⟨y, l, e1, e2⟩
    by_cases q : y = x
    · subst q; rw (occs := .all) [hp.same] at e1; cases e1
    · rw (occs := .all) [hp.other q] at e1
      simp only [q, if_false] at e2
      exact ⟨y, l, e1, e2⟩
  have bad : ∀ a, f.badAt ρ' (fun y => if y = x then some v else m y) a → f.badAt ρ m a := fun a q => q.imp_right fun q => q.imp_right (own a)
  have mv : ∀ a o, h.get? a = some o → ¬ f.badAt ρ m a → (o.cls = .type "tuple" ∨ o.cls = .type "list" ∨ o.cls = .type "dict") → h'.get? a = some o ∧ ¬ f.badAt ρ' (fun y => if y = x then some v else m y) a :=
    fun a o e n _ => ⟨(hs.2 a fun q => n (.inr (.inl q))).trans e, fun q => n (bad a q)⟩
  refine ⟨hn, fun y b e => ?_, fun y z l l' e1 e2 e3 => ?_, ?_, ?_, ?_, S.newL, fun a q => S.ownNew a (own a q), S.badOld, S.badFr, S.baseOld⟩
  · by_cases q : y = x
    · subst q
      rw (occs := .all) [hp.same] at e; cases e
      exact ⟨v, by simp, r.move mv⟩
    · rw (occs := .all) [hp.other q] at e
      have z := S.bnd y b e
      cases b with
      | fz p' =>
        obtain ⟨v', h1, h2⟩ := z
        exact ⟨v', by simp [q, h1], h2.move mv⟩
      | own l =>
        obtain ⟨a, o, vs, n, h1, h2, h3, h4, h5⟩ := z
        have nL : a ≠ f.L := S.notOwnL ⟨y, l, e, h1⟩
        exact ⟨a, o, vs, n, by simp [q, h1], (hs.2 a nL).trans h2, h3, h4, h5.move mv⟩
  · have qy : y ≠ x := fun q => by subst q; rw (occs := .all) [hp.same] at e1; cases e1
    have qz : z ≠ x := fun q => by subst q; rw (occs := .all) [hp.same] at e2; cases e2
    rw (occs := .all) [hp.other qy] at e1
    rw (occs := .all) [hp.other qz] at e2
    simp only [qy, qz, if_false] at e3
    exact S.inj y z l l' e1 e2 e3
  · intro b o e
    obtain ⟨sl, k1, k2⟩ := S.sim b o e
    exact ⟨sl, (hs.2 b fun q => by rw (occs := .all) [q, S.newL] at e; cases e).trans k1, k2⟩
  · intro b o e
    exact (hs.2 b fun q => by rw (occs := .all) [q] at e; have := (S.baseOld _ _ e).1; rw (occs := .all) [S.newL] at this; cases this).trans (S.stays b o e)
  · obtain ⟨hk, ⟨L', o', hf, hn', _⟩, hr⟩ := S.frames
    obtain rfl : f.L = L' := Option.some.inj hf
    refine Heap.FunFrames.cons hk rfl hn hn' (frames_keep hr fun e he b hb o ho => ?_)
    exact (hs.2 b fun q => by obtain ⟨o2, ho2⟩ := S.badOld b (S.badFr e he b hb); rw (occs := .all) [q, S.newL] at ho2; cases ho2).trans ho
theorem ex_assign {x : Str} {pos' pos : Pos} {value : Expr} {N : PEnv → Prop} {k : Ks} (h : ev w n σ value ρ (fun ρ1 p => ∃ ρ2, Put x (.fz p) ρ1 ρ2 ∧ N ρ2) X) (hx : σ.names.lookup x = some .local := by kernel_rfl)
    (hs : ∀ env, swapsWith value (some (.Name x pos')) pos.line env = pure false := by intro _; with_unfolding_all rfl) : ex w n σ (.Assign [.Name x pos'] value pos) ρ N k X := by
  intro f s m QV EV O S C E
  refine wpAny_Assign_Name (h f s m _ EV O S (fun ρ1 p v h1 tk1 S1 r1 k1 => ?_) E) (hs _)
  obtain ⟨ρ2, hp, q⟩ := k1
  have hsc := O.sc
  subst hsc
  refine wpAny_storeName_local (m := m) hx S1.ns (fun h2 hn hs => ?_) (by show (f.scope.kind == .class || (f.scope.kind == .module && f.L != mainGlobals)) = false; rw [O.kind]; rfl)
  exact C ρ2 _ .next .next h2 _ (S1.store r1 hp hn hs) trivial q
end
section
variable {w : World} {n : Nat} {σ : Scope} {ρ : PEnv} {X : Exc → Prop}
theorem Fm.Ok.call {f : Fm} {m : Str → Option Value} {h : Heap} (O : f.Ok w n σ) (hn : 0 < n) (S : St w f ρ m h) : CallOk w n f.A f.base (f.env :: f.outer) (f.badAt ρ m) h where
  frames := O.frames
  handled := O.handled hn
  depth := O.depth
  units := O.units
  bs := O.bs
  stays := S.stays
  funs := S.frames
  badOld := fun a q => S.badThere q
  badFr := fun e he a ha => by
    rcases List.mem_cons.mp he with rfl | he
    · exact .inr (.inl (Option.some.inj ha).symm)
    · exact .inl (S.badFr e he a ha)
  badBase := fun b o e q => by
    obtain ⟨h1, h2⟩ := S.baseOld b o e
    rcases q with q | q | q
    · exact h2 q
    · rw (occs := .all) [q, S.newL] at h1; cases h1
    · rw (occs := .all) [S.ownNew b q] at h1; cases h1
theorem load_glob {f : Fm} {m : Str → Option Value} {s : Shared} {x : Str} {pos : Pos} {v : Value} {QV EV : Value → Shared → Prop} (O : f.Ok w n σ) (S : St w f ρ m s.heap) (e : nsIn (hp w.params) mainGlobals x = some (some v))
    (h : QV v s) (hx : σ.names.lookup x = some .globalImplicit) (hd : (x == ("__debug__" : Str)) = false) : wpAny (model prg w) f.A (eval (.Name x pos) f.env) QV EV s := by
  have hsc := O.sc
  subst hsc
  obtain ⟨loose, mean, mg, mb, T⟩ := O.bs.t
  exact Name_function_global O.kind hx (loadGlobal_global (env := f.env) (T.g.keeps S.stays) (mg_of O.bs.k T.g e) h) hd
theorem load_boot {f : Fm} {m : Str → Option Value} {s : Shared} {x : Str} {pos : Pos} {v : Value} {QV EV : Value → Shared → Prop} (O : f.Ok w n σ) (S : St w f ρ m s.heap) (e : nsIn (hp w.params) mainGlobals x = some none)
    (hv : bootBuiltins x = some v) (hn : x ≠ "__name__")
    (h : QV v s) (hx : σ.names.lookup x = some .globalImplicit) (hd : (x == ("__debug__" : Str)) = false) : wpAny (model prg w) f.A (eval (.Name x pos) f.env) QV EV s := by
  have hsc := O.sc
  subst hsc
  obtain ⟨loose, mean, mg, mb, T⟩ := O.bs.t
  exact Name_function_global O.kind hx (loadGlobal_builtin (env := f.env) (T.g.keeps S.stays) (mg_none_of O.bs.k T.g e) (T.b.keeps S.stays) ((T.builtins x hn).trans hv) h) hd
noncomputable def FnAt (fa : Addr) : Prop := ∀ P : Params, ∃ oc od fd osl, (hp P).lookup fa = some ⟨oc, od, .func fd, osl⟩
theorem ev_call {g : Str} {np pos : Pos} {e : Expr} {rest : List Expr} {fa : Addr} {Q : PEnv → PV → Prop} (hg : ∀ P, nsIn (hp P) mainGlobals g = some (some (.ref fa))) (hf : FnAt fa)
    (h : evs w n σ (e :: rest) ρ (fun ρ1 ps => fnc w n fa ps (fun p => Q ρ1 p) X) X) (hn : 0 < n) (hx : σ.names.lookup g = some .globalImplicit := by kernel_rfl) (hd : (g == ("__debug__" : Str)) = false := by kernel_rfl)
    (hst : ∀ env, starEach (e :: rest) env = (false, eval e env) :: starEach rest env := by intro _; with_unfolding_all rfl) : ev w n σ (.Call (.Name g np) (e :: rest) [] pos) ρ Q X := by
  intro f s m QV EV O S K E
  refine Call_ (load_glob O S (hg _) ?_ hx hd)
  obtain ⟨oc, od, fd, osl, ho⟩ := hf w.params
  refine callWith_def (o := ⟨oc, od, .func fd, osl⟩) rfl (h f s m pos _ EV O S (fun ρ1 ps vs h1 tk1 S1 r1 k1 => ⟨S1.stays _ _ (O.bs.k _ _ ho), ?_⟩) E) (hst _)
  refine wpAny_call (k1 f.A f.base (f.env :: f.outer) (f.badAt ρ1 m) (upd s h1 tk1) vs _ (O.call hn S1) r1 (fun p v h2 tk2 sm r q => ?_) (fun x a h2 tk2 o q => ?_))
  · exact K ρ1 p v h2 tk2 (S1.call sm) r q
  · exact E x a h2 tk2 (S1.out o) q
theorem ev_call0 {g : Str} {np pos : Pos} {fa : Addr} {Q : PEnv → PV → Prop} (hg : ∀ P, nsIn (hp P) mainGlobals g = some (some (.ref fa))) (hf : FnAt fa)
    (h : fnc w n fa [] (fun p => Q ρ p) X) (hn : 0 < n) (hx : σ.names.lookup g = some .globalImplicit := by kernel_rfl) (hd : (g == ("__debug__" : Str)) = false := by kernel_rfl) : ev w n σ (.Call (.Name g np) [] [] pos) ρ Q X := by
  intro f s m QV EV O S K E
  refine Call_ (load_glob O S (hg _) ?_ hx hd)
  obtain ⟨oc, od, fd, osl, ho⟩ := hf w.params
  refine callWith_function (o := ⟨oc, od, .func fd, osl⟩) (fd := fd) (PyProof.Rows.evalArgs_none ⟨⟨S.stays _ _ (O.bs.k _ _ ho), rfl⟩, ?_⟩)
  refine wpAny_call (h f.A f.base (f.env :: f.outer) (f.badAt ρ m) s [] _ (O.call hn S) .nil (fun p v h2 tk2 sm r q => ?_) (fun x a h2 tk2 o q => ?_))
  · exact K ρ p v h2 tk2 (S.call sm) r q
  · exact E x a h2 tk2 (S.out o) q
theorem evo_call {g : Str} {np pos : Pos} {e : Expr} {rest : List Expr} {fa : Addr} {Q : Exc → Prop} (hg : ∀ P, nsIn (hp P) mainGlobals g = some (some (.ref fa))) (hf : FnAt fa)
    (h : evs w n σ (e :: rest) ρ (fun ρ1 ps => fno w n fa ps Q) (fun _ => False)) (hn : 0 < n) (hx : σ.names.lookup g = some .globalImplicit := by kernel_rfl) (hd : (g == ("__debug__" : Str)) = false := by kernel_rfl)
    (hst : ∀ env, starEach (e :: rest) env = (false, eval e env) :: starEach rest env := by intro _; with_unfolding_all rfl) : evo w n σ (.Call (.Name g np) (e :: rest) [] pos) ρ Q := by
  intro f s m QV EV O S K
  refine Call_ (load_glob O S (hg _) ?_ hx hd)
  obtain ⟨oc, od, fd, osl, ho⟩ := hf w.params
  refine callWith_def (o := ⟨oc, od, .func fd, osl⟩) rfl (h f s m pos _ EV O S (fun ρ1 ps vs h1 tk1 S1 r1 k1 => ⟨S1.stays _ _ (O.bs.k _ _ ho), ?_⟩) (fun _ _ _ _ _ q => q.elim)) (hst _)
  refine wpAny_call (k1 f.A f.base (f.env :: f.outer) (f.badAt ρ1 m) (upd s h1 tk1) vs _ (O.call hn S1) r1 (fun x a h2 tk2 sm r nw q => ?_))
  have S2 := S1.call sm
  refine K ρ1 x a h2 tk2 S2 ?_ (S1.old nw) q
  obtain ⟨oe, ws, dx, a1, a2, a3, a4, a5, a6⟩ := r
  exact ⟨oe, ws, dx, a1, a2, a3, a4, a5, a6.mono fun a q => q.elim .inl fun q => .inr (.inl q)⟩
theorem ev_callB {g : Str} {np pos : Pos} {e : Expr} {rest : List Expr} {id : String} {Q : PEnv → PV → Prop} (hg : ∀ P, nsIn (hp P) mainGlobals g = some none) (hb : bootBuiltins g = some (.builtin id))
    (h : evs w n σ (e :: rest) ρ (fun ρ1 ps => ∃ c, OpN w n (fun vs => call (.builtin id) vs) ps c ∧ Q ρ1 c) X) (hx : σ.names.lookup g = some .globalImplicit := by kernel_rfl) (hd : (g == ("__debug__" : Str)) = false := by kernel_rfl)
    (hnn : g ≠ "__name__" := by decide +kernel) (hst : ∀ env, starEach (e :: rest) env = (false, eval e env) :: starEach rest env := by intro _; with_unfolding_all rfl) (hpl : ∀ env, (backTo pos (starEach rest env)).any (·.1) = false := by intro _; with_unfolding_all rfl) : ev w n σ (.Call (.Name g np) (e :: rest) [] pos) ρ Q X := by
  intro f s m QV EV O S K E
  refine Call_ (load_boot O S (hg _) hb hnn ?_ hx hd)
  refine callWith_builtin1 (h f s m pos _ EV O S (fun ρ1 ps vs h1 tk1 S1 r1 k1 => ?_) E) (hst _) (hpl _)
  obtain ⟨c, op, q⟩ := k1
  exact op f.A (upd s h1 tk1) _ vs QV EV (O.cx S1) r1 (fun v h3 tk3 g r => K ρ1 c v h3 tk3 (S1.grow g) r q)
theorem ev_callT {g : Str} {np pos : Pos} {e : Expr} {rest : List Expr} {id : String} {Q : PEnv → PV → Prop} (hg : ∀ P, nsIn (hp P) mainGlobals g = some none) (hb : bootBuiltins g = some (.type id))
    (h : evs w n σ (e :: rest) ρ (fun ρ1 ps => ∃ c, OpN w n (fun vs => call (.type id) vs) ps c ∧ Q ρ1 c) X) (hx : σ.names.lookup g = some .globalImplicit := by kernel_rfl) (hd : (g == ("__debug__" : Str)) = false := by kernel_rfl)
    (hnn : g ≠ "__name__" := by decide +kernel) (hst : ∀ env, starEach (e :: rest) env = (false, eval e env) :: starEach rest env := by intro _; with_unfolding_all rfl) (hpl : ∀ env, (backTo pos (starEach rest env)).any (·.1) = false := by intro _; with_unfolding_all rfl) : ev w n σ (.Call (.Name g np) (e :: rest) [] pos) ρ Q X := by
  intro f s m QV EV O S K E
  refine Call_ (load_boot O S (hg _) hb hnn ?_ hx hd)
  refine PyProof.Rows.callWith_type1 (h f s m pos _ EV O S (fun ρ1 ps vs h1 tk1 S1 r1 k1 => ?_) E) (hst _) (hpl _)
  obtain ⟨c, op, q⟩ := k1
  exact op f.A (upd s h1 tk1) _ vs QV EV (O.cx S1) r1 (fun v h3 tk3 g r => K ρ1 c v h3 tk3 (S1.grow g) r q)
theorem evb_chain {l r1 r2 : Expr} {o1 o2 : CmpOp} {pos : Pos} {Q : PEnv → Bool → Prop}
    (h : ev w n σ l ρ (fun ρ1 a => ev w n σ r1 ρ1 (fun ρ2 b => ∃ c, Op2 w n (compareOp o1) a b (.bool c) ∧ Br c (ev w n σ r2 ρ2 (fun ρ3 d => ∃ c', Op2 w n (compareOp o2) b d (.bool c') ∧ Q ρ3 c') X) (Q ρ2 false)) X) X)
    (hm : lastMarks [o1, o2] [r1, r2] = false := by with_unfolding_all rfl) : evb w n σ (.Compare l [o1, o2] [r1, r2] pos) ρ Q X := by
  intro f s m QV EV O S K E
  refine isTrue_chain (h f s m _ EV O S (fun ρ1 a va h1 tk1 S1 ra k1 => ?_) E) hm
  refine test_link (k1 (f.re ρ1 m h1) (upd s h1 tk1) m _ EV O.re S1.re (fun ρ2 b vb h2 tk2 S2 rb k2 => ?_) (fun x a h' tk' F q => E x a h' tk' (F.back S1) q))
  obtain ⟨c, op, q⟩ := k2
  have S2' := S1.back S2
  refine op f.A (upd s h2 tk2) _ va vb _ EV (O.cx S2') (S1.keepRd S2 ra) rb (fun v h3 tk3 g r => ?_)
  cases r
  refine wpAny_truthy_bool ?_
  have S3 := S2'.grow g
  have rb3 := Rd.grow rb g
  cases c with
  | false => exact K ρ2 false h3 tk3 S3 q
  | true =>
    refine test_last (q (f.re ρ2 m h3) (upd s h3 tk3) m _ EV O.re S3.re (fun ρ4 d vd h4 tk4 S4 rd k4 => ?_) (fun x a h' tk' F q => E x a h' tk' (F.back S3) q))
    obtain ⟨c', op', q'⟩ := k4
    have S4' := S3.back S4
    refine op' f.A (upd s h4 tk4) _ vb vd _ EV (O.cx S4') (S3.keepRd S4 rb3) rd (fun v h5 tk5 g' r' => ?_)
    cases r'
    exact wpAny_truthy_bool (K ρ4 c' h5 tk5 (S4'.grow g') q')
end
section
variable {w : World} {n : Nat}
theorem grows_refl (h : Heap) : Grows h h := fun _ _ e => e
theorem op_add (i j : Int) : Op2 w n (binaryOp .Add) (.int i) (.int j) (.int (i + j)) := by
  intro A s bad va vb QV EV C ra rb K; obtain ⟨_, rfl⟩ := ra.i; obtain ⟨_, rfl⟩ := rb.i
  exact add_int (K _ s.heap _ (grows_refl _) (.int _ _))
theorem op_sub (i j : Int) : Op2 w n (binaryOp .Sub) (.int i) (.int j) (.int (i - j)) := by
  intro A s bad va vb QV EV C ra rb K; obtain ⟨_, rfl⟩ := ra.i; obtain ⟨_, rfl⟩ := rb.i
  exact sub_int (K _ s.heap _ (grows_refl _) (.int _ _))
theorem op_mul {i j : Int} (h : IntMulOk i j) : Op2 w n (binaryOp .Mult) (.int i) (.int j) (.int (i * j)) := by
  intro A s bad va vb QV EV C ra rb K; obtain ⟨_, rfl⟩ := ra.i; obtain ⟨_, rfl⟩ := rb.i
  exact mul_int (K _ s.heap _ (grows_refl _) (.int _ _)) h
theorem op_div {i j : Int} (h : j ≠ 0) (hp : Builtin.divisionGoesByPylong i j = false) : Op2 w n (binaryOp .FloorDiv) (.int i) (.int j) (.int (i.fdiv j)) := by
  intro A s bad va vb QV EV C ra rb K; obtain ⟨_, rfl⟩ := ra.i; obtain ⟨_, rfl⟩ := rb.i
  exact floordiv_int h (K _ s.heap _ (grows_refl _) (.int _ _)) (.inl hp)
theorem op_mod {i j : Int} (h : j ≠ 0) : Op2 w n (binaryOp .Mod) (.int i) (.int j) (.int (i.fmod j)) := by
  intro A s bad va vb QV EV C ra rb K; obtain ⟨_, rfl⟩ := ra.i; obtain ⟨_, rfl⟩ := rb.i
  exact mod_int' h (K _ s.heap _ (grows_refl _) (.int _ _))
theorem op_pow {i j : Int} (h : 0 ≤ j) (hp : (Builtin.Int.intBits i : Int) * j ≤ 2 ^ 27) : Op2 w n (binaryOp .Pow) (.int i) (.int j) (.int (i ^ j.toNat)) := by
  intro A s bad va vb QV EV C ra rb K; obtain ⟨_, rfl⟩ := ra.i; obtain ⟨_, rfl⟩ := rb.i
  exact pow_int h hp (K _ s.heap _ (grows_refl _) (.int _ _))
theorem op_shl {i j : Int} (h : 0 ≤ j) (hp : (Builtin.Int.intBits i : Int) + j ≤ 2 ^ 27) : Op2 w n (binaryOp .LShift) (.int i) (.int j) (.int (i * 2 ^ j.toNat)) := by
  intro A s bad va vb QV EV C ra rb K; obtain ⟨_, rfl⟩ := ra.i; obtain ⟨_, rfl⟩ := rb.i
  exact lshift_int h hp (K _ s.heap _ (grows_refl _) (.int _ _))
theorem op_shr {i j : Int} (h : 0 ≤ j) : Op2 w n (binaryOp .RShift) (.int i) (.int j) (.int (i.fdiv (2 ^ j.toNat))) := by
  intro A s bad va vb QV EV C ra rb K; obtain ⟨_, rfl⟩ := ra.i; obtain ⟨_, rfl⟩ := rb.i
  exact rshift_int h (K _ s.heap _ (grows_refl _) (.int _ _))
theorem op_and (i j : Int) : Op2 w n (binaryOp .BitAnd) (.int i) (.int j) (.int (Builtin.bitAnd i j)) := by
  intro A s bad va vb QV EV C ra rb K; obtain ⟨_, rfl⟩ := ra.i; obtain ⟨_, rfl⟩ := rb.i
  exact and_int (K _ s.heap _ (grows_refl _) (.int _ _))
theorem op_or (i j : Int) : Op2 w n (binaryOp .BitOr) (.int i) (.int j) (.int (Builtin.bitOr i j)) := by
  intro A s bad va vb QV EV C ra rb K; obtain ⟨_, rfl⟩ := ra.i; obtain ⟨_, rfl⟩ := rb.i
  exact or_int (K _ s.heap _ (grows_refl _) (.int _ _))
theorem op_xor (i j : Int) : Op2 w n (binaryOp .BitXor) (.int i) (.int j) (.int (Builtin.bitXor i j)) := by
  intro A s bad va vb QV EV C ra rb K; obtain ⟨_, rfl⟩ := ra.i; obtain ⟨_, rfl⟩ := rb.i
  exact xor_int (K _ s.heap _ (grows_refl _) (.int _ _))
theorem op_neg (i : Int) : Op1 w n (unaryOp .USub) (.int i) (.int (-i)) := by
  intro A s bad va QV EV C ra K; obtain ⟨_, rfl⟩ := ra.i
  exact neg_int (K _ s.heap _ (grows_refl _) (.int _ _))
theorem op_inv (i : Int) : Op1 w n (unaryOp .Invert) (.int i) (.int (Builtin.bitNot i)) := by
  intro A s bad va QV EV C ra K; obtain ⟨_, rfl⟩ := ra.i
  exact invert_int (K _ s.heap _ (grows_refl _) (.int _ _))
theorem op_notb (b : Bool) : Op1 w n (unaryOp .Not) (.bool b) (.bool (!b)) := by
  intro A s bad va QV EV C ra K; obtain ⟨_, rfl⟩ := ra.i
  exact not_value (wpAny_truthy_bool (K _ s.heap s.toks (grows_refl _) (.bool _)))
theorem op_addS {x y : Str} (h : x.length + y.length ≤ sizeLine) : Op2 w n (binaryOp .Add) (.str x) (.str y) (.str (x ++ y)) := by
  intro A s bad va vb QV EV C ra rb K; obtain ⟨_, rfl⟩ := ra.i; obtain ⟨_, rfl⟩ := rb.i
  exact add_str (fun t' tk => K _ s.heap _ (grows_refl _) (.str _ _)) h
theorem op_eqI (i j : Int) : Op2 w n (compareOp .Eq) (.int i) (.int j) (.bool (i == j)) := by
  intro A s bad va vb QV EV C ra rb K; obtain ⟨_, rfl⟩ := ra.i; obtain ⟨_, rfl⟩ := rb.i
  exact eq_int (K _ s.heap s.toks (grows_refl _) (.bool _))
theorem op_neI (i j : Int) : Op2 w n (compareOp .NotEq) (.int i) (.int j) (.bool (i != j)) := by
  intro A s bad va vb QV EV C ra rb K; obtain ⟨_, rfl⟩ := ra.i; obtain ⟨_, rfl⟩ := rb.i
  exact ne_int (K _ s.heap s.toks (grows_refl _) (.bool _))
theorem op_lt (i j : Int) : Op2 w n (compareOp .Lt) (.int i) (.int j) (.bool (decide (i < j))) := by
  intro A s bad va vb QV EV C ra rb K; obtain ⟨_, rfl⟩ := ra.i; obtain ⟨_, rfl⟩ := rb.i
  exact lt_int (K _ s.heap s.toks (grows_refl _) (.bool _))
theorem op_le (i j : Int) : Op2 w n (compareOp .LtE) (.int i) (.int j) (.bool (decide (i ≤ j))) := by
  intro A s bad va vb QV EV C ra rb K; obtain ⟨_, rfl⟩ := ra.i; obtain ⟨_, rfl⟩ := rb.i
  exact le_int (K _ s.heap s.toks (grows_refl _) (.bool _))
theorem op_gt (i j : Int) : Op2 w n (compareOp .Gt) (.int i) (.int j) (.bool (decide (j < i))) := by
  intro A s bad va vb QV EV C ra rb K; obtain ⟨_, rfl⟩ := ra.i; obtain ⟨_, rfl⟩ := rb.i
  exact gt_int (K _ s.heap s.toks (grows_refl _) (.bool _))
theorem op_ge (i j : Int) : Op2 w n (compareOp .GtE) (.int i) (.int j) (.bool (decide (j ≤ i))) := by
  intro A s bad va vb QV EV C ra rb K; obtain ⟨_, rfl⟩ := ra.i; obtain ⟨_, rfl⟩ := rb.i
  exact ge_int (K _ s.heap s.toks (grows_refl _) (.bool _))
theorem op_eqS (x y : Str) : Op2 w n (compareOp .Eq) (.str x) (.str y) (.bool (x == y)) := by
  intro A s bad va vb QV EV C ra rb K; obtain ⟨_, rfl⟩ := ra.i; obtain ⟨_, rfl⟩ := rb.i
  exact eq_str (K _ s.heap s.toks (grows_refl _) (.bool _))
theorem op_neS (x y : Str) : Op2 w n (compareOp .NotEq) (.str x) (.str y) (.bool (x != y)) := by
  intro A s bad va vb QV EV C ra rb K; obtain ⟨_, rfl⟩ := ra.i; obtain ⟨_, rfl⟩ := rb.i
  exact ne_str (K _ s.heap s.toks (grows_refl _) (.bool _))
theorem op_ltS (x y : Str) : Op2 w n (compareOp .Lt) (.str x) (.str y) (.bool (decide (x.cps.toList < y.cps.toList))) := by
  intro A s bad va vb QV EV C ra rb K; obtain ⟨_, rfl⟩ := ra.i; obtain ⟨_, rfl⟩ := rb.i
  exact P.lt_str (K _ s.heap s.toks (grows_refl _) (.bool _))
noncomputable def PV.isNone : PV → Bool
  | .none => true
  | _ => false
theorem op_is (p : PV) : Op2 w n (compareOp .Is) p .none (.bool p.isNone) := by
  intro A s bad va vb QV EV C ra rb K; obtain ⟨_, rfl⟩ := rb.i
  refine is_none (K _ s.heap s.toks (grows_refl _) ?_)
  cases ra <;> exact .bool _
theorem op_isnot (p : PV) : Op2 w n (compareOp .IsNot) p .none (.bool (!p.isNone)) := by
  intro A s bad va vb QV EV C ra rb K; obtain ⟨_, rfl⟩ := rb.i
  refine isNot_none (K _ s.heap s.toks (grows_refl _) ?_)
  cases ra <;> exact .bool _
end
noncomputable def OpNP (w : World) (n : Nat) (op : List Value → Sem Value) (a : List PV) (φ : PV → Prop) : Prop :=
  ∀ (A : Around) (s : Shared) (bad : Addr → Prop) (va : List Value) (QV EV : Value → Shared → Prop), Cx w n A s.heap bad → RdL w s.heap bad va a →
    (∀ c v h' tk', φ c → Grows s.heap h' → Rd w h' bad v c → QV v (upd s h' tk')) → wpAny (model prg w) A (op va) QV EV s
noncomputable def strsOf : List PV → Option (List Str)
  | [] => some []
  | .str x :: r => (strsOf r).map (x :: ·)
  | _ => none
noncomputable def intsOf : List PV → Option (List Int)
  | [] => some []
  | .int i :: r => (intsOf r).map (i :: ·)
  | _ => none
noncomputable def boolsOf : List PV → Option (List Bool)
  | [] => some []
  | .bool i :: r => (boolsOf r).map (i :: ·)
  | _ => none
section
variable {w : World} {n : Nat} {P : World} {h h' : Heap} {bad : Addr → Prop}
theorem intsAre_of : ∀ {vs : List Value} {l : List PV} {ns : List Int}, RdL P h bad vs l → intsOf l = some ns → IntsAre vs ns := by
  intro vs l
  induction l generalizing vs with
  | nil => intro ns r e; cases e; rw [r.n]; exact .nil
  | cons p ps ih =>
    intro ns r e
    obtain ⟨a, l, rfl, ra, rs⟩ := r.c
    cases p with
    | int i =>
      obtain ⟨t, rfl⟩ := ra.i
      simp only [intsOf, Option.map_eq_some_iff] at e
      obtain ⟨ms, e1, rfl⟩ := e
      exact .cons _ _ (ih rs e1)
    | _ => cases e
theorem strsAre_of : ∀ {vs : List Value} {l : List PV} {ns : List Str}, RdL P h bad vs l → strsOf l = some ns → PyProof.Rows.StrsAre vs ns := by
  intro vs l
  induction l generalizing vs with
  | nil => intro ns r e; cases e; rw [r.n]; exact .nil
  | cons p ps ih =>
    intro ns r e
    obtain ⟨a, l, rfl, ra, rs⟩ := r.c
    cases p with
    | str i =>
      obtain ⟨t, rfl⟩ := ra.i
      simp only [strsOf, Option.map_eq_some_iff] at e
      obtain ⟨ms, e1, rfl⟩ := e
      exact .cons _ _ (ih rs e1)
    | _ => cases e
theorem rdl_ints : ∀ {vs : List Value} {ns : List Int}, IntsAre vs ns → RdL P h bad vs (ns.map PV.int)
  | [], _, .nil => .nil
  | _ :: _, _, .cons i t r => .cons (.int i t) (rdl_ints r)
theorem intsOf_map (ns : List Int) : intsOf (ns.map PV.int) = some ns := by
  induction ns with
  | nil => rfl
  | cons a r ih => show (intsOf (r.map PV.int)).map (a :: ·) = _; rw [ih]; rfl
theorem strsOf_map (ns : List Str) : strsOf (ns.map PV.str) = some ns := by
  induction ns with
  | nil => rfl
  | cons a r ih => show (strsOf (r.map PV.str)).map (a :: ·) = _; rw [ih]; rfl
theorem rdl1 {v : List Value} {p : PV} (r : RdL P h bad v [p]) : ∃ a, v = [a] ∧ Rd P h bad a p := by
  obtain ⟨a, l, rfl, ra, rs⟩ := r.c
  exact ⟨a, by rw [rs.n], ra⟩
theorem rdl2 {v : List Value} {p q : PV} (r : RdL P h bad v [p, q]) : ∃ a b, v = [a, b] ∧ Rd P h bad a p ∧ Rd P h bad b q := by
  obtain ⟨a, l, rfl, ra, rs⟩ := r.c
  obtain ⟨b, rfl, rb⟩ := rdl1 rs
  exact ⟨a, b, rfl, ra, rb⟩
theorem lt63 {k : Nat} (h : k ≤ sizeLine) : (k : Int) < 2 ^ 63 := by rw (occs := .all) [sizeLine_eq] at h; omega
theorem fresh_ok {A : Around} (C : Cx w n A h bad) (k : Grows h h') : ¬ bad h'.objs.size := fun q => by
  obtain ⟨o, e⟩ := C.bad _ q
  exact absurd (Heap.lt_size (k _ _ e)) (Nat.lt_irrefl _)
theorem op_lenS {x : Str} (hs : x.length ≤ sizeLine) : OpN w n (fun vs => call (.builtin "len") vs) [.str x] (.int x.length) := by
  intro A s bad va QV EV C r K
  obtain ⟨a, rfl, ra⟩ := rdl1 r; obtain ⟨_, rfl⟩ := ra.i
  exact SBL.len (by have := lt63 hs; omega) (K _ s.heap _ (grows_refl _) (.int _ _))
theorem op_lenL {l : List PV} (hs : l.length ≤ sizeLine) : OpN w n (fun vs => call (.builtin "len") vs) [.lst l] (.int l.length) := by
  intro A s bad va QV EV C r K
  obtain ⟨a, rfl, ra⟩ := rdl1 r
  obtain ⟨a, o, vs, m, rfl, e, c, d, nb, rs⟩ := ra.i
  have e1 : vs.size = l.length := by rw [← rs.length, Array.length_toList]
  refine len_list ⟨_, e, c.cls, _, d⟩ (by rw [e1]; exact lt63 hs) ?_
  rw (occs := .all) [e1]
  exact K _ s.heap _ (grows_refl _) (.int _ _)
theorem op_ord {x : Str} (hs : x.length = 1) : OpN w n (fun vs => call (.builtin "ord") vs) [.str x] (.int (x.cps.getD 0 0)) := by
  intro A s bad va QV EV C r K
  obtain ⟨a, rfl, ra⟩ := rdl1 r; obtain ⟨_, rfl⟩ := ra.i
  exact ord_of_one hs (K _ s.heap _ (grows_refl _) (.int _ _))
theorem op_abs (i : Int) : OpN w n (fun vs => call (.builtin "abs") vs) [.int i] (.int (if i < 0 then -i else i)) := by
  intro A s bad va QV EV C r K
  obtain ⟨a, rfl, ra⟩ := rdl1 r; obtain ⟨_, rfl⟩ := ra.i
  exact call_abs_int fun u tk => K _ s.heap _ (grows_refl _) (.int _ _)
theorem op_divmod {i j : Int} (hj : j ≠ 0) (hp : Builtin.divisionGoesByPylong i j = false) : OpN w n (fun vs => call (.builtin "divmod") vs) [.int i, .int j] (.tup [.int (i.fdiv j), .int (i.fmod j)]) := by
  intro A s bad va QV EV C r K
  obtain ⟨a, b, rfl, ra, rb⟩ := rdl2 r; obtain ⟨_, rfl⟩ := ra.i; obtain ⟨_, rfl⟩ := rb.i
  refine divmod_int hj (K _ _ _ (fun b o e => Heap.get?_push_of_some _ e) (.tup (Heap.get?_push_size _ rfl) ⟨rfl, rfl⟩ rfl (fresh_ok C (grows_refl _)) (.cons (.int _ _) (.cons (.int _ _) .nil)))) (.inl hp)
theorem op_max2 (i j : Int) (hn : 0 < n) : OpN w n (fun vs => call (.builtin "max") vs) [.int i, .int j] (.int (if j > i then j else i)) := by
  intro A s bad va QV EV C r K
  obtain ⟨a, b, rfl, ra, rb⟩ := rdl2 r; obtain ⟨_, rfl⟩ := ra.i; obtain ⟨_, rfl⟩ := rb.i
  refine max_two_ints (C.handled hn) fun h' tk g => K _ h' tk g ?_
  split <;> exact .int _ _
theorem op_min2 (i j : Int) (hn : 0 < n) : OpN w n (fun vs => call (.builtin "min") vs) [.int i, .int j] (.int (if j < i then j else i)) := by
  intro A s bad va QV EV C r K
  obtain ⟨a, b, rfl, ra, rb⟩ := rdl2 r; obtain ⟨_, rfl⟩ := ra.i; obtain ⟨_, rfl⟩ := rb.i
  refine min_two_ints (C.handled hn) fun h' tk g => K _ h' tk g ?_
  split <;> exact .int _ _
theorem op_strI {i : Int} (h : i.natAbs.log2 < 1920) : OpN w n (fun vs => call (.type "str") vs) [.int i] (.str (Str.ofString (toString i))) := by
  intro A s bad va QV EV C r K
  obtain ⟨a, rfl, ra⟩ := rdl1 r; obtain ⟨_, rfl⟩ := ra.i
  exact P.str_of_int h (K _ s.heap _ (grows_refl _) (.str _ _))
theorem op_tupleL {l : List PV} (hs : l.length ≤ sizeLine) : OpN w n (fun vs => call (.type "tuple") vs) [.lst l] (.tup l) := by
  intro A s bad va QV EV C r K
  obtain ⟨a, rfl, ra⟩ := rdl1 r
  obtain ⟨a, o, vs, m, rfl, e, c, d, nb, rs⟩ := ra.i
  have e1 : vs.size = l.length := by rw [← rs.length, Array.length_toList]
  refine call_tuple_list ⟨_, e, c.cls, _, d⟩ (fun h' g => ?_) (by rw [e1]; exact hs)
  have g' : Grows s.heap (h'.push { cls := .type "tuple", data := .seq vs }) := fun b o e => Heap.get?_push_of_some _ (g b o e)
  exact K _ _ _ g' (.tup (Heap.get?_push_size _ rfl) ⟨rfl, rfl⟩ rfl (fresh_ok C g) (rs.grow g'))
theorem op_sorted {l : List PV} {ns : List Int} (hl : intsOf l = some ns) (h64 : l.length < 64) : OpNP w n (fun vs => call (.builtin "sorted") vs) [.lst l] (fun c => ∃ ms : List Int, c = .lst (ms.map PV.int) ∧ ms.Perm ns ∧ ms.Pairwise (· ≤ ·)) := by
  intro A s bad va QV EV C r K
  obtain ⟨a, rfl, ra⟩ := rdl1 r
  obtain ⟨a, o, vs, m, rfl, e, c, d, nb, rs⟩ := ra.i
  have hL : s.heap.IsList a vs.toList.toArray := ⟨_, e, c.cls, m, d⟩
  refine sorted_ints hL (intsAre_of rs hl) (by rw [rs.length]; exact h64) fun out ms h1 h2 h3 => ?_
  obtain ⟨k, hk⟩ := sortedAll_at s.heap vs.toList out
  refine K (.lst (ms.map PV.int)) _ _ _ ⟨ms, rfl, h2, h3⟩ (fun b o e => sortedAll_old e) (.lst hk ⟨rfl, rfl⟩ rfl (fun q => ?_) (rdl_ints h1))
  obtain ⟨o, e⟩ := C.bad _ q
  exact absurd (Heap.lt_size e) (Nat.not_lt.mpr (Nat.le_succ _))
theorem op_inT {l : List PV} {x : Str} {ys : List Str} (hl : strsOf l = some ys) : Op2 w n (compareOp .In) (.str x) (.tup l) (.bool (ys.any (· == x))) := by
  intro A s bad va vb QV EV C ra rb K; obtain ⟨_, rfl⟩ := ra.i
  obtain ⟨_, _, _, _, rfl, e, c, d, nb, rs⟩ := rb.i
  exact in_tuple_strs ⟨_, e, c.cls, _, d⟩ (strsAre_of rs hl) (K _ s.heap s.toks (grows_refl _) (.bool _))
theorem op_ninT {l : List PV} {x : Str} {ys : List Str} (hl : strsOf l = some ys) : Op2 w n (compareOp .NotIn) (.str x) (.tup l) (.bool (!(ys.any (· == x)))) := by
  intro A s bad va vb QV EV C ra rb K; obtain ⟨_, rfl⟩ := ra.i
  obtain ⟨_, _, _, _, rfl, e, c, d, nb, rs⟩ := rb.i
  exact notin_tuple_strs ⟨_, e, c.cls, _, d⟩ (strsAre_of rs hl) (K _ s.heap s.toks (grows_refl _) (.bool _))
theorem op_inTI {l : List PV} {x : Int} {ys : List Int} (hl : intsOf l = some ys) : Op2 w n (compareOp .In) (.int x) (.tup l) (.bool (ys.any (· == x))) := by
  intro A s bad va vb QV EV C ra rb K; obtain ⟨_, rfl⟩ := ra.i
  obtain ⟨_, _, _, _, rfl, e, c, d, nb, rs⟩ := rb.i
  exact in_tuple_ints ⟨_, e, c.cls, _, d⟩ (intsAre_of rs hl) (K _ s.heap s.toks (grows_refl _) (.bool _))
theorem op_inL {l : List PV} {x : Str} {ys : List Str} (hl : strsOf l = some ys) : Op2 w n (compareOp .In) (.str x) (.lst l) (.bool (ys.any (· == x))) := by
  intro A s bad va vb QV EV C ra rb K; obtain ⟨_, rfl⟩ := ra.i
  obtain ⟨a, o, vs, m, rfl, e, c, d, nb, rs⟩ := rb.i
  have hL : s.heap.IsList a vs.toList.toArray := ⟨_, e, c.cls, m, d⟩
  exact in_list_strs hL (strsAre_of rs hl) (K _ s.heap s.toks (grows_refl _) (.bool _))
theorem op_maxL {l : List PV} {ns : List Int} (hl : intsOf l = some ns) (hne : 0 < ns.length) (hn : 0 < n) : OpNP w n (fun vs => call (.builtin "max") vs) [.lst l] (fun c => ∃ M, c = .int M ∧ M ∈ ns ∧ ∀ a ∈ ns, a ≤ M) := by
  intro A s bad va QV EV C r K
  obtain ⟨a, rfl, ra⟩ := rdl1 r
  obtain ⟨a, o, vs, m, rfl, e, c, d, nb, rs⟩ := ra.i
  have hi := intsAre_of rs hl
  have hL : s.heap.IsList a vs.toList.toArray := ⟨_, e, c.cls, m, d⟩
  obtain ⟨xs, e⟩ := hi.allInts.items
  have hns : ns = xs.toList.map (·.1) := by
    rw (occs := .all) [← hi.numsOf, ← nums_intItems, ← e]
  have hsz : 0 < xs.size := by
    have h3 := hne; rw (occs := .all) [hns, List.length_map, Array.length_toList] at h3; exact h3
  rw (occs := .all) [e] at hL
  refine max_intList (C.handled hn) hL hsz fun v h' tk hv hk => ?_
  obtain ⟨t, rfl⟩ := intItems_at hv
  obtain ⟨h1, h2⟩ := argBest_gt (numAt xs) (xs.size - 1)
  refine K _ _ h' tk ⟨_, rfl, ?_, fun a ha => ?_⟩ hk (.int _ _)
  · rw (occs := .all) [hns, numAt_eq]; exact getD_mem (by rw [List.length_map, Array.length_toList]; omega)
  · rw (occs := .all) [hns] at ha
    obtain ⟨j, hj, rfl⟩ := mem_getD ha
    rw (occs := .all) [List.length_map, Array.length_toList] at hj
    rw (occs := .all) [← numAt_eq]; exact h2 j (by omega)
theorem op_minL {l : List PV} {ns : List Int} (hl : intsOf l = some ns) (hne : 0 < ns.length) (hn : 0 < n) : OpNP w n (fun vs => call (.builtin "min") vs) [.lst l] (fun c => ∃ M, c = .int M ∧ M ∈ ns ∧ ∀ a ∈ ns, M ≤ a) := by
  intro A s bad va QV EV C r K
  obtain ⟨a, rfl, ra⟩ := rdl1 r
  obtain ⟨a, o, vs, m, rfl, e, c, d, nb, rs⟩ := ra.i
  have hi := intsAre_of rs hl
  have hL : s.heap.IsList a vs.toList.toArray := ⟨_, e, c.cls, m, d⟩
  obtain ⟨xs, e⟩ := hi.allInts.items
  have hns : ns = xs.toList.map (·.1) := by
    rw (occs := .all) [← hi.numsOf, ← nums_intItems, ← e]
  have hsz : 0 < xs.size := by
    have h3 := hne; rw (occs := .all) [hns, List.length_map, Array.length_toList] at h3; exact h3
  rw (occs := .all) [e] at hL
  refine min_intList (C.handled hn) hL hsz fun v h' tk hv hk => ?_
  obtain ⟨t, rfl⟩ := intItems_at hv
  obtain ⟨h1, h2⟩ := argBest_lt (numAt xs) (xs.size - 1)
  refine K _ _ h' tk ⟨_, rfl, ?_, fun a ha => ?_⟩ hk (.int _ _)
  · rw (occs := .all) [hns, numAt_eq]; exact getD_mem (by rw [List.length_map, Array.length_toList]; omega)
  · rw (occs := .all) [hns] at ha
    obtain ⟨j, hj, rfl⟩ := mem_getD ha
    rw (occs := .all) [List.length_map, Array.length_toList] at hj
    rw (occs := .all) [← numAt_eq]; exact h2 j (by omega)
end
section
variable {w : World} {n : Nat} {σ : Scope} {ρ : PEnv} {X : Exc → Prop}
theorem ev_callBP {g : Str} {np pos : Pos} {e : Expr} {rest : List Expr} {id : String} {Q : PEnv → PV → Prop} (hg : ∀ P, nsIn (hp P) mainGlobals g = some none) (hb : bootBuiltins g = some (.builtin id))
    (h : evs w n σ (e :: rest) ρ (fun ρ1 ps => ∃ φ, OpNP w n (fun vs => call (.builtin id) vs) ps φ ∧ ∀ c, φ c → Q ρ1 c) X) (hx : σ.names.lookup g = some .globalImplicit := by kernel_rfl) (hd : (g == ("__debug__" : Str)) = false := by kernel_rfl)
    (hnn : g ≠ "__name__" := by decide +kernel) (hst : ∀ env, starEach (e :: rest) env = (false, eval e env) :: starEach rest env := by intro _; with_unfolding_all rfl) (hpl : ∀ env, (backTo pos (starEach rest env)).any (·.1) = false := by intro _; with_unfolding_all rfl) : ev w n σ (.Call (.Name g np) (e :: rest) [] pos) ρ Q X := by
  intro f s m QV EV O S K E
  refine Call_ (load_boot O S (hg _) hb hnn ?_ hx hd)
  refine callWith_builtin1 (h f s m pos _ EV O S (fun ρ1 ps vs h1 tk1 S1 r1 k1 => ?_) E) (hst _) (hpl _)
  obtain ⟨φ, op, q⟩ := k1
  exact op f.A (upd s h1 tk1) _ vs QV EV (O.cx S1) r1 (fun c v h3 tk3 p g r => K ρ1 c v h3 tk3 (S1.grow g) r (q c p))
theorem ev_sub {value slice : Expr} {pos : Pos} {Q : PEnv → PV → Prop} (h : ev w n σ value ρ (fun ρ1 o => ev w n σ slice ρ1 (fun ρ2 i => ∃ c, Op2 w n (subscriptTail value slice) o i c ∧ Q ρ2 c) X) X) : ev w n σ (.Subscript value slice pos) ρ Q X := by
  intro f s m QV EV O S K E
  refine Subscript_ (h f s m _ EV O S (fun ρ1 a va h1 tk1 S1 r1 k1 => ?_) E)
  refine k1 (f.re ρ1 m h1) (upd s h1 tk1) m _ EV O.re S1.re (fun ρ2 b vb h2 tk2 S2 r2 k2 => ?_) (fun x a h' tk' F q => E x a h' tk' (F.back S1) q)
  obtain ⟨c, op, q⟩ := k2
  have S2' := S1.back S2
  exact op f.A (upd s h2 tk2) _ va vb QV EV (O.cx S2') (S1.keepRd S2 r1) r2 (fun v h3 tk3 g r => K ρ2 c v h3 tk3 (S2'.grow g) r q)
theorem op_itemT {value slice : Expr} {l : List PV} {k : Int} {j : Nat} {p : PV} (hj : seqIndex? k l.length = some j) (hp : l[j]? = some p) (h1 : -2 ^ 63 ≤ k) (h2 : k < 2 ^ 63)
    (hs : ∀ a t, subscripted slice false (Value.ref a) (Value.int k t) = operate [Value.ref a, Value.int k t] (getItem (Value.ref a) (Value.int k t)) := by intro _ _; with_unfolding_all rfl) : Op2 w n (subscriptTail value slice) (.tup l) (.int k) p := by
  intro A s bad va vb QV EV C ra rb K; obtain ⟨_, rfl⟩ := rb.i
  rename_i t
  obtain ⟨a, o, vs, m, rfl, e, c, d, nb, rs⟩ := ra.i
  obtain ⟨v, hv, rv⟩ := rs.get hp
  have hT : IsTup s.heap a vs.toList.toArray := ⟨_, e, c.cls, m, d⟩
  exact item_tupleT hT h1 h2 (by rw [rs.length]; exact hj) hv (K v s.heap s.toks (grows_refl _) rv) (hs _ _)
theorem op_itemL {value slice : Expr} {l : List PV} {k : Int} {p : PV} (h0 : 0 ≤ k) (hp : l[k.toNat]? = some p) (h2 : k < 2 ^ 63)
    (hs : ∀ a t, subscripted slice false (Value.ref a) (Value.int k t) = operate [Value.ref a, Value.int k t] (getItem (Value.ref a) (Value.int k t)) := by intro _ _; with_unfolding_all rfl) : Op2 w n (subscriptTail value slice) (.lst l) (.int k) p := by
  intro A s bad va vb QV EV C ra rb K; obtain ⟨_, rfl⟩ := rb.i
  rename_i t
  obtain ⟨a, o, vs, m, rfl, e, c, d, nb, rs⟩ := ra.i
  obtain ⟨v, hv, rv⟩ := rs.get hp
  have hL : s.heap.IsList a vs := ⟨_, e, c.cls, m, d⟩
  exact tail_any hL.typeIs slot_list_getitem.lookup (wpAny_getItem_list hL h0 h2 (by rw [← Array.getElem?_toList]; exact hv) (K v s.heap s.toks (grows_refl _) rv)) (hs _ _)
theorem op_itemS {value slice : Expr} {x : Str} {k : Int} (h1 : -(x.length : Int) ≤ k) (h2 : k < x.length) (h3 : x.length ≤ sizeLine)
    (hs : ∀ t u, subscripted slice false (Value.str x t) (Value.int k u) = operate [Value.str x t, Value.int k u] (getItem (Value.str x t) (Value.int k u)) := by intro _ _; with_unfolding_all rfl)
    (ht : ∀ t r, letTemporaryGo value (Value.str x t) r = pure () := by intro _ _; with_unfolding_all rfl) : Op2 w n (subscriptTail value slice) (.str x) (.int k) (.str (Txt.item x k)) := by
  intro A s bad va vb QV EV C ra rb K; obtain ⟨_, rfl⟩ := ra.i; obtain ⟨_, rfl⟩ := rb.i
  exact tail_of_ItemOn (SBL.item h1 h2 (by have := lt63 h3; omega) fun _ => K _ s.heap _ (grows_refl _) (.str _ _)) (hs _ _) (ht _)
end
section
variable {w : World} {A : Around} {R : Result → Shared → Prop} {s : Shared}
theorem while_turn {test : Expr} {body : List Stmt} {env : Env}
    (h : wpAny (model prg w) A (isTrue test env (eval test env)) (fun b s₂ =>
        if b then wpAny (model prg w) A (execs body env) (fun f s₃ => match f with
            | .next | .cont => codeAny (model prg w) A (.whileLoop test body [] env) R s₃
            | .brk => R (.ok .next) s₃
            | .ret v => R (.ok (.ret v)) s₃) (notedBy (model prg w) A env fun e s' => R (.error e) s') s₂
        else R (.ok .next) s₂)
        (notedBy (model prg w) A env fun e s' => R (.error e) s') s) : codeAny (model prg w) A (.whileLoop test body [] env) R s := by
  refine codeAny_of_tree ?_
  show wpAny _ A ((whileTurn test body [] env).onRaise (fun x => do noteFrame x env; theTreesLotGoes x)) _ _ s
  refine wpAny_noted ?_
  simp only [whileTurn]
  refine wpAny_bind (wpAny_mono h (fun b s₂ h₂ => ?_) fun _ _ h' => h')
  cases b with
  | false =>
    simp only [Bool.false_eq_true, if_false] at h₂ ⊢
    exact wpAny_bind (wpAny_execs_nil (wpAny_pure h₂))
  | true =>
    simp only [if_true] at h₂ ⊢
    refine wpAny_bind (wpAny_mono h₂ (fun f s₃ h₃ => ?_) fun _ _ h' => h')
    cases f with
    | next => exact wpAny_pure ⟨rfl, h₃⟩
    | cont => exact wpAny_pure ⟨rfl, h₃⟩
    | brk => exact wpAny_pure h₃
    | ret v => exact wpAny_pure h₃
theorem for_turn {target : Expr} {it : Value} {body : List Stmt} {env : Env}
    (h : wpAny (model prg w) A (pyNext it) (fun r s₁ => match r with
      | none => R (.ok .next) s₁
      | some v => wpAny (model prg w) A (letOwnedTupleGo target it v) (fun _ s₁' =>
          wpAny (model prg w) A (assign target env v) (fun _ s₂ => wpAny (model prg w) A (execs body env) (fun f s₃ => match f with
            | .next | .cont => codeAny (model prg w) A (.forLoop target it body [] env) R s₃
            | .brk => R (.ok .next) s₃
            | .ret v => R (.ok (.ret v)) s₃) (notedBy (model prg w) A env fun e s' => R (.error e) s') s₂) (notedBy (model prg w) A env fun e s' => R (.error e) s') s₁') (notedBy (model prg w) A env fun e s' => R (.error e) s') s₁) (notedBy (model prg w) A env fun e s' => R (.error e) s') s) :
    codeAny (model prg w) A (.forLoop target it body [] env) R s := by
  refine codeAny_of_tree ?_
  show wpAny _ A ((forTurn target it body [] env).onRaise (fun x => do noteFrame x env; theTreesLotGoes x)) _ _ s
  refine wpAny_noted ?_
  simp only [forTurn]
  refine wpAny_bind (wpAny_standAt (wpAny_bind (wpAny_onRaise (wpAny_mono h (fun r s₁ h₁ => ?_) fun _ _ h' => wpAny_standAt h'))))
  cases r with
  | none => exact wpAny_pure ⟨rfl, codeAny_block (wpAny_execs_nil h₁)⟩
  | some v =>
    refine wpAny_bind (wpAny_mono h₁ (fun _ s₁' h₁' => ?_) fun _ _ h' => h')
    refine wpAny_bind (wpAny_mono h₁' (fun _ s₂ h₂ => wpAny_bind (wpAny_mono h₂ (fun f s₃ h₃ => ?_) fun _ _ h' => h')) fun _ _ h' => h')
    cases f with
    | next => exact wpAny_pure ⟨rfl, h₃⟩
    | cont => exact wpAny_pure ⟨rfl, h₃⟩
    | brk => exact wpAny_pure h₃
    | ret v => exact wpAny_pure h₃
end
noncomputable def whl (w : World) (n : Nat) (σ : Scope) (test : Expr) (body : List Stmt) (ρ : PEnv) (N : PEnv → Prop) (k : Ks) (X : Exc → Prop) : Prop :=
  ∀ (f : Fm) (s : Shared) (m : Str → Option Value) (R : Result → Shared → Prop), f.Ok w n σ → St w f ρ m s.heap →
    (∀ ρ' m' fl flv h' tk', St w f ρ' m' h' → FlIn w f ρ' m' h' flv fl → fl.post N k ρ' → R (.ok flv) (upd s h' tk')) →
    (∀ x a h' tk', FlyT f a x h' (rawInt f.L) → X x → R (.error (.ref a)) (upd s h' tk')) →
    codeAny (model prg w) f.A (.whileLoop test body [] f.env) R s
section
variable {w : World} {n : Nat} {σ : Scope} {ρ : PEnv} {X : Exc → Prop}
theorem noted_of {f : Fm} {m : Str → Option Value} {s : Shared} {h₀ : Heap} {R : Result → Shared → Prop} {a : Addr} {x : Exc} (O : f.Ok w n σ) (S : St w f ρ m h₀) (F : Fly f a x s.heap)
    (E : ∀ h', FlyT f a x h' (rawInt f.L) → R (.error (.ref a)) { s with heap := h' }) : notedBy (model prg w) f.A f.env (fun e s' => R (.error e) s') (.ref a) s := by
  unfold notedBy
  exact note F O.frames (fun b o e => (S.baseOld b o e).1) S.badFr E
theorem whl_step {test : Expr} {body : List Stmt} {N : PEnv → Prop} {B C : PEnv → Prop} {Rr : PV → Prop} {Oo : Exc → Prop}
    (h : evb w n σ test ρ (fun ρ1 b => Br b (exs w n σ body ρ1 (fun ρ2 => whl w n σ test body ρ2 N ⟨B, C, Rr, Oo⟩ X) ⟨N, fun ρ2 => whl w n σ test body ρ2 N ⟨B, C, Rr, Oo⟩ X, Rr, Oo⟩ X) (N ρ1)) X) : whl w n σ test body ρ N ⟨B, C, Rr, Oo⟩ X := by
  intro f s m R O S K E
  refine while_turn (h f s m _ _ O S (fun ρ1 b h1 tk1 S1 q => ?_) (fun x a h' tk' F q => noted_of O S F fun h'' G => E x a h'' tk' G q))
  cases b with
  | false => exact K ρ1 m .next .next h1 tk1 S1 trivial q
  | true =>
    refine q f (upd s h1 tk1) m _ _ O S1 (fun ρ2 m2 fl flv h2 tk2 S2 I p => ?_) (fun x a h' tk' F q => noted_of O S1 F fun h'' G => E x a h'' tk' G q)
    cases flv with
    | next => cases fl with
      | next => exact p f (upd s h2 tk2) m2 R O S2 (fun ρ' m' fl flv h' tk' a b c => K ρ' m' fl flv h' tk' a b c) (fun x a h' tk' b c => E x a h' tk' b c)
      | _ => exact I.elim
    | cont => cases fl with
      | cont => exact p f (upd s h2 tk2) m2 R O S2 (fun ρ' m' fl flv h' tk' a b c => K ρ' m' fl flv h' tk' a b c) (fun x a h' tk' b c => E x a h' tk' b c)
      | _ => exact I.elim
    | brk => cases fl with
      | brk => exact K ρ2 m2 .next .next h2 tk2 S2 trivial p
      | _ => exact I.elim
    | ret v => cases fl with
      | ret pv => exact K ρ2 m2 (.ret pv) (.ret v) h2 tk2 S2 I p
      | obj pv => exact K ρ2 m2 (.obj pv) (.ret v) h2 tk2 S2 I p
      | _ => exact I.elim
theorem ex_while {test : Expr} {body : List Stmt} {pos : Pos} {N : PEnv → Prop} {k : Ks} (h : whl w n σ test body ρ N k X) : ex w n σ (.While test body [] pos) ρ N k X := by
  intro f s m QV EV O S K E
  refine wpAny_While (h f s m _ O S (fun ρ' m' fl flv h' tk' a b c => K ρ' m' fl flv h' tk' a b c) (fun x a h' tk' F q => ?_))
  refine came (Q := fun _ _ => True) F (fun b o e => (S.baseOld b o e).1) fun h'' G => ?_
  exact E x a h'' tk' (G.fly (.inr rfl)) q
noncomputable def NotSeq (o : Obj) : Prop := o.cls ≠ .type "tuple" ∧ o.cls ≠ .type "list" ∧ o.cls ≠ .type "dict"
structure Itr (w : World) (f : Fm) (ρ : PEnv) (m : Str → Option Value) (h : Heap) (I : Addr) (items : List PV) : Prop where
  it : ∃ (fp : List Addr) (nn i : Nat) (Pv : Nat → Value → Prop) (Stt : Nat → Heap → Prop), Walks prg w f.A I fp [I] nn Pv Stt ∧ Stt i h ∧ i + items.length = nn ∧
    (∀ b ∈ fp, ¬ f.badAt ρ m b ∧ ∃ o, h.get? b = some o) ∧ (∀ j h', Stt j h' → ∃ o, h'.get? I = some o ∧ NotSeq o) ∧
    (∀ j p, items[j]? = some p → ∀ v, Pv (i + j) v → Rd w h (f.badAt ρ m) v p)
  new : f.h₀ I = none
theorem St.but {P : World} {f : Fm} {m : Str → Option Value} {h h' : Heap} {I : Addr} (S : St P f ρ m h) (k : ∀ b o, b ≠ I → h.get? b = some o → h'.get? b = some o) (nb : ¬ f.badAt ρ m I) (new : f.h₀ I = none) (ns : ∃ o, h.get? I = some o ∧ NotSeq o) : St P f ρ m h' := by
  obtain ⟨oI, hI, n1, n2, n3⟩ := ns
  have mv : ∀ a o, h.get? a = some o → ¬ f.badAt ρ m a → (o.cls = .type "tuple" ∨ o.cls = .type "list" ∨ o.cls = .type "dict") → h'.get? a = some o ∧ ¬ f.badAt ρ m a := by
    intro a o e n c
    refine ⟨k a o (fun q => ?_) e, n⟩
    rw (occs := .all) [q, hI] at e; cases e
    rcases c with c | c | c
    · exact n1 c
    · exact n2 c
    · exact n3 c
  have neL : f.L ≠ I := fun q => nb (.inr (.inl q.symm))
  refine ⟨?_, fun x b e => ?_, S.inj, ?_, ?_, ?_, S.newL, S.ownNew, S.badOld, S.badFr, S.baseOld⟩
  · obtain ⟨o, es, ep, ho, r⟩ := S.ns
    exact ⟨o, es, ep, k _ _ neL ho, r⟩
  · have q := S.bnd x b e
    cases b with
    | fz p =>
      obtain ⟨v, h1, h2⟩ := q
      exact ⟨v, h1, h2.move mv⟩
    | own l =>
      obtain ⟨a, o, vs, n, h1, h2, h3, h4, h5⟩ := q
      exact ⟨a, o, vs, n, h1, k a o (fun z => nb (.inr (.inr (z ▸ ⟨x, l, e, h1⟩)))) h2, h3, h4, h5.move mv⟩
  · intro b o e
    obtain ⟨sl, h1, h2⟩ := S.sim b o e
    exact ⟨sl, k _ _ (fun q => by rw (occs := .all) [q, new] at e; cases e) h1, h2⟩
  · intro b o e
    exact k _ _ (fun q => by have := (S.baseOld b o e).1; rw (occs := .all) [q, new] at this; cases this) (S.stays b o e)
  · obtain ⟨hk, ⟨L', o, hf, hn', ho, hd⟩, hr⟩ := S.frames
    obtain rfl : f.L = L' := Option.some.inj hf
    refine ⟨hk, ⟨f.L, o, hf, hn', k _ _ neL ho, hd⟩, frames_keep hr fun e he b hb o ho => k b o (fun q => ?_) ho⟩
    exact nb (.inl (q ▸ S.badFr e he b hb))
theorem Rd.but {P : World} {f : Fm} {m : Str → Option Value} {h h' : Heap} {I : Addr} {v : Value} {p : PV} (r : Rd P h (f.badAt ρ m) v p) (k : ∀ b o, b ≠ I → h.get? b = some o → h'.get? b = some o) (ns : ∃ o, h.get? I = some o ∧ NotSeq o) : Rd P h' (f.badAt ρ m) v p := by
  obtain ⟨oI, hI, n1, n2, n3⟩ := ns
  refine r.move fun a o e n c => ⟨k a o (fun q => ?_) e, n⟩
  rw (occs := .all) [q, hI] at e; cases e
  rcases c with c | c | c
  · exact n1 c
  · exact n2 c
  · exact n3 c
theorem Itr.there {f : Fm} {m : Str → Option Value} {h : Heap} {I : Addr} {items : List PV} (T : Itr w f ρ m h I items) : ¬ f.badAt ρ m I ∧ ∃ o, h.get? I = some o ∧ NotSeq o := by
  obtain ⟨fp, nn, i, Pv, Stt, W, st, hn, hfp, hI, hit⟩ := T.it
  exact ⟨(hfp I (W.sub I (.head _))).1, hI _ _ st⟩
theorem Itr.keep {f : Fm} {ρ' : PEnv} {m m' : Str → Option Value} {h h' : Heap} {I : Addr} {items : List PV} (S : St w f ρ m h) (T : Itr w f ρ m h I items) (S' : St w (f.re ρ m h) ρ' m' h') : Itr w f ρ' m' h' I items := by
  obtain ⟨fp, nn, i, Pv, Stt, W, st, hn, hfp, hI, hit⟩ := T.it
  refine ⟨⟨fp, nn, i, Pv, Stt, W, W.frame i h h' st fun b hb o e => (S.keep S' b o e (hfp b hb).1).1, hn, fun b hb => ?_, hI, fun j p e v hv => S.keepRd S' (hit j p e v hv)⟩, T.new⟩
  obtain ⟨nb, o, e⟩ := hfp b hb
  exact ⟨(S.keep S' b o e nb).2, o, (S.keep S' b o e nb).1⟩
theorem Itr.store {f : Fm} {ρ' : PEnv} {m : Str → Option Value} {h h' : Heap} {I : Addr} {items : List PV} {x : Str} {v : Value} {p : PV} (S : St w f ρ m h) (T : Itr w f ρ m h I items) (hp : Put x (.fz p) ρ ρ') (hs : Heap.SameBut f.L h h') :
    Itr w f ρ' (fun y => if y = x then some v else m y) h' I items := by
  obtain ⟨fp, nn, i, Pv, Stt, W, st, hn, hfp, hI, hit⟩ := T.it
  have own : ∀ a, OwnAt ρ' (fun y => if y = x then some v else m y) a → OwnAt ρ m a := by
    rintro a ⟨y, l, e1, e2⟩
    by_cases q : y = x
    · subst q; rw (occs := .all) [hp.same] at e1; cases e1
    · rw (occs := .all) [hp.other q] at e1
      simp only [q, if_false] at e2
      exact ⟨y, l, e1, e2⟩
  have bad : ∀ a, f.badAt ρ' (fun y => if y = x then some v else m y) a → f.badAt ρ m a := fun a q => q.imp_right fun q => q.imp_right (own a)
  have ne : ∀ a, ¬ f.badAt ρ m a → a ≠ f.L := fun a n q => n (.inr (.inl q))
  refine ⟨⟨fp, nn, i, Pv, Stt, W, W.frame i h h' st fun b hb o e => (hs.2 b (ne b (hfp b hb).1)).trans e, hn, fun b hb => ?_, hI, fun j p e v hv => (hit j p e v hv).move fun a o e n _ => ⟨(hs.2 a (ne a n)).trans e, fun q => n (bad a q)⟩⟩, T.new⟩
  obtain ⟨nb, o, e⟩ := hfp b hb
  exact ⟨fun q => nb (bad b q), o, (hs.2 b (ne b nb)).trans e⟩
noncomputable def frl (w : World) (n : Nat) (σ : Scope) (x : Str) (px : Pos) (body : List Stmt) (items : List PV) (ρ : PEnv) (N : PEnv → Prop) (k : Ks) (X : Exc → Prop) : Prop :=
  ∀ (f : Fm) (s : Shared) (m : Str → Option Value) (I : Addr) (R : Result → Shared → Prop), f.Ok w n σ → St w f ρ m s.heap → Itr w f ρ m s.heap I items →
    (∀ ρ' m' fl flv h' tk', St w f ρ' m' h' → FlIn w f ρ' m' h' flv fl → fl.post N k ρ' → R (.ok flv) (upd s h' tk')) →
    (∀ x a h' tk', FlyT f a x h' (rawInt f.L) → X x → R (.error (.ref a)) (upd s h' tk')) →
    codeAny (model prg w) f.A (.forLoop (.Name x px) (.ref I) body [] f.env) R s
theorem frl_nil {x : Str} {px : Pos} {body : List Stmt} {N : PEnv → Prop} {k : Ks} (h : N ρ) : frl w n σ x px body [] ρ N k X := by
  intro f s m I R O S T K E
  obtain ⟨nbI, nsI⟩ := T.there
  obtain ⟨fp, nn, i, Pv, Stt, W, st, hn, hfp, hI, hit⟩ := T.it
  simp only [List.length_nil, Nat.add_zero] at hn
  subst hn
  refine for_turn (W.done s _ _ st fun h' tk k => ?_)
  exact K ρ m .next .next h' tk (S.but (fun b o q e => k b o (by simpa using q) e) nbI T.new nsI) trivial h
theorem frl_cons {x : Str} {px : Pos} {body : List Stmt} {p : PV} {items : List PV} {ρ1 : PEnv} {N : PEnv → Prop} {B C : PEnv → Prop} {Rr : PV → Prop} {Oo : Exc → Prop} (hp : Put x (.fz p) ρ ρ1)
    (h : exs w n σ body ρ1 (fun ρ2 => frl w n σ x px body items ρ2 N ⟨B, C, Rr, Oo⟩ X) ⟨N, fun ρ2 => frl w n σ x px body items ρ2 N ⟨B, C, Rr, Oo⟩ X, Rr, Oo⟩ X) (hx : σ.names.lookup x = some .local) : frl w n σ x px body (p :: items) ρ N ⟨B, C, Rr, Oo⟩ X := by
  intro f s m I R O S T K E
  obtain ⟨nbI, nsI⟩ := T.there
  obtain ⟨fp, nn, i, Pv, Stt, W, st, hn, hfp, hI, hit⟩ := T.it
  simp only [List.length_cons] at hn
  refine for_turn (W.item i s _ _ (by omega) st fun v h1 tk1 hv st1 k1 => ?_)
  have k1' : ∀ b o, b ≠ I → s.heap.get? b = some o → h1.get? b = some o := fun b o q e => k1 b o (by simpa using q) e
  have S1 := S.but k1' nbI T.new nsI
  have rv : Rd w h1 (f.badAt ρ m) v p := Rd.but (hit 0 p rfl v (by simpa using hv)) k1' nsI
  have T1 : Itr w f ρ m h1 I items := by
    refine ⟨⟨fp, nn, i + 1, Pv, Stt, W, st1, by omega, fun b hb => ⟨(hfp b hb).1, ?_⟩, hI, fun j q e v hv => Rd.but (hit (j + 1) q (by simpa using e) v (by rw [show i + (j + 1) = i + 1 + j by omega]; exact hv)) k1' nsI⟩, T.new⟩
    by_cases z : b = I
    · obtain ⟨o, e, _⟩ := hI _ _ st1
      exact ⟨o, z ▸ e⟩
    · obtain ⟨o, e⟩ := (hfp b hb).2
      exact ⟨o, k1' b o z e⟩
  have hsc := O.sc
  subst hsc
  refine wpAny_pure (a := ()) (wpAny_assign_Name (wpAny_storeName_local (m := m) hx S1.ns (fun h2 hn2 hs2 => ?_) (by show (f.scope.kind == .class || (f.scope.kind == .module && f.L != mainGlobals)) = false; rw [O.kind]; rfl)))
  have S2 := S1.store rv hp hn2 hs2
  have T2 := T1.store (v := v) S1 hp hs2
  refine h (f.re ρ1 _ h2) (upd s h2 (tk1 + 1)) _ _ _ O.re S2.re (fun ρ3 m3 fl flv h3 tk3 S3 Ir q => ?_) (fun x a h' tk' F q => noted_of O S2 (F.back S2) fun h'' G => E x a h'' tk' G q)
  have S3' := S2.back S3
  have T3 := T2.keep S2 S3
  cases flv with
  | next => cases fl with
    | next => exact q f (upd s h3 tk3) m3 I R O S3' T3 (fun ρ' m' fl flv h' tk' a b c => K ρ' m' fl flv h' tk' a b c) (fun x a h' tk' b c => E x a h' tk' b c)
    | _ => exact Ir.elim
  | cont => cases fl with
    | cont => exact q f (upd s h3 tk3) m3 I R O S3' T3 (fun ρ' m' fl flv h' tk' a b c => K ρ' m' fl flv h' tk' a b c) (fun x a h' tk' b c => E x a h' tk' b c)
    | _ => exact Ir.elim
  | brk => cases fl with
    | brk => exact K ρ3 m3 .next .next h3 tk3 S3' trivial q
    | _ => exact Ir.elim
  | ret v => cases fl with
    | ret pv => exact K ρ3 m3 (.ret pv) (.ret v) h3 tk3 S3' Ir q
    | obj pv =>
      obtain ⟨e, h1, h2, h3'⟩ := Ir
      exact K ρ3 m3 (.obj pv) (.ret v) h3 tk3 S3' ⟨e, h1, h2, S2.noneBack h3'⟩ q
    | _ => exact Ir.elim
end
noncomputable def signs (x : Str) : List PV := x.cps.toList.map fun c => PV.str ⟨#[c]⟩
inductive Items : PV → List PV → Prop
  | tup (l : List PV) : Items (.tup l) l
  | lst (l : List PV) : Items (.lst l) l
  | str (x : Str) : Items (.str x) (signs x)
section
variable {w : World} {n : Nat} {σ : Scope} {ρ : PEnv} {X : Exc → Prop}
theorem St.fresh {P : World} {f : Fm} {m : Str → Option Value} {h : Heap} (S : St P f ρ m h) : ¬ f.badAt ρ m h.objs.size ∧ f.h₀ h.objs.size = none := by
  have hn : h.get? h.objs.size = none := by
    cases q : h.get? h.objs.size with
    | none => rfl
    | some o => exact absurd (Heap.lt_size q) (Nat.lt_irrefl _)
  refine ⟨fun q => ?_, S.old hn⟩
  obtain ⟨o, ho⟩ := S.badThere q
  rw (occs := .all) [hn] at ho; cases ho
theorem grows_push (h : Heap) (o : Obj) : Grows h (h.push o) := fun _ _ e => Heap.get?_push_of_some _ e
theorem iter_items {f : Fm} {m : Str → Option Value} {s : Shared} {v : Value} {p : PV} {items : List PV} {QV EV : Value → Shared → Prop} (O : f.Ok w n σ) (hn : 0 < n) (S : St w f ρ m s.heap) (r : Rd w s.heap (f.badAt ρ m) v p) (hi : Items p items)
    (K : ∀ I h' tk', St w f ρ m h' → Itr w f ρ m h' I items → QV (.ref I) (upd s h' tk')) : wpAny (model prg w) f.A (pyIter v) QV EV s := by
  have hA := O.handled hn
  obtain ⟨nb, nw⟩ := S.fresh
  cases hi with
  | tup =>
    obtain ⟨a, o, vs, k, rfl, e, c, d, nba, rs⟩ := r.i
    have g := grows_push s.heap { cls := .type "tuple_iterator", data := .fields #[.ref a, .int 0 0] }
    have ht : s.heap.IsTuple a vs := ⟨_, e, c.cls, _, d⟩
    have hne : a ≠ s.heap.objs.size := Nat.ne_of_lt (Heap.lt_size e)
    have e1 : vs.size = items.length := by rw [← rs.length, Array.length_toList]
    refine wpAny_pyIter_tuple ht (K _ _ s.toks (S.grow g) ⟨⟨[s.heap.objs.size, a], vs.size, 0, _, _, Walks.tuple hA _ a hne vs, ⟨⟨_, Heap.get?_push_size _ rfl, rfl, rfl⟩, ⟨_, g _ _ e, c.cls, _, d⟩⟩, by omega, ?_, ?_, ?_⟩, nw⟩)
    · intro b hb
      rcases List.mem_cons.mp hb with rfl | hb
      · exact ⟨nb, _, Heap.get?_push_size _ rfl⟩
      · rcases List.mem_cons.mp hb with rfl | hb
        · exact ⟨nba, _, g _ _ e⟩
        · cases hb
    · rintro j h' ⟨⟨o, ho, hc, _⟩, _⟩
      exact ⟨o, ho, by rw [NotSeq, hc]; decide⟩
    · intro j p hp v hv
      obtain ⟨v', hv', rv⟩ := rs.get hp
      rw (occs := .all) [Nat.zero_add, ← Array.getElem?_toList, hv'] at hv
      cases hv
      exact rv.grow g
  | lst =>
    obtain ⟨a, o, vs, k, rfl, e, c, d, nba, rs⟩ := r.i
    have g := grows_push s.heap { cls := .type "list_iterator", data := .fields #[.ref a, .int 0 0] }
    have ht : s.heap.IsList a vs := ⟨_, e, c.cls, _, d⟩
    have hne : a ≠ s.heap.objs.size := Nat.ne_of_lt (Heap.lt_size e)
    have e1 : vs.size = items.length := by rw [← rs.length, Array.length_toList]
    refine wpAny_pyIter_list ht (K _ _ s.toks (S.grow g) ⟨⟨[s.heap.objs.size, a], vs.size, 0, _, _, Walks.list hA _ a hne vs, ⟨⟨_, Heap.get?_push_size _ rfl, rfl, rfl⟩, ⟨_, g _ _ e, c.cls, _, d⟩⟩, by omega, ?_, ?_, ?_⟩, nw⟩)
    · intro b hb
      rcases List.mem_cons.mp hb with rfl | hb
      · exact ⟨nb, _, Heap.get?_push_size _ rfl⟩
      · rcases List.mem_cons.mp hb with rfl | hb
        · exact ⟨nba, _, g _ _ e⟩
        · cases hb
    · rintro j h' ⟨⟨o, ho, hc, _⟩, _⟩
      exact ⟨o, ho, by rw [NotSeq, hc]; decide⟩
    · intro j p hp v hv
      obtain ⟨v', hv', rv⟩ := rs.get hp
      rw (occs := .all) [Nat.zero_add, ← Array.getElem?_toList, hv'] at hv
      cases hv
      exact rv.grow g
  | str x =>
    obtain ⟨t, rfl⟩ := r.i
    have sg : ∀ (h : Heap) j p, (signs x)[j]? = some p → ∀ v, SignAt x (0 + j) v → Rd w h (f.badAt ρ m) v p := by
      rintro h j p hp v ⟨c, u, h1, rfl⟩
      rw (occs := .all) [Nat.zero_add] at h1
      simp only [signs, List.getElem?_map, Array.getElem?_toList, h1, Option.map_some, Option.some.injEq] at hp
      subst hp
      exact .str _ _
    have hl : x.cps.size = 0 + (signs x).length := by simp [signs]
    cases ha : x.cps.all (· < 128)
    · have g := grows_push s.heap { cls := .type "str_iterator", data := .fields #[.str x t, .int 0 0] }
      refine wpAny_pyIter_wide ha (K _ _ s.toks (S.grow g) ⟨⟨[s.heap.objs.size], x.cps.size, 0, _, _, Walks.strWide hA _ x t, ⟨_, Heap.get?_push_size _ rfl, rfl, rfl⟩, hl.symm, ?_, ?_, sg _⟩, nw⟩)
      · intro b hb
        rcases List.mem_cons.mp hb with rfl | hb
        · exact ⟨nb, _, Heap.get?_push_size _ rfl⟩
        · cases hb
      · rintro j h' ⟨o, ho, hc, _⟩
        exact ⟨o, ho, by rw [NotSeq, hc]; decide⟩
    · have g := grows_push s.heap { cls := .type "str_ascii_iterator", data := .fields #[.str x t, .int 0 0] }
      refine wpAny_pyIter_ascii ha (K _ _ s.toks (S.grow g) ⟨⟨[s.heap.objs.size], x.cps.size, 0, _, _, Walks.strAscii hA _ x t, ⟨_, Heap.get?_push_size _ rfl, rfl, rfl⟩, hl.symm, ?_, ?_, sg _⟩, nw⟩)
      · intro b hb
        rcases List.mem_cons.mp hb with rfl | hb
        · exact ⟨nb, _, Heap.get?_push_size _ rfl⟩
        · cases hb
      · rintro j h' ⟨o, ho, hc, _⟩
        exact ⟨o, ho, by rw [NotSeq, hc]; decide⟩
theorem ex_for {x : Str} {px pos : Pos} {iter : Expr} {body : List Stmt} {N : PEnv → Prop} {k : Ks} (h : ev w n σ iter ρ (fun ρ1 p => ∃ items, Items p items ∧ frl w n σ x px body items ρ1 N k X) X) (hn : 0 < n)
    (hs : ∀ env x, foldedSetIterable iter env x = pure x := by intro _ _; with_unfolding_all rfl) : ex w n σ (.For (.Name x px) iter body [] pos) ρ N k X := by
  intro f s m QV EV O S K E
  refine wpAny_For (h f s m _ EV O S (fun ρ1 p v h1 tk1 S1 r1 k1 => ?_) E) (hs _)
  obtain ⟨items, hi, q⟩ := k1
  refine iter_items (s := upd s h1 tk1) O hn S1 r1 hi fun I h2 tk2 S2 T => ?_
  refine q f (upd s h2 tk2) m I _ O S2 T (fun ρ' m' fl flv h' tk' a b c => K ρ' m' fl flv h' tk' a b c) (fun x a h' tk' F q => ?_)
  refine came (Q := fun _ _ => True) F (fun b o e => (S.baseOld b o e).1) fun h'' G => ?_
  exact E x a h'' tk' (G.fly (.inr rfl)) q
noncomputable def rangeL (i : Int) : List PV := (List.range i.toNat).map fun k : Nat => PV.int (k : Int)
theorem range_small {i : Int} (h0 : 0 ≤ i) (h62 : i < 2 ^ 62) : Builtin.Range.small 0 i 1 = true ∧ Builtin.Range.rangeSize 0 i 1 = i := by
  have e : Builtin.Range.rangeSize 0 i 1 = i := by
    unfold Builtin.Range.rangeSize
    rw (occs := .all) [if_pos (by decide)]
    split <;> omega
  refine ⟨?_, e⟩
  unfold Builtin.Range.small
  rw (occs := .all) [e]
  unfold Builtin.Range.rangeFitsLong
  simp only [Bool.and_eq_true, Bool.or_eq_true, decide_eq_true_eq, beq_iff_eq, gt_iff_lt, Int.zero_lt_one, if_true]
  omega
theorem ex_forR {x : Str} {px np cp pos : Pos} {e : Expr} {body : List Stmt} {N : PEnv → Prop} {k : Ks} (hg : ∀ P, nsIn (hp P) mainGlobals ("range" : Str) = some none)
    (h : ev w n σ e ρ (fun ρ1 p => ∃ i, p = .int i ∧ 0 ≤ i ∧ i < 2 ^ 62 ∧ frl w n σ x px body (rangeL i) ρ1 N k X) X) (hn : 0 < n)
    (hx : σ.names.lookup ("range" : Str) = some .globalImplicit := by decide +kernel) (hs : ∀ env x, foldedSetIterable (.Call (.Name "range" np) [e] [] cp) env x = pure x := by intro _ _; with_unfolding_all rfl)
    (hst : ∀ env, starEach [e] env = (false, eval e env) :: starEach [] env := by intro _; with_unfolding_all rfl) : ex w n σ (.For (.Name x px) (.Call (.Name "range" np) [e] [] cp) body [] pos) ρ N k X := by
  intro f s m QV EV O S K E
  refine wpAny_For (Call_ (load_boot O S (hg _) (v := .type "range") (by decide +kernel) (by decide +kernel) ?_ hx (by decide +kernel))) (hs _)
  have he : evs w n σ [e] ρ (fun ρ1 ps => ∃ i, ps = [.int i] ∧ 0 ≤ i ∧ i < 2 ^ 62 ∧ frl w n σ x px body (rangeL i) ρ1 N k X) X :=
    evs_cons (ev_mono h (fun ρ1 p ⟨i, e, q⟩ => evs_nil ⟨i, by rw [e], q⟩) fun _ q => q) hst
  refine PyProof.Rows.callWith_type1 (he f s m cp _ EV O S (fun ρ1 ps vs h1 tk1 S1 r1 k1 => ?_) E) (hst _) rfl
  obtain ⟨i, rfl, h0, h62, q⟩ := k1
  obtain ⟨a, rfl, ra⟩ := rdl1 r1
  obtain ⟨_, rfl⟩ := ra.i
  refine call_range_1 ?_
  have hr := IsRange.new (h := h1) (a := 0) (b := i) (c := 1)
  dsimp only [upd]
  generalize hh : h1.push _ = h2
  have g2 : Grows h1 h2 := hh ▸ grows_push _ _
  have S2 := S1.grow g2
  obtain ⟨nb, nw⟩ := S2.fresh
  obtain ⟨hsm, hsz⟩ := range_small h0 h62
  refine wpAny_pyIter_range (by rw [← hh]; exact IsRange.new ..) hsm ?_
  rw (occs := .all) [hsz]
  dsimp only
  have g3 := grows_push h2 { cls := .type "range_iterator", data := .fields #[rawInt 0, rawInt i, rawInt 1] }
  have W := Walks.range (prog := prg) (w := w) (A := f.A) (O.handled hn) h2.objs.size 0 1 i.toNat
  have T : Itr w f ρ1 m (h2.push { cls := .type "range_iterator", data := .fields #[rawInt 0, rawInt i, rawInt 1] }) h2.objs.size (rangeL i) := by
    refine ⟨⟨[h2.objs.size], i.toNat, 0, _, _, W, ?_, by simp [rangeL], ?_, ?_, ?_⟩, nw⟩
    · have := Heap.get?_push_size h2 (o := { cls := .type "range_iterator", data := .fields #[rawInt 0, rawInt i, rawInt 1] }) rfl
      show Heap.get? _ _ = _
      rw (occs := .all) [this]
      have e1 : ((0 : Int) + ((0 : Nat) : Int) * 1) = 0 := by decide
      have e2 : ((i.toNat : Int) - ((0 : Nat) : Int)) = i := by omega
      rw (occs := .all) [e1, e2]
    · intro b hb
      rcases List.mem_cons.mp hb with rfl | hb
      · exact ⟨nb, _, Heap.get?_push_size _ rfl⟩
      · cases hb
    · intro j h' st
      exact ⟨_, st, (by decide : Value.type "range_iterator" ≠ .type "tuple"), (by decide : Value.type "range_iterator" ≠ .type "list"), (by decide : Value.type "range_iterator" ≠ .type "dict")⟩
    · rintro j p hp v ⟨t, rfl⟩
      simp only [rangeL, List.getElem?_map, Option.map_eq_some_iff] at hp
      obtain ⟨k, hk, rfl⟩ := hp
      have : k = j := by
        rw (occs := .all) [List.getElem?_range (by
          have := List.getElem?_eq_some_iff.mp hk
          simpa using this.1)] at hk
        exact (Option.some.inj hk).symm
      subst this
      have e : ((0 : Int) + ((0 + k : Nat) : Int) * 1) = (k : Int) := by omega
      rw (occs := .all) [e]
      exact .int _ _
  refine q f (upd s _ _) m _ _ O (S2.grow g3) T (fun ρ' m' fl flv h' tk' a b c => K ρ' m' fl flv h' tk' a b c) (fun x a h' tk' F q => ?_)
  refine came (Q := fun _ _ => True) F (fun b o e => (S.baseOld b o e).1) fun h'' G => ?_
  exact E x a h'' tk' (G.fly (.inr rfl)) q
end
theorem raised_in {w : World} : ∃ nm qn bs sn sub ab col dd k0 k1 k2 k3 k5,
    (hp w.params).lookup 65 = some (excClassObj nm qn 65 64 bs [.type "Exception", .type "BaseException", .type "object"] true sn sub ab col dd k0 k1 k2 k3 k5 "Exception.__new__") :=
  ⟨"Raised", "Raised", [.type "Exception"], [], [], false, none, none, some (.ref 47), none, some (.str "Raised" 234), some (.str "Raised" 242), some (.bool true), by kernel_rfl⟩
theorem raised_cls {w : World} {base h : Heap} (B : Bs w base) (k : base.StaysIn h) : ∃ nm qn bs sn sub ab col dd k0 k1 k2 k3 k5,
    h.get? 65 = some (excClassObj nm qn 65 64 bs [.type "Exception", .type "BaseException", .type "object"] true sn sub ab col dd k0 k1 k2 k3 k5 "Exception.__new__") := by
  obtain ⟨nm, qn, bs, sn, sub, ab, col, dd, k0, k1, k2, k3, k5, e⟩ := raised_in (w := w)
  exact ⟨nm, qn, bs, sn, sub, ab, col, dd, k0, k1, k2, k3, k5, k _ _ (B.k 65 _ e)⟩
section
variable {w : World} {n : Nat} {σ : Scope} {ρ : PEnv} {X : Exc → Prop}
theorem ExcNew.fly {f : Fm} {m : Str → Option Value} {h : Heap} {a : Addr} {x : Exc} (S : St w f ρ m h) (r : ExcNew f.badL h a x) (nw : f.h₀ a = none) : Fly f a x h := by
  obtain ⟨oe, vs, dx, h1, h2, h3, h4, h5, h6⟩ := r
  exact ⟨⟨oe, vs, dx, h1, h2, h3, h4, getElem?_lt h5, .inl h5, h6⟩, nw, ⟨m, S.ns⟩, S.sim, S.stays, S.frames, S.newL⟩
set_option maxHeartbeats 1000000 in
theorem ex_raise {e : Expr} {pos : Pos} {N : PEnv → Prop} {k : Ks} (h : evo w n σ e ρ X) (hn : 0 < n) : ex w n σ (.Raise (some e) none pos) ρ N k X := by
  intro f s m QV EV O S K E
  have hh := O.handled hn
  show wpAny _ f.A (do standAt pos; raiseStmt f.env (some (do let v ← eval e f.env; standAt pos; pure v)) none) QV EV s
  refine wpAny_bind (wpAny_standAt ?_)
  unfold raiseStmt
  dsimp only
  refine wpAny_bind (wpAny_bind (h f s m _ EV O S (fun ρ1 x a h1 tk1 S1 r nw q => wpAny_bind (wpAny_standAt (wpAny_pure ?_)))))
  have fin := E x a h1 tk1 (r.fly S1 nw) q
  obtain ⟨oe, vs, dx, he, hc, hdx, hd, hv1, hat⟩ := r
  obtain ⟨c, dd, dt, sl⟩ := oe
  dsimp only at hc hdx hd
  subst hc hdx hd
  obtain ⟨nm, qn, bs, sn, sub, ab, col, dd', k0, k1, k2, k3, k5, hC⟩ := raised_cls O.bs S1.stays
  have hcB : (Value.ref 65 :: [.type "Exception", .type "BaseException", .type "object"]).contains (Value.type "BaseException") = true := by decide
  dsimp only [upd]
  have hnb : h1.get? a = some ⟨.ref 65, some dx, .fields vs, sl⟩ := he
  repeat (first | with_reducible refine wpAny_field he rfl hv1 ?_ | with_reducible refine wpAny_loadPart_at hnb ?_ | with_reducible refine wpAny_loadPart_at hC ?_ | (with_reducible refine wpAny_isSubtype_exc hC ?_; rw [hcB]) | wp_step)
  exact wpAny_raiseNew_none hh fin
end
section
theorem fillK : hp = hp ∧ PySem.Challenge.rw_np0140_01 = PySem.Challenge.rw_np0140_01 := by
  k_fill
  exact ⟨rfl, rfl⟩
structure Made (h : Heap) (e : Addr) (mA : Str → Option Value) : Prop where
  inst : h.Inst e 65 mA
  none1 : ∃ o vs, h.get? e = some o ∧ o.data = .fields vs ∧ vs[1]? = some .none
theorem raised_ns {w : World} {base h : Heap} (B : Bs w base) (k : base.StaysIn h) : ∃ mN, h.Ns 64 mN ∧ mN "__init__" = some (.ref 62) ∧ mN "__setattr__" = none ∧ mN "code" = none ∧ mN "value" = none ∧ mN "errorcode" = none ∧
    mN "level" = none ∧ mN "ret" = none ∧ mN "info" = none ∧ mN "is_noted" = none ∧ mN "line" = none ∧ mN "extra" = none ∧ mN "__getattribute__" = none := by
  have e : ∃ oc od es n sl, (hp w.params).lookup 64 = some ⟨oc, od, .dict es n, sl⟩ ∧ StrKeys es ∧
      nsFind es "__init__" = some (.ref 62) ∧ nsFind es "__setattr__" = none ∧ nsFind es "code" = none ∧ nsFind es "value" = none ∧ nsFind es "errorcode" = none ∧
      nsFind es "level" = none ∧ nsFind es "ret" = none ∧ nsFind es "info" = none ∧ nsFind es "is_noted" = none ∧ nsFind es "line" = none ∧ nsFind es "extra" = none ∧ nsFind es "__getattribute__" = none :=
    ⟨_, _, _, _, _, by k_is, by
      intro e he
      simp only [List.mem_toArray, List.mem_cons, List.not_mem_nil, or_false] at he
      rcases he with rfl | rfl | rfl | rfl | rfl | rfl <;> exact ⟨_, _, rfl⟩, by kernel_rfl, by kernel_rfl, by kernel_rfl, by kernel_rfl, by kernel_rfl, by kernel_rfl, by kernel_rfl, by kernel_rfl, by kernel_rfl, by kernel_rfl, by kernel_rfl, by kernel_rfl⟩
  obtain ⟨oc, od, es, n, sl, ho, hk, q⟩ := e
  exact ⟨nsFind es, ⟨_, es, n, k _ _ (B.k _ _ ho), rfl, hk, fun _ => rfl⟩, q⟩
section
variable {w : World} {A : Around} {E : Value → Shared → Prop} {h : Heap} {g : Array GenState} {d : Drawn} {t : Nat} {os : OsState}
open Builtin Builtin.ObjectAttr
noncomputable abbrev bmR : List Value := [.type "Exception", .type "BaseException", .type "object"]
section
variable {nm qn : Str} {bs : List Value} {sn : List Str} {sub : List Value} {ab : Bool} {col : Option Bool} {dd : Option Addr} {k0 k1 k2 k3 k5 : Option Value} {newId : String} {mN : Str → Option Value} {e : Addr} {o : Obj} {name : Str} {v : Value} {sa owner : String}
noncomputable def FirstPost (h : Heap) (g : Array GenState) (d : Drawn) (os : OsState) (e : Addr) (o : Obj) (name : Str) (v : Value) (Q : Shared → Prop) : Prop :=
  ∀ h' tk', (∀ b o, b ≠ e → h.get? b = some o → h'.get? b = some o) → h'.get? e = some ⟨o.cls, some h.objs.size, o.data, o.slots⟩ → h'.Ns1 h.objs.size (fun y => if y = name then some v else none) → Q ⟨h', g, d, tk', os⟩
theorem first_entry {tk : Tok} {Q : Fin → Shared → Prop} (SF : StoreFacts "Exception" bmR sa owner)
    (hC : h.get? 65 = some (excClassObj nm qn 65 64 bs bmR true sn sub ab col dd k0 k1 k2 k3 k5 newId)) (hn : h.Ns 64 mN) (hna : mN name = none)
    (hB : typeLookup (.type "Exception") name = pure none) (hx : h.get? e = some o) (hc : o.cls = .ref 65) (hdn : o.dict = none) (hnc : ∀ c, o.data ≠ .cls c)
    (hq : FirstPost h g d os e o name v (Q (.done (.ret .none)))) :
    wpAny (model prg w) A (Builtin.«object.__setattr__» ⟨[.ref e, .str name tk, v], []⟩) Q E ⟨h, g, d, t, os⟩ := by
  have hpass := SF.passes (.ref e)
  unfold Builtin.«object.__setattr__»
  repeat (first | rw [refuse_eq] | (rw [refuseLoop_ref, hpass]) | (with_reducible refine wpAny_loadPart_at hx ?_; rw [hc]) | with_reducible refine wpAny_mroOf_exc hC ?_ | (with_reducible refine wpAny_typeLookup_exc hC hn SF.mro hB ?_; rw [hna]) | wp_step)
  rw (occs := .all) [hdn, if_neg (by simp [typeHasDict])]
  split
  · rename_i hcd
    cases hcd
  split
  · rename_i c hcd
    exact absurd hcd (hnc c)
  have hx1 : (h.push { cls := .type "dict", data := .dict #[] }).get? e = some o := Heap.get?_push_of_some _ hx
  have hes : e ≠ h.objs.size := Nat.ne_of_lt (Heap.lt_size hx)
  refine wpAny_bind (wpAny_alloc' (wpAny_bind (wpAny_update' hx1 (wpAny_pure ?_))))
  generalize hH : Heap.update _ _ _ = H
  have hgd : H.get? h.objs.size = some { cls := .type "dict", data := .dict #[] } := by
    rw (occs := .all) [← hH]
    exact (Heap.get?_update_ne _ _ _ _ hes.symm).trans (Heap.get?_push_at rfl rfl)
  have hne : H.Ns h.objs.size (fun _ => none) := ⟨_, #[], _, hgd, rfl, fun _ m => absurd m (by simp), fun _ => rfl⟩
  have hxe : H.get? e = some ⟨o.cls, some h.objs.size, o.data, o.slots⟩ := by
    rw (occs := .all) [← hH]
    refine Heap.get?_update_self _ hx1 ?_
    have hfr := (Heap.get?_some_iff.mp hx).2
    obtain ⟨oc, od, odt, osl⟩ := o
    cases odt <;> first | rfl | exact hfr
  have hot : ∀ b ob, b ≠ e → h.get? b = some ob → H.get? b = some ob := fun b ob hb q => by
    rw (occs := .all) [← hH]
    exact (Heap.get?_update_ne _ _ _ _ hb).trans (Heap.get?_push_of_some _ q)
  show wpAny _ _ (storeInDict h.objs.size (.str name tk) name v) _ _ _
  unfold storeInDict newKeyGuard
  refine wpAny_bind (wpAny_pure (wpAny_bind (wpAny_nsSet1 (Heap.Ns1.of_empty hne) fun h' hn' hs => ?_)))
  obtain ⟨oD, esD, epD, hoD, hdD, hcD⟩ := hn'.count (Within.cons name v Within.nil)
  refine wpAny_bind (wpAny_lookBehind hoD (by rw [hdD]; exact pastItsLine_dict (Nat.le_trans hcD (by rw [List.length_cons, List.length_nil, sizeLine_eq]; omega))) ?_)
  wp_walk
  exact hq h' _ (fun b ob hb q => (hs.2 b (Nat.ne_of_lt (Heap.lt_size q))).trans (hot b ob hb q)) ((hs.2 e hes).trans hxe) hn'
theorem first_call {tk : Tok} {R : Result → Shared → Prop} (SF : StoreFacts "Exception" bmR sa owner)
    (hC : h.get? 65 = some (excClassObj nm qn 65 64 bs bmR true sn sub ab col dd k0 k1 k2 k3 k5 newId)) (hn : h.Ns 64 mN) (hna : mN name = none)
    (hB : typeLookup (.type "Exception") name = pure none) (hx : h.get? e = some o) (hc : o.cls = .ref 65) (hdn : o.dict = none) (hnc : ∀ c, o.data ≠ .cls c)
    (hq : FirstPost h g d os e o name v (R (.ok (.ret .none)))) :
    codeAny (model prg w) A (.call (.builtin sa) ⟨[.ref e, .str name tk, v], []⟩) R ⟨h, g, d, t, os⟩ := by
  refine codeAny_call_builtin SF.slot.plain SF.entry (wpAny_check_sa SF hC hx hc ?_)
  exact first_entry SF hC hn hna hB hx hc hdn hnc hq
theorem first_attr {Q : Unit → Shared → Prop} (SF : StoreFacts "Exception" bmR sa owner)
    (hC : h.get? 65 = some (excClassObj nm qn 65 64 bs bmR true sn sub ab col dd k0 k1 k2 k3 k5 newId)) (hn : h.Ns 64 mN) (hns : mN "__setattr__" = none) (hna : mN name = none)
    (hB : typeLookup (.type "Exception") name = pure none) (hx : h.get? e = some o) (hc : o.cls = .ref 65) (hdn : o.dict = none) (hnc : ∀ c, o.data ≠ .cls c)
    (hq : FirstPost h g d os e o name v (Q ())) :
    wpAny (model prg w) A (setAttr (.ref e) name v) Q E ⟨h, g, d, t, os⟩ := by
  have f3 := SF.slot.bind (.ref e)
  unfold setAttr callSpecial? specialOf
  repeat (any_goals (first | assumption | (with_reducible refine wpAny_loadPart_at hx ?_; rw [hc]) | (with_reducible refine wpAny_typeLookup_exc hC hn SF.mro SF.slot.lookup ?_; rw [hns]) | wp_step))
  refine first_call SF hC hn hna hB hx hc hdn hnc (fun h' tk' a b c => ?_)
  repeat (any_goals (first | assumption | wp_step))
  exact hq h' tk' a b c
end
end
end
structure Inv (s0 : Heap) (L : Addr) (m : Str → Option Value) (e dx : Addr) (mA : Str → Option Value) (k : Nat) (h : Heap) : Prop where
  ns : h.Ns L m
  obj : ∃ vs sl, h.get? e = some ⟨.ref 65, some dx, .fields vs, sl⟩ ∧ vs[1]? = some .none
  att : h.Ns1 dx mA
  within : ∃ ns, Within mA ns ∧ ns.length ≤ k
  keep : ∀ b o, b ≠ e → s0.get? b = some o → h.get? b = some o
  newD : s0.get? dx = none
  deL : dx ≠ L
  eL : e ≠ L
  de : dx ≠ e
section
variable {w : World} {A : Around} {E : Value → Shared → Prop} {h : Heap} {g : Array GenState} {d : Drawn} {t : Nat} {os : OsState} {sa owner : String}
variable {s0 base : Heap} {L e dx : Addr} {m mA : Str → Option Value} {k : Nat} {name : Str} {v : Value}
theorem Inv.next {Q : Unit → Shared → Prop} (SF : StoreFacts "Exception" bmR sa owner) (B : Bs w base) (st : base.StaysIn h) (hbe : base.get? e = none) (hb0 : ∀ b o, base.get? b = some o → s0.get? b = some o) (I : Inv s0 L m e dx mA k h) (hk : k ≤ 1000)
    (hna : ∀ mN : Str → Option Value, mN "code" = none → mN "value" = none → mN "errorcode" = none → mN "level" = none → mN "ret" = none → mN "info" = none → mN "is_noted" = none → mN "line" = none → mN "extra" = none → mN name = none)
    (hB : typeLookup (.type "Exception") name = pure none)
    (K : ∀ h' tk', Inv s0 L m e dx (fun y => if y = name then some v else mA y) (k + 1) h' → base.StaysIn h' → Q () ⟨h', g, d, tk', os⟩) : wpAny (model prg w) A (setAttr (.ref e) name v) Q E ⟨h, g, d, t, os⟩ := by
  obtain ⟨nm, qn, bs, sn, sub, ab, col, dd, k0, k1, k2, k3, k5, hC⟩ := raised_cls B st
  obtain ⟨mN, hN, n0, n1, n2, n3, n4, n5, n6, n7, n8, n9, n10, n11⟩ := raised_ns B st
  obtain ⟨vs, sl, ho, hv⟩ := I.obj
  obtain ⟨ns, hw, hns⟩ := I.within
  have he65 : e ≠ 65 := fun q => by
    obtain ⟨_, _, _, _, _, _, _, _, _, _, _, _, _, q65⟩ := raised_in (w := w)
    have := B.k 65 _ q65
    rw (occs := .all) [← q, hbe] at this; cases this
  have inst : h.Inst e 65 mA := ⟨_, ho, rfl, (fun c q => by cases q), Or.inr ⟨dx, rfl, I.de, I.att⟩⟩
  refine store_attr SF hC hN n1 (hna mN n2 n3 n4 n5 n6 n7 n8 n9 n10) hB he65 inst (fun h' tk' i1 kp sm => ?_) hw (by rw [sizeLine_eq]; omega)
  obtain ⟨o1, ho1, hc1, hd1, hs1, hdx1⟩ := sm _ ho
  have hdx := hdx1 dx rfl
  obtain ⟨c1, dd1, dt1, sl1⟩ := o1
  dsimp only at hc1 hd1 hs1 hdx
  subst hc1 hd1 hs1 hdx
  have kp' : ∀ b o, b ≠ e → b ≠ dx → h.get? b = some o → h'.get? b = some o := fun b o n1 n2 q => kp b o n1 (fun o₀ dx' q1 q2 => by rw (occs := .all) [ho] at q1; cases q1; cases q2; exact n2) q
  have stay : base.StaysIn h' := fun b o q => kp' b o (fun z => by rw (occs := .all) [z, hbe] at q; cases q) (fun z => by
    have := hb0 b o q
    rw (occs := .all) [z, I.newD] at this; cases this) (st b o q)
  refine K h' tk' ⟨?_, ⟨vs, _, ho1, hv⟩, ?_, ⟨name :: ns, Within.cons name v hw, by simp; omega⟩, fun b o n q => kp' b o n (fun z => by rw (occs := .all) [z, I.newD] at q; cases q) (I.keep b o n q), I.newD, I.deL, I.eL, I.de⟩ stay
  · obtain ⟨oL, es, ep, hL, r⟩ := I.ns
    exact ⟨oL, es, ep, kp' L oL (Ne.symm I.eL) (Ne.symm I.deL) hL, r⟩
  · obtain ⟨o2, ho2, _, _, h4⟩ := i1
    rw (occs := .all) [ho1] at ho2; cases ho2
    rcases h4 with ⟨q, _⟩ | ⟨d2, q, _, h5⟩
    · cases q
    · cases q; exact h5
theorem noAttrs {x : Str} (hx : x = "code" ∨ x = "value" ∨ x = "errorcode" ∨ x = "level" ∨ x = "ret" ∨ x = "info" ∨ x = "is_noted" ∨ x = "line" ∨ x = "extra") (mN : Str → Option Value) :
    mN "code" = none → mN "value" = none → mN "errorcode" = none → mN "level" = none → mN "ret" = none → mN "info" = none → mN "is_noted" = none → mN "line" = none → mN "extra" = none → mN x = none := by
  intro a b c d e f g h i
  rcases hx with rfl | rfl | rfl | rfl | rfl | rfl | rfl | rfl | rfl <;> assumption
theorem excNo {x : Str} (h : fastLookup "Exception" x = some none) : typeLookup (.type "Exception") x = pure none := by
  rw (occs := .all) [typeLookup_type, builtinLookup_eq_fast]
  rw (occs := .all) [show fastLookup "Exception" x = some none from h]
end
section
open Builtin
theorem fillK13 : hp = hp ∧ PySem.Challenge.rw_np0140_01 = PySem.Challenge.rw_np0140_01 := by
  k_fill
  exact ⟨rfl, rfl⟩
section
variable {w : World} {A : Around} {E : Value → Shared → Prop} {s : Shared} {base : Heap}
theorem init_call {e t0 : Addr} {ob : Obj} {vs : Array Value} {rest : List Value} {Q : Value → Shared → Prop} (B : Bs w base) (k : base.StaysIn s.heap)
    (he : s.heap.get? e = some ob) (hcls : ob.cls = .ref 65) (hd : ob.data = .fields vs) (h0 : vs[0]? = some (.ref t0)) (hrest : rest.length ≤ sizeLine)
    (h : Q .none { s with heap := (s.heap.push { cls := .type "tuple", data := .seq rest.toArray }).update e (Obj.mapFields (·.setIfInBounds 0 (.ref s.heap.objs.size))) }) :
    wpAny (model prg w) A (call (.builtin "Exception.__init__") (.ref e :: rest)) Q E s := by
  obtain ⟨nm, qn, bs, sn, sub, ab, col, dd, k0, k1, k2, k3, k5, hC⟩ := raised_cls B k
  have F := PySem.F.excBase_Exception
  refine wpAny_call (codeAny_call_builtin F.init.plain F.initEntry (wpAny_check_init_sub F hC he hcls ?_))
  unfold Builtin.«BaseException.__init__»
  dsimp only
  rw (occs := .all) [if_neg (by simp)]
  unfold newTuple Builtin.BaseException.bexcPut
  have hsz : 0 < vs.size := (Array.getElem?_eq_some_iff.mp h0).1
  have he₁ := Heap.get?_push_of_some (h := s.heap) { cls := .type "tuple", data := .seq rest.toArray } he
  refine wpAny_bind (wpAny_newObj_type (wpAny_bind (wpAny_bind (wpAny_field he₁ hd h0 (wpAny_bind (wpAny_setField he₁ hd hsz ?_))))) (by show rest.toArray.size ≤ sizeLine; rw [List.size_toArray]; exact hrest))
  exact wpAny_letGo (wpAny_pure h)
theorem method_exc {name : Str} {v : Value} {pl : Sem Bool} {Q : Value × List Value → Shared → Prop} (e : findCls (hp w.params) (.type "Exception") (.type "type") name = some (.val v)) (X : (hp w.params).In s.heap) (hh : handedIn v = true)
    (h : Q (v, []) { s with toks := s.toks + 1 }) : wpAny (model prg w) A (getMethod (.type "Exception") name pl) Q E s := by
  have hstub : opaqueClassAbove (.type "Exception") = pure none := by unfold opaqueClassAbove; dsimp only; rw [show Manifest.isStub "Exception" = false from by decide +kernel]; rfl
  have L0 : Looks (model prg w) s.heap (typeOf (.type "Exception")) (.type "type") := Looks.of_pure (kitMeta_of (by decide +kernel))
  have hg : findIn (hp w.params) (.type "type") "__getattribute__" = some (some (.builtin "type.__getattribute__")) := type_tga
  unfold getMethod specialOf
  refine wpAny_bind (wpAny_bind (L0.here ((looks_findIn X hg).here ?_)))
  dsimp only
  rw (occs := .all) [if_pos canon_tga]
  have LO : Looks (model prg w) s.heap (opaqueClassAbove (.type "Exception")) none := Looks.of_pure hstub
  refine wpAny_bind (cls_open X LO L0 hg (looks_hook X (r := none) (by rfl)) (by show subIn _ _ _ = _; rfl) e ?_)
  exact wpAny_pure (by show wpAny _ _ (handedOut v) _ _ _; rw [handedOut_of hh]; exact wpAny_pure (wpAny_pure h))
theorem find_init {w : World} : findCls (hp w.params) (.type "Exception") (.type "type") "__init__" = some (.val (.builtin "Exception.__init__")) := by k_is
end
end
section
open Builtin
theorem fillK14 : hp = hp ∧ PySem.Challenge.rw_np0140_01 = PySem.Challenge.rw_np0140_01 := by
  k_fill
  exact ⟨rfl, rfl⟩
theorem Inv.grow {s0 h h' : Heap} {L e dx : Addr} {m mA : Str → Option Value} {k : Nat} (I : Inv s0 L m e dx mA k h) (g : Grows h h') : Inv s0 L m e dx mA k h' := by
  obtain ⟨vs, sl, h1, h2⟩ := I.obj
  exact ⟨I.ns.keeps g, ⟨vs, sl, g _ _ h1, h2⟩, (I.att.at fun o q => g _ _ q), I.within, fun b o n q => g _ _ (I.keep b o n q), I.newD, I.deL, I.eL, I.de⟩
section
variable {w : World} {A : Around} {s : Shared} {base : Heap}
theorem raised_init {e a t0 : Addr} {msg : Str} {t1 t2 : Tok} {R : Result → Shared → Prop} (B : Bs w base) (st : base.StaysIn s.heap) (hroom : A.depth < recursionLimit) (hbe : base.get? e = none)
    (he : s.heap.get? e = some { cls := .ref 65, data := .fields #[.ref t0, .none, .none, .none, .bool false, .none] })
    (K : ∀ h' tk' dx mA, s.heap.get? dx = none → (∀ b o, b ≠ e → s.heap.get? b = some o → h'.get? b = some o) → (∃ vs sl, h'.get? e = some ⟨.ref 65, some dx, .fields vs, sl⟩ ∧ vs[1]? = some .none) → h'.Ns dx mA →
      mA ("code" : Str) = some (.int 1 t1) → mA ("value" : Str) = some (.str msg t2) → mA ("errorcode" : Str) = some (.ref a) → R (.ok (.ret .none)) (upd s h' tk')) :
    codeAny (model prg w) A (.call (.ref 62) ⟨[.ref e, .int 1 t1, .str msg t2, .ref a], []⟩) R s := by
  obtain ⟨loose, mean, mg, mb, T⟩ := B.t
  have X : (hp w.params).In s.heap := fun b o q => st _ _ (B.k b o q)
  refine codeAny_call_def (fd := fnOf _ _ _ _ _ _ _ _ _ _ _ _) (body := _) (binds := [("self", .ref e), ("code", .int 1 t1), ("value", .str msg t2), ("errorcode", .ref a), ("level", .int 0 247), ("ret", .int 0 248)]) hroom (X _ _ (by k_is)) rfl (T.nolimit.keeps st) ((codeRec_of B.k (by k_is)).keeps st) rfl (binds_K X rfl (by k_is) rfl rfl rfl) (by decide +kernel) (locs rfl) (fun h₁ hns hk₁ => ?_) rfl rfl rfl
  generalize hL : s.heap.objs.size = L at hns
  obtain ⟨m, hns, hself, hcode, hvalue, herrorcode, hlevel, hret⟩ : ∃ m, h₁.Ns L m ∧ m "self" = some (.ref e) ∧ m "code" = some (.int 1 t1) ∧ m "value" = some (.str msg t2) ∧ m "errorcode" = some (.ref a) ∧ m "level" = some (.int 0 247) ∧ m "ret" = some (.int 0 248) := ⟨_, hns, rfl, rfl, rfl, rfl, rfl, rfl⟩
  have hz : s.heap.get? s.heap.objs.size = none := by
    cases q : s.heap.get? s.heap.objs.size with
    | none => rfl
    | some o => exact absurd (Heap.lt_size q) (Nat.lt_irrefl _)
  rw (occs := .all) [hL] at hz
  have st₁ : base.StaysIn h₁ := fun b o q => hk₁ _ _ (st b o q)
  have X₁ : (hp w.params).In h₁ := fun b o q => st₁ _ _ (B.k b o q)
  have hbL : base.get? L = none := by
    cases q : base.get? L with
    | none => rfl
    | some o => have := st _ _ q; rw (occs := .all) [hz] at this; cases this
  have heL : e ≠ L := fun q => by rw (occs := .all) [q, hz] at he; cases he
  refine wpAny_execs_cons (wpAny_Expr (methodCall_KW (pl := _) ?_))
  refine Name_function_global rfl (by rfl) (loadGlobal_builtin (T.g.keeps st₁) (mg_none_of B.k T.g (by k_is)) (T.b.keeps st₁) ((T.builtins "Exception" (by decide +kernel)).trans (show bootBuiltins "Exception" = some (.type "Exception") from by decide +kernel)) ?_) (by decide +kernel)
  refine method_exc find_init X₁ rfl ?_
  refine Calls.callWith_builtin rfl (Calls.evalArgs_plain ?_)
  refine args_cons (wpAny_Name (wpAny_loadName_local rfl rfl hns hself ?_) (by decide +kernel)) rfl
  refine args_cons (wpAny_Name (wpAny_loadName_local rfl rfl hns hvalue ?_) (by decide +kernel)) rfl
  refine args_nil ?_
  refine init_call (base := base) B st₁ (hk₁ _ _ he) rfl rfl rfl (by rw [sizeLine_eq]; simp) ?_
  have he₁ := hk₁ _ _ he
  dsimp only
  generalize hH : Heap.update _ _ _ = H
  have hHe : H.get? e = some ⟨.ref 65, none, .fields #[.ref h₁.objs.size, .none, .none, .none, .bool false, .none], #[]⟩ := by
    rw (occs := .all) [← hH]
    exact Heap.get?_update_self _ (Heap.get?_push_of_some _ he₁) rfl
  have hHo : ∀ b o, b ≠ e → h₁.get? b = some o → H.get? b = some o := fun b o n q => by
    rw (occs := .all) [← hH, Heap.get?_update_other _ _ (Ne.symm n)]
    exact Heap.get?_push_of_some _ q
  have nsH : H.Ns L m := by
    obtain ⟨oL, es, ep, h2, r⟩ := hns
    exact ⟨oL, es, ep, hHo L oL (Ne.symm heL) h2, r⟩
  have stH : base.StaysIn H := fun b o q => hHo b o (fun z => by rw (occs := .all) [z, hbe] at q; cases q) (st₁ b o q)
  obtain ⟨nm, qn, bs, sn, sub, ab, col, dd, k0, k1, k2, k3, k5, hC⟩ := raised_cls B stH
  obtain ⟨mN, hN, n0, n1, n2, n3, n4, n5, n6, n7, n8, n9, n10, n11⟩ := raised_ns B stH
  refine wpAny_execs_cons (plainObj_wpAny_Assign_Attribute (wpAny_Name (wpAny_loadName_local rfl rfl nsH hcode (wpAny_Name (wpAny_loadName_local rfl rfl nsH hself ?_) (by decide +kernel))) (by decide +kernel)))
  refine first_attr F.store_Exception hC hN n1 n2 (excNo (by decide +kernel)) hHe rfl rfl (fun c q => by cases q) ?_
  intro H2 tk2 ko2 he2 at2
  have nD : H.get? H.objs.size = none := by
    cases q : H.get? H.objs.size with
    | none => rfl
    | some o => exact absurd (Heap.lt_size q) (Nat.lt_irrefl _)
  have hso : ∀ b o, b ≠ e → s.heap.get? b = some o → H.get? b = some o := fun b o n q => hHo b o n (hk₁ b o q)
  have neE : H.objs.size ≠ e := fun q => by rw (occs := .all) [q, hHe] at nD; cases nD
  have neL : H.objs.size ≠ L := fun q => by
    obtain ⟨oL, es, ep, h2, r⟩ := nsH
    rw (occs := .all) [q, h2] at nD; cases nD
  have nsD : s.heap.get? H.objs.size = none := by
    cases q : s.heap.get? H.objs.size with
    | none => rfl
    | some o => have := hso _ _ neE q; rw (occs := .all) [nD] at this; cases this
  have I1 : Inv s.heap L m e H.objs.size _ 1 H2 := ⟨by
    obtain ⟨oL, es, ep, h2, r⟩ := nsH
    exact ⟨oL, es, ep, ko2 L oL (Ne.symm heL) h2, r⟩, ⟨_, _, he2, rfl⟩, at2, ⟨["code"], Within.cons _ _ Within.nil, by decide⟩, fun b o n q => ko2 b o n (hso b o n q), nsD, neL, heL, neE⟩
  have st2 : base.StaysIn H2 := fun b o q => ko2 b o (fun z => by rw (occs := .all) [z, hbe] at q; cases q) (stH b o q)
  refine wpAny_execs_cons (plainObj_wpAny_Assign_Attribute (wpAny_Name (wpAny_loadName_local rfl rfl I1.ns hvalue (wpAny_Name (wpAny_loadName_local rfl rfl I1.ns hself ?_) (by decide +kernel))) (by decide +kernel)))
  refine Inv.next F.store_Exception B st2 hbe st I1 (by decide) (noAttrs (by decide +kernel)) (excNo (by decide +kernel)) ?_
  intro H3 tk3 I2 st3
  refine wpAny_execs_cons (plainObj_wpAny_Assign_Attribute (wpAny_Name (wpAny_loadName_local rfl rfl I2.ns herrorcode (wpAny_Name (wpAny_loadName_local rfl rfl I2.ns hself ?_) (by decide +kernel))) (by decide +kernel)))
  refine Inv.next F.store_Exception B st3 hbe st I2 (by decide) (noAttrs (by decide +kernel)) (excNo (by decide +kernel)) ?_
  intro H4 tk4 I3 st4
  refine wpAny_execs_cons (plainObj_wpAny_Assign_Attribute (wpAny_Name (wpAny_loadName_local rfl rfl I3.ns hlevel (wpAny_Name (wpAny_loadName_local rfl rfl I3.ns hself ?_) (by decide +kernel))) (by decide +kernel)))
  refine Inv.next F.store_Exception B st4 hbe st I3 (by decide) (noAttrs (by decide +kernel)) (excNo (by decide +kernel)) ?_
  intro H5 tk5 I4 st5
  refine wpAny_execs_cons (plainObj_wpAny_Assign_Attribute (wpAny_Name (wpAny_loadName_local rfl rfl I4.ns hret (wpAny_Name (wpAny_loadName_local rfl rfl I4.ns hself ?_) (by decide +kernel))) (by decide +kernel)))
  refine Inv.next F.store_Exception B st5 hbe st I4 (by decide) (noAttrs (by decide +kernel)) (excNo (by decide +kernel)) ?_
  intro H6 tk6 I5 st6
  refine wpAny_execs_cons (plainObj_wpAny_Assign_Attribute (wpAny_Constant_str (wpAny_Name (wpAny_loadName_local rfl rfl I5.ns hself ?_) (by decide +kernel))))
  refine Inv.next F.store_Exception B st6 hbe st I5 (by decide) (noAttrs (by decide +kernel)) (excNo (by decide +kernel)) ?_
  intro H7 tk7 I6 st7
  refine wpAny_execs_cons (plainObj_wpAny_Assign_Attribute (wpAny_Constant_bool (wpAny_Name (wpAny_loadName_local rfl rfl I6.ns hself ?_) (by decide +kernel))))
  refine Inv.next F.store_Exception B st7 hbe st I6 (by decide) (noAttrs (by decide +kernel)) (excNo (by decide +kernel)) ?_
  intro H8 tk8 I7 st8
  refine wpAny_execs_cons (plainObj_wpAny_Assign_Attribute (wpAny_Constant_int (wpAny_Name (wpAny_loadName_local rfl rfl I7.ns hself ?_) (by decide +kernel))))
  refine Inv.next F.store_Exception B st8 hbe st I7 (by decide) (noAttrs (by decide +kernel)) (excNo (by decide +kernel)) ?_
  intro H9 tk9 I8 st9
  refine wpAny_execs_cons (plainObj_wpAny_Assign_Attribute (List_ (args_nil (wpAny_newObj_type ?_ (by show (0 : Nat) ≤ sizeLine; exact Nat.zero_le _)))))
  have gP := grows_push H9 { cls := .type "list", data := .seq [].toArray }
  have I8p := Inv.grow I8 gP
  have st9p : base.StaysIn (H9.push { cls := .type "list", data := .seq [].toArray }) := fun b o q => gP b o (st9 b o q)
  refine wpAny_Name (wpAny_loadName_local rfl rfl I8p.ns hself ?_) (by decide +kernel)
  refine Inv.next F.store_Exception B st9p hbe st I8p (by decide) (noAttrs (by decide +kernel)) (excNo (by decide +kernel)) ?_
  intro H10 tk10 I9 st10
  refine wpAny_execs_nil ?_
  exact K _ _ _ _ I9.newD I9.keep I9.obj I9.att.ns rfl rfl rfl
end
end
section
open Builtin
theorem fillK15 : hp = hp ∧ PySem.Challenge.rw_np0140_01 = PySem.Challenge.rw_np0140_01 := by
  k_fill
  exact ⟨rfl, rfl⟩
section
variable {w : World} {A : Around} {base : Heap} {outer : List Env} {bad : Addr → Prop} {s : Shared} {n : Nat}
theorem bind77 {t : Str} {tk : Tok} {ea : Addr} (X : (hp w.params).In s.heap) (oc : Value) (od : Option Addr) (fd : FuncData) (osl : Array (Option Value)) (q : (hp w.params).lookup 77 = some ⟨oc, od, .func fd, osl⟩) :
    BindsTo s fd ⟨[.str t tk, .ref ea], []⟩ [("text", .str t tk), ("errorcode", .ref ea)] := by
  have h : ∃ oc od fd osl, (hp w.params).lookup 77 = some ⟨oc, od, .func fd, osl⟩ ∧ BindsTo s fd ⟨[.str t tk, .ref ea], []⟩ [("text", .str t tk), ("errorcode", .ref ea)] := ⟨_, _, _, _, by k_is, by exact binds_K X rfl (by k_is) rfl rfl rfl⟩
  obtain ⟨oc', od', fd', osl', h1, h2⟩ := h
  rw (occs := .all) [q] at h1; cases h1
  exact h2
theorem bind77d {t : Str} {tk : Tok} (X : (hp w.params).In s.heap) (oc : Value) (od : Option Addr) (fd : FuncData) (osl : Array (Option Value)) (q : (hp w.params).lookup 77 = some ⟨oc, od, .func fd, osl⟩) :
    BindsTo s fd ⟨[.str t tk], []⟩ [("text", .str t tk), ("errorcode", .ref 69)] := by
  have h : ∃ oc od fd osl, (hp w.params).lookup 77 = some ⟨oc, od, .func fd, osl⟩ ∧ BindsTo s fd ⟨[.str t tk], []⟩ [("text", .str t tk), ("errorcode", .ref 69)] := ⟨_, _, _, _, by k_is, by exact binds_K X rfl (by k_is) rfl rfl rfl⟩
  obtain ⟨oc', od', fd', osl', h1, h2⟩ := h
  rw (occs := .all) [q] at h1; cases h1
  exact h2
theorem at62 (P : Params) : ∃ od fd osl, (hp P).lookup 62 = some ⟨.type "function", od, .func fd, osl⟩ := ⟨_, _, _, by k_is⟩
theorem at69 (P : Params) : ∃ tk n osl, (hp P).lookup 69 = some ⟨.type "tuple", none, .seq #[.str "NONE" tk] n, osl⟩ := ⟨_, _, _, by k_is⟩
theorem error_core {vs : List Value} {R : Result → Shared → Prop} {t : Str} {tk : Tok} {ea : Addr} {o : Obj} {cs : Array Value} {k : Nat} {codes : List Str} (C : CallOk w (n + 3) A base outer bad s.heap)
    (hb : ∀ oc od fd osl, (hp w.params).lookup 77 = some ⟨oc, od, .func fd, osl⟩ → BindsTo s fd ⟨vs, []⟩ [("text", .str t tk), ("errorcode", .ref ea)])
    (he : s.heap.get? ea = some o) (hc : Cl o "tuple") (hd' : o.data = .seq cs k) (nb : ¬ bad ea) (hcs : StrsAre cs.toList codes)
    (K : ∀ a h' tk', Sim bad s.heap.get? h' → ExcNew bad h' a ⟨t, codes⟩ → s.heap.get? a = none → R (.ok (.ret (.ref a))) (upd s h' tk')) :
    codeAny (model prg w) A (.call (.ref 77) ⟨vs, []⟩) R s := by
  have B := C.bs
  have st := C.stays
  obtain ⟨loose, mean, mg, mb, T⟩ := B.t
  have X : (hp w.params).In s.heap := fun b o q => st _ _ (B.k b o q)
  have hdep := C.depth
  refine codeAny_call_def (fd := fnOf _ _ _ _ _ _ _ _ _ _ _ _) (body := _) (binds := [("text", .str t tk), ("errorcode", .ref ea)]) (by omega) (X _ _ (by k_is)) rfl (T.nolimit.keeps st) ((codeRec_of B.k (by k_is)).keeps st) rfl (hb _ _ _ _ (by k_is)) (by decide +kernel) (locs rfl) (fun h₁ hns hk₁ => ?_) rfl rfl rfl
  generalize hL : s.heap.objs.size = L at hns
  obtain ⟨m, hns, htext, hcode⟩ : ∃ m, h₁.Ns L m ∧ m "text" = some (.str t tk) ∧ m "errorcode" = some (.ref ea) := ⟨_, hns, rfl, rfl⟩
  have st₁ : base.StaysIn h₁ := fun b o q => hk₁ _ _ (st b o q)
  have X₁ : (hp w.params).In h₁ := fun b o q => st₁ _ _ (B.k b o q)
  refine wpAny_execs_cons (wpAny_Return_some (Call_ (Name_function_global rfl (by rfl) (loadGlobal_global (v := .ref 65) (T.g.keeps st₁) (mg_of B.k T.g (by k_is)) ?_) (by decide +kernel))))
  refine callWith_of (P := (hp w.params).In) rfl (keeps_K (by k_is)) (Calls.evalArgs_plain ?_)
  refine args_cons (wpAny_Constant_int ?_) rfl
  refine args_cons (wpAny_Name (wpAny_loadName_local rfl rfl hns htext ?_) (by decide +kernel)) rfl
  refine args_cons (wpAny_Name (wpAny_loadName_local rfl rfl hns hcode ?_) (by decide +kernel)) rfl
  refine args_nil ⟨X₁, ?_⟩
  obtain ⟨nm, qn, bs, sn, sub, ab, col, dd, k0, k1, k2, k3, k5, hC⟩ := raised_cls B st₁
  obtain ⟨mN, hN, n0, n1, n2, n3, n4, n5, n6, n7, n8, n9, n10, n11⟩ := raised_ns B st₁
  obtain ⟨od', fd', osl', h62⟩ := at62 w.params
  refine wpAny_call_exc_init PySem.F.excBase_Exception hC hN n0 (X₁ _ _ h62) rfl (fun h2 e hm => ?_) (by rw [sizeLine_eq]; simp)
  obtain ⟨t0, me, mt, mt'⟩ := hm.there
  have hse : s.heap.get? e = none := by
    cases q : s.heap.get? e with
    | none => rfl
    | some o => have := hk₁ _ _ q; rw (occs := .all) [hm.new] at this; cases this
  have st2 : base.StaysIn h2 := fun b o q => hm.keeps _ _ (st₁ b o q)
  have hbe : base.get? e = none := by
    cases q : base.get? e with
    | none => rfl
    | some o => have := st _ _ q; rw (occs := .all) [hse] at this; cases this
  refine wpAny_call (raised_init B st2 ?_ hbe me ?_)
  · show A.depth + 1 + 1 < _; omega
  · intro h3 tk3 dx mA hdn ko ho ns3 c1 c2 c3
    obtain ⟨vs3, sl3, ho, hv3⟩ := ho
    have all : ∀ b o, s.heap.get? b = some o → h3.get? b = some o := fun b o q => ko b o (fun z => by rw (occs := .all) [z, hse] at q; cases q) (hm.keeps _ _ (hk₁ _ _ q))
    have ndx : ¬ bad dx := fun q => by
      obtain ⟨ob, q⟩ := C.badOld dx q
      have := hm.keeps _ _ (hk₁ _ _ q)
      rw (occs := .all) [hdn] at this; cases this
    refine ⟨rfl, K e h3 tk3 (Sim.of_keeps all) ⟨_, vs3, dx, ho, rfl, rfl, rfl, hv3, ndx, mA, _, _, ea, o, cs, k, ns3, c1, c2, c3, all _ _ he, hc, hd', nb, hcs⟩ hse⟩
theorem fno_error {t : Str} {codes : List Str} : fno w (n + 3) 77 [.str t, .tup (codes.map PV.str)] (fun x => x = ⟨t, codes⟩) := by
  intro A base outer bad s vs R C r K
  obtain ⟨a, b, rfl, ra, rb⟩ := rdl2 r
  cases ra with
  | str _ tk => cases rb with
    | tup e c d nb rs => exact error_core C (bind77 (fun b o q => C.stays _ _ (C.bs.k b o q))) e c d nb (StrsAre.of_rd rs) (fun a h' tk' h1 h2 h3 => K _ a h' tk' h1 h2 h3 rfl)
theorem fno_error1 {t : Str} : fno w (n + 3) 77 [.str t] (fun x => x = ⟨t, ["NONE"]⟩) := by
  intro A base outer bad s vs R C r K
  obtain ⟨a, rfl, ra⟩ := rdl1 r
  obtain ⟨_, rfl⟩ := ra.i
  have X : (hp w.params).In s.heap := fun b o q => C.stays _ _ (C.bs.k b o q)
  obtain ⟨tk, k, osl, e69⟩ := at69 w.params
  exact error_core C (bind77d X) (X _ _ e69) ⟨rfl, rfl⟩ rfl (C.badBase _ _ (C.bs.k _ _ e69)) (.cons .nil) (fun a h' tk' h1 h2 h3 => K _ a h' tk' h1 h2 h3 rfl)
end
end
section
variable {w : World} {n : Nat} {σ : Scope} {ρ : PEnv} {X : Exc → Prop}
theorem fno_body {fa : Addr} {xs : List Str} {ps : List PV} {Q : Exc → Prop} {name qual : Str} {params : Arguments} {body : List Stmt} {dV kV doc pm cdv ct oc : Value} {an od : Option Addr} {osl : Array (Option Value)}
    (ho : (hp w.params).lookup fa = some ⟨oc, od, .func (fnOf name qual params body σ dV kV doc pm an cdv ct), osl⟩) (hcd : codeIn (hp w.params) cdv qual = true)
    (hbind : ∀ s vs, vs.length = ps.length → BindsTo s (fnOf name qual params body σ dV kV doc pm an cdv ct) ⟨vs, []⟩ (xs.zip vs)) (hn : xs.Nodup) (hl : xs.length = ps.length)
    (hloc : ∀ y ∈ xs, σ.names.lookup y = some .local) (hcell : ∀ x ∈ σ.names, x.2 ≠ .cell) (hco : σ.isCoroutine = false) (hgen : σ.isGenerator = false) (hk : σ.kind = .function)
    {ρ₀ : PEnv} (hρ : xs.zip (ps.map Bnd.fz) = ρ₀) (h : exs w n σ body ρ₀ (fun _ => False) ⟨fun _ => False, fun _ => False, fun _ => False, Q⟩ (fun _ => False)) : fno w (n + 1) fa ps Q := by
  subst hρ
  intro A base outer bad s vs R C r K
  have hlen := r.length
  have hvl : xs.length = vs.length := hl.trans hlen.symm
  obtain ⟨loose, mean, mg, mb, T⟩ := C.bs.t
  refine codeAny_call_def (fd := fnOf name qual params body σ dV kV doc pm an cdv ct) (body := body) (binds := xs.zip vs) (by have := C.depth; omega) (C.stays _ _ (C.bs.k _ _ ho)) rfl (T.nolimit.keeps C.stays) ((codeRec_of C.bs.k hcd).keeps C.stays) rfl (hbind s vs hlen) hcell
    (fun y hy => hloc _ (List.of_mem_zip hy).1) (fun h₁ hns hk₁ => ?_) hco hgen hk
  have hzm : (xs.zip vs).map (·.1) = xs := List.map_fst_zip (by omega)
  have hns' : h₁.Ns s.heap.objs.size fun x => (xs.zip vs).lookup x := by
    have : (fun x => List.lookup x (xs.zip vs).reverse) = fun x => (xs.zip vs).lookup x := funext fun x => lookup_rev (by rw [hzm]; exact hn) x
    rw (occs := .all) [← this]; exact hns
  let f : Fm := { A := A.deeper (callEnv (fnOf name qual params body σ dV kV doc pm an cdv ct) s.heap.objs.size fa), base := base, h₀ := s.heap.get?, outer := outer, qual := qual, scope := σ, L := s.heap.objs.size, a := fa, cd := cdv, bad := bad }
  have hsz : s.heap.get? s.heap.objs.size = none := by
    cases q : s.heap.get? s.heap.objs.size with
    | none => rfl
    | some o => exact absurd (Heap.lt_size q) (Nat.lt_irrefl _)
  have noOwn : ∀ {ρ : PEnv} {x l}, ρ = xs.zip (ps.map Bnd.fz) → ρ.lookup x = some (Bnd.own l) → False := by
    intro ρ x l e q
    subst e
    obtain ⟨v, p, e1, _⟩ := lookup_zip hl r q
    cases e1
  have hbase := fly_start C
  have S : St w f (xs.zip (ps.map Bnd.fz)) (fun x => (xs.zip vs).lookup x) h₁ := by
    refine ⟨hns', fun x b e => ?_, fun x y l l' e => (noOwn rfl e).elim, Sim.of_keeps hk₁, fun b o e => hk₁ b o (C.stays b o e), ?_, hsz, ?_, C.badOld, C.badFr, hbase⟩
    · obtain ⟨v, p, e1, e2, e3⟩ := lookup_zip hl r e
      subst e1
      refine ⟨v, e2, e3.move fun a o q nb _ => ⟨hk₁ a o q, fun z => ?_⟩⟩
      rcases z with z | z | z
      · exact nb z
      · rw (occs := .all) [z] at q; rw (occs := .all) [show f.L = s.heap.objs.size from rfl, hsz] at q; cases q
      · obtain ⟨x', l', e', _⟩ := z
        exact noOwn rfl e'
    · refine Heap.FunFrames.cons (L := s.heap.objs.size) (by show σ.kind ≠ .module; rw [hk]; decide) rfl hns' ?_ (C.funs.of_keeps fun b o e _ => ⟨o, hk₁ b o e, rfl⟩)
      cases q : base.get? s.heap.objs.size with
      | none => rfl
      | some o => have := (hbase _ _ q).1; rw (occs := .all) [hsz] at this; cases this
    · rintro a ⟨x', l', e', _⟩
      exact (noOwn rfl e').elim
  have O : f.Ok w n σ := ⟨by show (A.deeper _).frames = _; exact Around.frames_deeper C.frames, fun _ => C.handled, by show A.depth + 1 + n < _; have := C.depth; omega, by show A.units + 3 + 16 * n < _; have := C.units; omega, rfl, hk, C.bs⟩
  refine h f _ _ _ _ O S ?_ (fun _ _ _ _ _ k => k.elim)
  intro ρ' m' fl flv h' tk' S' I k
  cases fl with
  | obj x =>
    cases flv with
    | ret v =>
      obtain ⟨e, rfl, h1, h2⟩ := I
      exact K x e h' tk' S'.sim h1 h2 k
    | _ => exact I.elim
  | _ => exact k.elim
noncomputable def Does (w : World) (n : Nat) (fa : Addr) (ps : List PV) (o : Except Exc PV) : Prop := fnc w n fa ps (fun p => o = .ok p) (fun x => o = .error x)
theorem does_use {n' : Nat} {fa : Addr} {ps : List PV} {o : Except Exc PV} {Q : PV → Prop} (h : Does w n' fa ps o) (hn : n' ≤ n) (hq : ∀ p, o = .ok p → Q p) (hx : ∀ x, o = .error x → X x) : fnc w n fa ps Q X :=
  fnc_mono h hn hq hx
theorem does_ok {n' : Nat} {fa : Addr} {ps : List PV} {p : PV} {Q : PV → Prop} (h : Does w n' fa ps (.ok p)) (hn : n' ≤ n) (hq : Q p) : fnc w n fa ps Q X :=
  fnc_mono h hn (fun _ e => by cases e; exact hq) (fun _ e => by cases e)
theorem fno_mono {n' : Nat} {fa : Addr} {ps : List PV} {Q Q' : Exc → Prop} (h : fno w n' fa ps Q) (hn : n' ≤ n) (hQ : ∀ x, Q x → Q' x) : fno w n fa ps Q' :=
  fun A base outer bad s vs R C r K => h A base outer bad s vs R ⟨C.frames, C.handled, by have := C.depth; omega, by have := C.units; omega, C.bs, C.stays, C.funs, C.badOld, C.badFr, C.badBase⟩ r
    (fun x a h' tk' b c d e => K x a h' tk' b c d (hQ _ e))
theorem fno_use {n' : Nat} {fa : Addr} {ps : List PV} {x : Exc} {Q : Exc → Prop} (h : fno w n' fa ps (fun y => y = x)) (hn : n' ≤ n) (hq : Q x) : fno w n fa ps Q :=
  fno_mono h hn fun _ e => e ▸ hq
theorem ex_expr {e : Expr} {pos : Pos} {N : PEnv → Prop} {k : Ks} (h : ev w n σ e ρ (fun ρ1 p => p = .none ∧ N ρ1) X) (hs : ∀ env, swapsWith e none pos.line env = pure false := by intro _; with_unfolding_all rfl) : ex w n σ (.Expr e pos) ρ N k X := by
  intro f s m QV EV O S K E
  refine wpAny_Expr (h f s m _ EV O S (fun ρ1 p v h1 tk1 S1 r1 k1 => ?_) E) ?_ (hs _)
  · obtain ⟨rfl, q⟩ := k1
    obtain ⟨_, rfl⟩ := r1.i
    exact K ρ1 m .next .next h1 tk1 S1 trivial q
  · show (f.scope.kind == .module && _) = false
    rw (occs := .all) [O.sc, O.kind]; rfl
theorem ex_ret0 {pos : Pos} {N B C : PEnv → Prop} {R : PV → Prop} {O : Exc → Prop} (h : R .none) : ex w n σ (.Return none pos) ρ N ⟨B, C, R, O⟩ X :=
  fun f s m QV EV O S K E => wpAny_Return_none (K ρ m (.ret .none) (.ret .none) s.heap s.toks S .none h)
theorem ex_break {pos : Pos} {N B C : PEnv → Prop} {R : PV → Prop} {O : Exc → Prop} (h : B ρ) : ex w n σ (.Break pos) ρ N ⟨B, C, R, O⟩ X := by
  intro f s m QV EV O S C E
  rw (occs := .all) [arm_exec_Break]
  exact wpAny_bind (wpAny_standAt (wpAny_pure (C ρ m .brk .brk s.heap s.toks S trivial h)))
theorem storeSide {f : Fm} (O : f.Ok w n σ) : (f.scope.kind == .class || (f.scope.kind == .module && f.L != mainGlobals)) = false := by rw [O.sc, O.kind]; rfl
theorem ex_aug {x : Str} {pos' pos : Pos} {op : Operator} {value : Expr} {a : PV} {N : PEnv → Prop} {k : Ks} (hl : Lk x (.fz a) ρ)
    (h : ev w n σ value ρ (fun ρ1 b => ∃ c, Op2 w n (inplaceOp op) a b c ∧ ∃ ρ2, Put x (.fz c) ρ1 ρ2 ∧ N ρ2) X) (hx : σ.names.lookup x = some .local := by kernel_rfl) : ex w n σ (.AugAssign (.Name x pos') op value pos) ρ N k X := by
  intro f s m QV EV O S K E
  obtain ⟨v, h1, h2⟩ := S.bnd x _ hl.eq
  have hsc := O.sc
  subst hsc
  refine wpAny_AugAssign_Name (wpAny_loadName_local O.kind hx S.ns h1 (h (f.re ρ m s.heap) s m _ EV O.re S.re (fun ρ1 b vb h1 tk1 S1 rb k1 => ?_) (fun x a h' tk' F q => E x a h' tk' (F.back S) q)))
  obtain ⟨c, op, ρ2, hp, q⟩ := k1
  have S1' := S.back S1
  refine op f.A (upd s h1 tk1) _ v vb _ EV (O.cx S1') (S.keepRd S1 h2) rb (fun vc h3 tk3 g r => ?_)
  have S3 := S1'.grow g
  refine wpAny_storeName_local (m := m) hx S3.ns (fun h4 hn hs => ?_) (storeSide O)
  exact K ρ2 _ .next .next h4 _ (S3.store r hp hn hs) trivial q
theorem op_iadd (i j : Int) : Op2 w n (inplaceOp .Add) (.int i) (.int j) (.int (i + j)) := by
  intro A s bad va vb QV EV C ra rb K; obtain ⟨_, rfl⟩ := ra.i; obtain ⟨_, rfl⟩ := rb.i
  exact iadd_int (K _ s.heap _ (grows_refl _) (.int _ _))
theorem op_isub (i j : Int) : Op2 w n (inplaceOp .Sub) (.int i) (.int j) (.int (i - j)) := by
  intro A s bad va vb QV EV C ra rb K; obtain ⟨_, rfl⟩ := ra.i; obtain ⟨_, rfl⟩ := rb.i
  exact isub_int (K _ s.heap _ (grows_refl _) (.int _ _))
theorem St.storeRd {P : World} {f : Fm} {ρ' : PEnv} {m : Str → Option Value} {h h' : Heap} {x : Str} {v v' : Value} {p p' : PV} (S : St P f ρ m h) (r : Rd P h (f.badAt ρ m) v' p') (hp : Put x (.fz p) ρ ρ') (hs : Heap.SameBut f.L h h') :
    Rd P h' (f.badAt ρ' (fun y => if y = x then some v else m y)) v' p' := by
  refine r.move fun a o e n _ => ⟨(hs.2 a fun q => n (.inr (.inl q))).trans e, fun q => n ?_⟩
  refine q.imp_right fun q => q.imp_right ?_
  rintro ⟨y, l, e1, e2⟩
  by_cases q : y = x
  · subst q; rw (occs := .all) [hp.same] at e1; cases e1
  · rw (occs := .all) [hp.other q] at e1
    simp only [q, if_false] at e2
    exact ⟨y, l, e1, e2⟩
theorem grows_ext {h h' : Heap} (e : Heap.ExtBut h.objs.size h h') : Grows h h' := fun b o q => e b o (Nat.ne_of_lt (Heap.lt_size q)) q
theorem ex_assign2 {x y : Str} {px py tpos pos : Pos} {k : Nat} {value : Expr} {N : PEnv → Prop} {ks : Ks}
    (h : ev w n σ value ρ (fun ρ1 p => ∃ a b, p = .tup [a, b] ∧ ∃ ρ2 ρ3, Put x (.fz a) ρ1 ρ2 ∧ Put y (.fz b) ρ2 ρ3 ∧ N ρ3) X) (hn : 0 < n)
    (hx : σ.names.lookup x = some .local := by kernel_rfl) (hy : σ.names.lookup y = some .local := by kernel_rfl)
    (hs : ∀ env, swapsWithSole [.Tuple [.Name x px, .Name y py] k tpos] value pos.line env = pure false := by intro _; with_unfolding_all rfl)
    (hw : ∀ q L a cd, swappedStores [.Tuple [.Name x px, .Name y py] k tpos] value (envOf q σ L a cd) = pure none := by intro _ _ _ _; with_unfolding_all rfl) : ex w n σ (.Assign [.Tuple [.Name x px, .Name y py] k tpos] value pos) ρ N ks X := by
  intro f s m QV EV O S K E
  have hsc := O.sc
  subst hsc
  refine Assign_Tuple (h f s m _ EV O S (fun ρ1 p v h1 tk1 S1 r1 k1 => ?_) E) (hs _) (hw _ _ _ _)
  obtain ⟨a, b, rfl, ρ2, ρ3, hp, hp', q⟩ := k1
  obtain ⟨ad, o, vs, kk, rfl, e, c, d, nb, rs⟩ := r1.i
  have hT : IsTup h1 ad vs := ⟨_, e, c.cls, _, d⟩
  have hsz : vs.size = 2 := by rw [← Array.length_toList, rs.length]; rfl
  obtain ⟨va, vb, hv, ra, rb⟩ := rdl2 rs
  show wpAny _ _ (do standAt tpos; unpack (.ref ad) [(false, assign (.Name x px) f.env), (false, assign (.Name y py) f.env)]) _ _ _
  refine wpAny_bind (wpAny_standAt (unpack_tuple (O.handled hn) hT (by rw [hsz]; rfl) rfl fun h2 he => ?_))
  rw (occs := .all) [hv]
  have g : Grows h1 h2 := grows_ext he
  have S2 := S1.grow g
  show wpAny _ _ (do holding [vb] (assign (.Name x px) f.env va); holding [] (assign (.Name y py) f.env vb); pure ()) _ _ _
  refine wpAny_bind (wpAny_holding (assign_Name (wpAny_storeName_local hx S2.ns (fun h3 hn3 hs3 => ?_) (storeSide O))))
  have S3 := S2.store (ra.grow g) hp hn3 hs3
  have rb3 := S2.storeRd (v := va) (rb.grow g) hp hs3
  refine wpAny_bind (wpAny_holding (assign_Name (wpAny_storeName_local hy S3.ns (fun h4 hn4 hs4 => wpAny_pure ?_) (storeSide O))))
  exact K ρ3 _ .next .next h4 _ (S3.store rb3 hp' hn4 hs4) trivial q
theorem ex_assign2s {x y : Str} {px py tpos pos : Pos} {k : Nat} {value : Expr} {N : PEnv → Prop} {ks : Ks}
    (h : ev w n σ value ρ (fun ρ1 p => ∃ a b, p = .tup [a, b] ∧ ∃ ρ2 ρ3, Put y (.fz b) ρ1 ρ2 ∧ Put x (.fz a) ρ2 ρ3 ∧ N ρ3) X) (hn : 0 < n)
    (hx : σ.names.lookup x = some .local := by kernel_rfl) (hy : σ.names.lookup y = some .local := by kernel_rfl)
    (hs : ∀ env, swapsWithSole [.Tuple [.Name x px, .Name y py] k tpos] value pos.line env = pure false := by intro _; with_unfolding_all rfl)
    (hw : ∀ q L a cd, swappedStores [.Tuple [.Name x px, .Name y py] k tpos] value (envOf q σ L a cd) = pure (some [x, y]) := by intro _ _ _ _; with_unfolding_all rfl) : ex w n σ (.Assign [.Tuple [.Name x px, .Name y py] k tpos] value pos) ρ N ks X := by
  intro f s m QV EV O S K E
  have hsc := O.sc
  subst hsc
  refine Assign_Tuple_swapped (names := [x, y]) (h f s m _ EV O S (fun ρ1 p v h1 tk1 S1 r1 k1 => ?_) E) (hs _) (hw _ _ _ _)
  obtain ⟨a, b, rfl, ρ2, ρ3, hp, hp', q⟩ := k1
  obtain ⟨ad, o, vs, kk, rfl, e, c, d, nb, rs⟩ := r1.i
  have hT : IsTup h1 ad vs := ⟨_, e, c.cls, _, d⟩
  have hsz : vs.size = 2 := by rw [← Array.length_toList, rs.length]; rfl
  obtain ⟨va, vb, hv, ra, rb⟩ := rdl2 rs
  have e2 : ([x, y] : List Str).length = vs.size := by rw [hsz]; rfl
  rw (occs := .all) [e2]
  refine unpackItems_tuple (O.handled hn) hT fun h2 he => ?_
  rw (occs := .all) [hv]
  have g : Grows h1 h2 := grows_ext he
  have S2 := S1.grow g
  show wpAny _ _ (do holding [va] (bindName f.env y vb); holding [] (bindName f.env x va); pure ()) _ _ _
  refine wpAny_bind (wpAny_holding (bindName_ (wpAny_storeName_local hy S2.ns (fun h3 hn3 hs3 => ?_) (storeSide O))))
  have S3 := S2.store (rb.grow g) hp hn3 hs3
  have ra3 := S2.storeRd (v := vb) (ra.grow g) hp hs3
  refine wpAny_bind (wpAny_holding (bindName_ (wpAny_storeName_local hx S3.ns (fun h4 hn4 hs4 => wpAny_pure ?_) (storeSide O))))
  exact K ρ3 _ .next .next h4 _ (S3.store ra3 hp' hn4 hs4) trivial q
end
theorem dict_mapSeq (o : Obj) (g : Array Value → Array Value) : (o.mapSeq g).dict = o.dict := by
  obtain ⟨c, d, dt, sl⟩ := o; cases dt <;> rfl
section
variable {P : World} {f : Fm} {ρ ρ' : PEnv} {m : Str → Option Value} {h h' h0 : Heap} {x : Str} {l l' : List PV}
theorem own_put {b : Bnd} (hp : Put x b ρ ρ') (hb : ∀ l, b ≠ .own l) {a : Addr} (q : OwnAt ρ' m a) : ∃ y l, y ≠ x ∧ ρ.lookup y = some (.own l) ∧ m y = some (.ref a) := by
  obtain ⟨y, l, e1, e2⟩ := q
  by_cases q : y = x
  · subst q; rw (occs := .all) [hp.same] at e1; exact (hb l (Option.some.inj e1)).elim
  · rw (occs := .all) [hp.other q] at e1
    exact ⟨y, l, q, e1, e2⟩
theorem St.freeze (S : St P f ρ m h) (hl : ρ.lookup x = some (.own l)) (hp : Put x (.fz (.lst l)) ρ ρ') : St P f ρ' m h ∧ ∃ v, m x = some v ∧ Rd P h (f.badAt ρ' m) v (.lst l) := by
  have less : ∀ a, f.badAt ρ' m a → f.badAt ρ m a := fun a q => q.imp_right fun q => q.imp_right fun q => by
    obtain ⟨y, l, _, e1, e2⟩ := own_put hp (fun l q => by cases q) q
    exact ⟨y, l, e1, e2⟩
  obtain ⟨a, o, vs, n, h1, h2, h3, h4, h5⟩ := S.bnd x _ hl
  have nb : ¬ f.badAt ρ' m a := fun q => by
    rcases q with q | q | q
    · obtain ⟨o', e⟩ := S.badOld a q
      rw (occs := .all) [S.ownNew a ⟨x, l, hl, h1⟩] at e; cases e
    · exact S.notOwnL ⟨x, l, hl, h1⟩ q
    · obtain ⟨y, l', ny, e1, e2⟩ := own_put hp (fun l q => by cases q) q
      exact ny (S.inj y x l' l e1 hl (by rw [e2, h1]))
  have rx : Rd P h (f.badAt ρ' m) (.ref a) (.lst l) := .lst h2 h3 h4 nb (h5.move fun a o e n _ => ⟨e, fun q => n (less a q)⟩)
  refine ⟨⟨S.ns, fun y b e => ?_, fun y z l1 l2 e1 e2 e3 => ?_, S.sim, S.stays, S.frames, S.newL, fun a q => ?_, S.badOld, S.badFr, S.baseOld⟩, _, h1, rx⟩
  · by_cases q : y = x
    · subst q; rw (occs := .all) [hp.same] at e; cases e
      exact ⟨_, h1, rx⟩
    · rw (occs := .all) [hp.other q] at e
      have z := S.bnd y b e
      cases b with
      | fz p =>
        obtain ⟨v, k1, k2⟩ := z
        exact ⟨v, k1, k2.less less⟩
      | own l2 =>
        obtain ⟨a2, o2, vs2, n2, k1, k2, k3, k4, k5⟩ := z
        exact ⟨a2, o2, vs2, n2, k1, k2, k3, k4, k5.move fun a o e n _ => ⟨e, fun q => n (less a q)⟩⟩
  · have qy : y ≠ x := fun q => by subst q; rw (occs := .all) [hp.same] at e1; cases e1
    have qz : z ≠ x := fun q => by subst q; rw (occs := .all) [hp.same] at e2; cases e2
    rw (occs := .all) [hp.other qy] at e1
    rw (occs := .all) [hp.other qz] at e2
    exact S.inj y z l1 l2 e1 e2 e3
  · obtain ⟨y, l2, _, e1, e2⟩ := own_put hp (fun l q => by cases q) q
    exact S.ownNew a ⟨y, l2, e1, e2⟩
theorem St.mutate {a : Addr} {o' : Obj} {vs' : Array Value} {n' : Nat} (S : St P f ρ m h) (hl : ρ.lookup x = some (.own l)) (hx : m x = some (.ref a)) (hs : Heap.SameBut a h h')
    (ho : h'.get? a = some o') (hc : Cl o' "list") (hd : o'.data = .seq vs' n') (r : RdL P h (f.badAt ρ m) vs'.toList l') (hp : Put x (.own l') ρ ρ') : St P f ρ' m h' ∧ ∀ v p, Rd P h (f.badAt ρ m) v p → Rd P h' (f.badAt ρ' m) v p := by
  have oa : OwnAt ρ m a := ⟨x, l, hl, hx⟩
  have own : ∀ b, OwnAt ρ' m b → OwnAt ρ m b := by
    rintro b ⟨y, l2, e1, e2⟩
    by_cases q : y = x
    · subst q; exact ⟨y, l, hl, e2⟩
    · rw (occs := .all) [hp.other q] at e1; exact ⟨y, l2, e1, e2⟩
  have less : ∀ b, f.badAt ρ' m b → f.badAt ρ m b := fun b q => q.imp_right fun q => q.imp_right (own b)
  have mv : ∀ b o, h.get? b = some o → ¬ f.badAt ρ m b → (o.cls = .type "tuple" ∨ o.cls = .type "list" ∨ o.cls = .type "dict") → h'.get? b = some o ∧ ¬ f.badAt ρ' m b :=
    fun b o e n _ => ⟨(hs.2 b fun q => n (.inr (.inr (q ▸ oa)))).trans e, fun q => n (less b q)⟩
  have neL : f.L ≠ a := fun q => S.notOwnL oa q.symm
  refine ⟨⟨?_, fun y b e => ?_, fun y z l1 l2 e1 e2 e3 => ?_, ?_, ?_, ?_, S.newL, fun b q => S.ownNew b (own b q), S.badOld, S.badFr, S.baseOld⟩, fun v p r => r.move mv⟩
  · obtain ⟨oL, es, ep, e, k⟩ := S.ns
    exact ⟨oL, es, ep, (hs.2 _ neL).trans e, k⟩
  · by_cases q : y = x
    · subst q; rw (occs := .all) [hp.same] at e; cases e
      exact ⟨a, o', vs', n', hx, ho, hc, hd, r.move mv⟩
    · rw (occs := .all) [hp.other q] at e
      have z := S.bnd y b e
      cases b with
      | fz p =>
        obtain ⟨v, k1, k2⟩ := z
        exact ⟨v, k1, k2.move mv⟩
      | own l2 =>
        obtain ⟨a2, o2, vs2, n2, k1, k2, k3, k4, k5⟩ := z
        have ne : a2 ≠ a := fun w => q (S.inj y x l2 l e hl (by rw [k1, hx, w]))
        exact ⟨a2, o2, vs2, n2, k1, (hs.2 a2 ne).trans k2, k3, k4, k5.move mv⟩
  · have hy : ∃ l, ρ.lookup y = some (.own l) := by
      by_cases q : y = x
      · subst q; exact ⟨l, hl⟩
      · rw (occs := .all) [hp.other q] at e1; exact ⟨_, e1⟩
    have hz : ∃ l, ρ.lookup z = some (.own l) := by
      by_cases q : z = x
      · subst q; exact ⟨l, hl⟩
      · rw (occs := .all) [hp.other q] at e2; exact ⟨_, e2⟩
    obtain ⟨_, hy⟩ := hy
    obtain ⟨_, hz⟩ := hz
    exact S.inj y z _ _ hy hz e3
  · intro b o e
    obtain ⟨sl, h1, h2⟩ := S.sim b o e
    exact ⟨sl, (hs.2 b fun q => by rw (occs := .all) [q, S.ownNew a oa] at e; cases e).trans h1, h2⟩
  · intro b o e
    exact (hs.2 b fun q => by have := (S.baseOld b o e).1; rw (occs := .all) [q, S.ownNew a oa] at this; cases this).trans (S.stays b o e)
  · obtain ⟨hk, ⟨L', oL, hf, hn', ho', hd'⟩, hr⟩ := S.frames
    obtain rfl : f.L = L' := Option.some.inj hf
    refine ⟨hk, ⟨f.L, oL, hf, hn', (hs.2 _ neL).trans ho', hd'⟩, frames_keep hr fun e he b hb o ho => (hs.2 b fun q => ?_).trans ho⟩
    obtain ⟨o2, ho2⟩ := S.badOld b (S.badFr e he b hb)
    rw (occs := .all) [q, S.ownNew a oa] at ho2; cases ho2
theorem St.storeO {a : Addr} {o : Obj} {vs : Array Value} {k : Nat} (S : St P f ρ m h0) (ha : h0.get? a = none) (g : Grows h0 h) (ho : h.get? a = some o) (c : Cl o "list") (d : o.data = .seq vs k) (r : RdL P h0 (f.badAt ρ m) vs.toList l)
    (hp : Put x (.own l) ρ ρ') (hn : h'.Ns f.L (fun y => if y = x then some (.ref a) else m y)) (hs : Heap.SameBut f.L h h') : St P f ρ' (fun y => if y = x then some (.ref a) else m y) h' := by
  have S' := S.grow g
  have nL : f.L ≠ a := fun q => by
    obtain ⟨oL, es, ep, e, _⟩ := S.ns
    rw (occs := .all) [q, ha] at e; cases e
  have own : ∀ b, OwnAt ρ' (fun y => if y = x then some (.ref a) else m y) b → b = a ∨ OwnAt ρ m b := by
    rintro b ⟨y, l2, e1, e2⟩
    by_cases q : y = x
    · subst q; simp only [if_true, Option.some.injEq, Value.ref.injEq] at e2; exact .inl e2.symm
    · rw (occs := .all) [hp.other q] at e1
      simp only [q, if_false] at e2
      exact .inr ⟨y, l2, e1, e2⟩
  have mv : ∀ b ob, h0.get? b = some ob → ¬ f.badAt ρ m b → (ob.cls = .type "tuple" ∨ ob.cls = .type "list" ∨ ob.cls = .type "dict") → h'.get? b = some ob ∧ ¬ f.badAt ρ' (fun y => if y = x then some (.ref a) else m y) b := by
    intro b ob e n _
    refine ⟨(hs.2 b fun q => n (.inr (.inl q))).trans (g b ob e), fun q => ?_⟩
    rcases q with q | q | q
    · exact n (.inl q)
    · exact n (.inr (.inl q))
    · rcases own b q with q | q
      · rw (occs := .all) [q, ha] at e; cases e
      · exact n (.inr (.inr q))
  refine ⟨hn, fun y b e => ?_, fun y z l1 l2 e1 e2 e3 => ?_, ?_, ?_, ?_, S.newL, fun b q => ?_, S.badOld, S.badFr, S.baseOld⟩
  · by_cases q : y = x
    · subst q; rw (occs := .all) [hp.same] at e; cases e
      exact ⟨a, o, vs, k, by simp, (hs.2 a (Ne.symm nL)).trans ho, c, d, r.move mv⟩
    · rw (occs := .all) [hp.other q] at e
      have z := S.bnd y b e
      cases b with
      | fz p =>
        obtain ⟨v, k1, k2⟩ := z
        exact ⟨v, by simp [q, k1], k2.move mv⟩
      | own l2 =>
        obtain ⟨a2, o2, vs2, n2, k1, k2, k3, k4, k5⟩ := z
        exact ⟨a2, o2, vs2, n2, by simp [q, k1], (hs.2 a2 (S.notOwnL ⟨y, l2, e, k1⟩)).trans (g _ _ k2), k3, k4, k5.move mv⟩
  · have key : ∀ y l1, y ≠ x → ρ'.lookup y = some (Bnd.own l1) → m y ≠ some (.ref a) := fun y l1 q e w => by
      rw (occs := .all) [hp.other q] at e
      obtain ⟨o2, k2, _⟩ := S.ownThere ⟨y, l1, e, w⟩
      rw (occs := .all) [ha] at k2; cases k2
    by_cases qy : y = x <;> by_cases qz : z = x
    · rw (occs := .all) [qy, qz]
    · simp only [qy, qz, if_true, if_false] at e3; exact (key z l2 qz e2 e3.symm).elim
    · simp only [qy, qz, if_true, if_false] at e3; exact (key y l1 qy e1 e3).elim
    · simp only [qy, qz, if_false] at e3
      rw (occs := .all) [hp.other qy] at e1
      rw (occs := .all) [hp.other qz] at e2
      exact S.inj y z l1 l2 e1 e2 e3
  · intro b ob e
    obtain ⟨sl, k1, k2⟩ := S'.sim b ob e
    exact ⟨sl, (hs.2 b fun q => by rw (occs := .all) [q, S.newL] at e; cases e).trans k1, k2⟩
  · intro b ob e
    exact (hs.2 b fun q => by rw (occs := .all) [q] at e; have := (S.baseOld _ _ e).1; rw (occs := .all) [S.newL] at this; cases this).trans (S'.stays b ob e)
  · obtain ⟨hk, ⟨L', o', hf, hn', _⟩, hr⟩ := S'.frames
    obtain rfl : f.L = L' := Option.some.inj hf
    refine Heap.FunFrames.cons hk rfl hn hn' (frames_keep hr fun e he b hb o ho => ?_)
    exact (hs.2 b fun q => by obtain ⟨o2, ho2⟩ := S.badOld b (S.badFr e he b hb); rw (occs := .all) [q, S.newL] at ho2; cases ho2).trans ho
  · rcases own b q with q | q
    · rw (occs := .all) [q]; exact S.old ha
    · exact S.ownNew b q
end
noncomputable def evn (w : World) (n : Nat) (σ : Scope) (e : Expr) (ρ : PEnv) (Q : PEnv → List PV → Prop) (X : Exc → Prop) : Prop :=
  ∀ (f : Fm) (s : Shared) (m : Str → Option Value) (QV EV : Value → Shared → Prop), f.Ok w n σ → St w f ρ m s.heap →
    (∀ ρ' l a o vs k h0 h' tk', St w f ρ' m h0 → h0.get? a = none → Grows h0 h' → h'.get? a = some o → Cl o "list" → o.data = .seq vs k → RdL w h0 (f.badAt ρ' m) vs.toList l → Q ρ' l → QV (.ref a) (upd s h' tk')) →
    (∀ x a h' tk', Fly f a x h' → X x → EV (.ref a) (upd s h' tk')) →
    wpAny (model prg w) f.A (eval e f.env) QV EV s
section
variable {w : World} {n : Nat} {σ : Scope} {ρ : PEnv} {X : Exc → Prop}
theorem ev_of_evn {e : Expr} {Q : PEnv → PV → Prop} (h : evn w n σ e ρ (fun ρ' l => Q ρ' (.lst l)) X) : ev w n σ e ρ Q X :=
  fun f s m QV EV O S K E => h f s m QV EV O S (fun ρ' l a o vs k h0 h' tk' S0 ha g ho c d r q => K ρ' _ _ h' tk' (S0.grow g) (.lst ho c d (fun z => by
    obtain ⟨o2, e2⟩ := S0.badThere z
    rw (occs := .all) [ha] at e2; cases e2) (r.grow g)) q) E
theorem evn_list {es : List Expr} {pos : Pos} {Q : PEnv → List PV → Prop} (h : evs w n σ es ρ (fun ρ1 ps => ps.length ≤ sizeLine ∧ Q ρ1 ps) X) : evn w n σ (.List es pos) ρ Q X := by
  intro f s m QV EV O S K E
  refine List_ (h f s m pos _ EV O S (fun ρ' ps vs h' tk' S' r k => ?_) E)
  refine wpAny_newObj_type ?_ (by show vs.toArray.size ≤ sizeLine; rw [List.size_toArray]; exact r.length ▸ k.1)
  exact K ρ' ps _ _ vs.toArray _ h' _ _ S' (Heap.get?_none_of_le (Nat.le_refl _)) (grows_push _ _) (Heap.get?_push_size _ rfl) ⟨rfl, rfl⟩ rfl (by simpa using r) k.2
theorem ex_assignO {x : Str} {pos' pos : Pos} {value : Expr} {N : PEnv → Prop} {k : Ks} (h : evn w n σ value ρ (fun ρ1 l => ∃ ρ2, Put x (.own l) ρ1 ρ2 ∧ N ρ2) X) (hx : σ.names.lookup x = some .local := by kernel_rfl)
    (hs : ∀ env, swapsWith value (some (.Name x pos')) pos.line env = pure false := by intro _; with_unfolding_all rfl) : ex w n σ (.Assign [.Name x pos'] value pos) ρ N k X := by
  intro f s m QV EV O S C E
  have hsc := O.sc
  subst hsc
  refine wpAny_Assign_Name (h f s m _ EV O S (fun ρ1 l a o vs kk h0 h1 tk1 S0 ha g ho c d r q => ?_) E) (hs _)
  obtain ⟨ρ2, hp, q⟩ := q
  refine wpAny_storeName_local (m := m) hx (S0.grow g).ns (fun h2 hn hs => ?_) (storeSide O)
  exact C ρ2 _ .next .next h2 _ (S0.storeO ha g ho c d r hp hn hs) trivial q
theorem ev_own {x : Str} {pos : Pos} {l : List PV} {ρ' : PEnv} {Q : PEnv → PV → Prop} (hl : Lk x (.own l) ρ) (hp : Put x (.fz (.lst l)) ρ ρ') (h : Q ρ' (.lst l)) (hx : σ.names.lookup x = some .local := by kernel_rfl) (hd : (x == ("__debug__" : Str)) = false := by kernel_rfl) : ev w n σ (.Name x pos) ρ Q X := by
  intro f s m QV EV O S K E
  obtain ⟨S', v, h1, h2⟩ := S.freeze hl.eq hp
  have hsc := O.sc
  subst hsc
  exact wpAny_Name (wpAny_loadName_local O.kind hx S.ns h1 (K ρ' _ v s.heap s.toks S' h2 h)) hd
theorem evb_own {x : Str} {pos : Pos} {l : List PV} {Q : PEnv → Bool → Prop} (hl : Lk x (.own l) ρ) (hs : l.length ≤ sizeLine) (h : Q ρ (!l.isEmpty)) (hx : σ.names.lookup x = some .local := by kernel_rfl) (hd : (x == ("__debug__" : Str)) = false := by kernel_rfl) : evb w n σ (.Name x pos) ρ Q X := by
  intro f s m QV EV O S K E
  obtain ⟨a, o, vs, k, h1, h2, h3, h4, h5⟩ := S.bnd x _ hl.eq
  have hsc := O.sc
  subst hsc
  have e1 : vs.size = l.length := by rw [← h5.length, Array.length_toList]
  refine wpAny_isTrue_value (wpAny_Name (wpAny_loadName_local O.kind hx S.ns h1 ?_) hd) rfl
  refine wpAny_truthy_list ⟨_, h2, h3.cls, _, h4⟩ (by rw [e1]; exact lt63 hs) ?_
  have e2 : vs.isEmpty = l.isEmpty := by
    cases l with
    | nil => have : vs = #[] := Array.eq_empty_of_size_eq_zero e1; rw [this]; rfl
    | cons p l => rw (occs := .all) [List.length_cons] at e1; simp [Array.isEmpty, e1]
  rw (occs := .all) [e2]
  exact K ρ _ s.heap _ S h
theorem ev_len_own {x : Str} {np px pos : Pos} {l : List PV} {Q : PEnv → PV → Prop} (hg : ∀ P, nsIn (hp P) mainGlobals ("len" : Str) = some none) (hl : Lk x (.own l) ρ) (hs : l.length ≤ sizeLine) (h : Q ρ (.int l.length))
    (hx : σ.names.lookup x = some .local := by kernel_rfl) (hd : (x == ("__debug__" : Str)) = false := by kernel_rfl) (hlen : σ.names.lookup ("len" : Str) = some .globalImplicit := by decide +kernel) : ev w n σ (.Call (.Name "len" np) [.Name x px] [] pos) ρ Q X := by
  intro f s m QV EV O S K E
  obtain ⟨a, o, vs, k, h1, h2, h3, h4, h5⟩ := S.bnd x _ hl.eq
  refine Call_ (load_boot O S (hg _) (v := .builtin "len") (by decide +kernel) (by decide +kernel) ?_ hlen (by decide +kernel))
  have hsc := O.sc
  subst hsc
  have e1 : vs.size = l.length := by rw [← h5.length, Array.length_toList]
  refine PyProof.Rows.callWith_builtin1 (args_cons (wpAny_Name (wpAny_loadName_local O.kind hx S.ns h1 (args_nil ?_)) hd) rfl) rfl rfl
  refine len_list ⟨_, h2, h3.cls, _, h4⟩ (by rw [e1]; exact lt63 hs) ?_
  rw (occs := .all) [e1]
  exact K ρ _ _ s.heap _ S (.int _ _) h
theorem ex_append {x : Str} {px ap cp pos : Pos} {e : Expr} {l0 : List PV} {N : PEnv → Prop} {k : Ks} (hl0 : Lk x (.own l0) ρ)
    (h : ev w n σ e ρ (fun ρ1 p => ∃ l, Lk x (.own l) ρ1 ∧ l.length ≤ sizeLine ∧ ∃ ρ2, Put x (.own (l ++ [p])) ρ1 ρ2 ∧ N ρ2) X) (hx : σ.names.lookup x = some .local := by kernel_rfl) (hd : (x == ("__debug__" : Str)) = false := by kernel_rfl)
    (hst : ∀ env, starEach [e] env = [(false, eval e env)] := by intro _; with_unfolding_all rfl) (hline : (ap.endLine == cp.line) = true := by with_unfolding_all rfl) : ex w n σ (.Expr (.Call (.Attribute (.Name x px) "append" ap) [e] [] cp) pos) ρ N k X := by
  intro f s m QV EV O S K E
  obtain ⟨a, o, vs, kk, h1, h2, h3, h4, h5⟩ := S.bnd x _ hl0.eq
  have hsc := O.sc
  subst hsc
  refine wpAny_Expr ?_ ?_ rfl
  · refine Call_method1 (by rfl) (hst _) hline (wpAny_Name (wpAny_loadName_local O.kind hx S.ns h1 ?_) hd)
    refine ⟨"list", "list.append", PySem.F.plainAttrs_list, PySem.F.slot_list_append, PySem.F.type_list_append, ⟨_, h2, h3.cls⟩, fun b e => by cases e; exact ⟨_, h2, h3.dict⟩, ?_⟩
    refine Calls.callWith_builtin rfl (Calls.evalArgs_plain (Calls.spliced_cons (h f s m _ EV O S (fun ρ1 p v h' tk' S1 r1 k1 => Calls.spliced_nil ?_) E)))
    obtain ⟨l, hl, hs, ρ2, hp, q⟩ := k1
    obtain ⟨a', o', vs', k', g1, g2, g3, g4, g5⟩ := S1.bnd x _ hl.eq
    rw (occs := .all) [h1] at g1; cases g1
    have e1 : vs'.size = l.length := by rw [← g5.length, Array.length_toList]
    refine wpAny_call_entry PySem.F.slot_list_append ⟨_, g2, g3.cls⟩ PySem.F.entry_list_append ?_ (PySem.F.args_list_append_2 _ _)
    show wpAny _ _ (updateSeq a (·.push v) >>= fun _ => ret .none) _ _ _
    refine wpAny_bind (wpAny_updateSeq g2 g4 (wpAny_pure ⟨.none, rfl, ?_⟩) (by rw [e1]; exact hs) (by rw [Array.size_push, e1]; omega))
    obtain ⟨n', hd'⟩ := Obj.data_mapSeq g4 (·.push v)
    have S2 := S1.mutate (l' := l ++ [p]) hl.eq h1 (Heap.SameBut.update ..) (Heap.get?_update_self _ g2 (Obj.isFreed_of_seq hd')) ⟨(Obj.cls_mapSeq ..).trans g3.cls, (dict_mapSeq ..).trans g3.dict⟩ hd'
      (by rw [Array.toList_push]; exact g5.append (.cons r1 .nil)) hp
    exact K ρ2 _ .next .next _ _ S2.1 trivial q
  · show (f.scope.kind == .module && _) = false
    rw (occs := .all) [O.kind]; rfl
end
section
open Builtin Builtin.Str
section
variable {w : World} {n : Nat} {σ : Scope} {ρ : PEnv} {X : Exc → Prop}
theorem erase_last (vs : Array Value) : (vs.eraseIdxIfInBounds (vs.size - 1)).toList = vs.toList.dropLast := by
  unfold Array.eraseIdxIfInBounds
  split
  · rw (occs := .all) [Array.toList_eraseIdx, List.dropLast_eq_take, List.eraseIdx_eq_take_drop_succ]
    simp
    omega
  · rename_i q
    have : vs.size = 0 := by omega
    have e : vs = #[] := Array.eq_empty_of_size_eq_zero this
    rw (occs := .all) [e]; rfl
theorem pop_any {A : Around} {E : Value → Shared → Prop} {s : Shared} {l : Addr} {o : Obj} {items : Array Value} {k : Nat} {y : Value} {Q : Value → Shared → Prop} (ho : s.heap.get? l = some o) (hc : o.cls = .type "list") (hd : o.data = .seq items k)
    (hy : items[items.size - 1]? = some y) (hs1 : items.size ≤ sizeLine) (h : Q y { s with heap := s.heap.update l (Obj.mapSeq fun xs => xs.eraseIdxIfInBounds (items.size - 1)) }) : wpAny (model prg w) A (call (.builtin "list.pop") [.ref l]) Q E s := by
  refine wpAny_call_entry PySem.F.slot_list_pop ⟨_, ho, hc⟩ PySem.F.entry_list_pop ?_ (PySem.F.args_list_pop_1 _)
  obtain ⟨hp, g, d, tk, os⟩ := s
  obtain ⟨oc, od, odt, osl⟩ := o
  dsimp only at hc hd
  subst hc hd
  have hpos : 0 < items.size := by
    rcases Nat.eq_zero_or_pos items.size with h0 | h0
    · simp [h0] at hy
    · exact h0
  have hne : ¬ items.isEmpty = true := by
    intro he; have : items.size = 0 := by simpa using he
    omega
  have hk : seqIndex? (-1) items.size = some (items.size - 1) := by
    rw (occs := .all) [seqIndex_neg (by omega) (by omega)]; congr 1; omega
  wp_walk using wpAny_loadPart' ho
  simp only [hk, hy, Option.bind_some, Option.map_some]
  have hz' : (items.eraseIdxIfInBounds (items.size - 1)).size ≤ sizeLine + 1 := by rw [← Array.length_toList, erase_last, List.length_dropLast, Array.length_toList]; omega
  wp_walk using (wpAny_updateSeq ho rfl (hz := hs1) (_hz' := hz')), wpAny_loadPart' ho
  exact ⟨_, rfl, h⟩
theorem ev_pop {x : Str} {px ap cp : Pos} {l : List PV} {p : PV} {ρ' : PEnv} {Q : PEnv → PV → Prop} (hl : Lk x (.own (l ++ [p])) ρ) (hs : l.length < sizeLine) (hp : Put x (.own l) ρ ρ') (h : Q ρ' p)
    (hx : σ.names.lookup x = some .local := by kernel_rfl) (hd : (x == ("__debug__" : Str)) = false := by kernel_rfl) (hline : (ap.endLine == cp.line) = true := by with_unfolding_all rfl) : ev w n σ (.Call (.Attribute (.Name x px) "pop" ap) [] [] cp) ρ Q X := by
  intro f s m QV EV O S K E
  obtain ⟨a, o, vs, kk, h1, h2, h3, h4, h5⟩ := S.bnd x _ hl.eq
  have hsc := O.sc
  subst hsc
  have e1 : vs.size = l.length + 1 := by rw [← Array.length_toList, h5.length, List.length_append]; rfl
  obtain ⟨v, hv, rv⟩ := h5.get (i := l.length) (p := p) (by simp)
  refine Call_method0 (by rfl) hline (wpAny_Name (wpAny_loadName_local O.kind hx S.ns h1 ?_) hd)
  refine ⟨"list", "list.pop", PySem.F.plainAttrs_list, PySem.F.slot_list_pop, PySem.F.type_list_pop, ⟨_, h2, h3.cls⟩, fun b e => by cases e; exact ⟨_, h2, h3.dict⟩, ?_⟩
  refine Calls.callWith_builtin rfl (PyProof.Rows.evalArgs_none ?_)
  refine pop_any h2 h3.cls h4 (y := v) (by rw [e1, ← Array.getElem?_toList]; exact hv) (by omega) ?_
  obtain ⟨n', hd'⟩ := Obj.data_mapSeq h4 (fun xs => xs.eraseIdxIfInBounds (vs.size - 1))
  have hr : RdL w s.heap (f.badAt ρ m) (vs.eraseIdxIfInBounds (vs.size - 1)).toList l := by
    rw (occs := .all) [erase_last, List.dropLast_eq_take]
    have := h5.take (vs.toList.length - 1)
    rw (occs := .all) [show (vs.toList.length - 1) = l.length by rw [Array.length_toList, e1]; rfl] at this ⊢
    rw (occs := .all) [List.take_append_of_le_length (Nat.le_refl _), List.take_length] at this
    exact this
  obtain ⟨S2, mv⟩ := S.mutate (l' := l) hl.eq h1 (Heap.SameBut.update ..) (Heap.get?_update_self _ h2 (Obj.isFreed_of_seq hd')) ⟨(Obj.cls_mapSeq ..).trans h3.cls, (dict_mapSeq ..).trans h3.dict⟩ hd' hr hp
  exact K ρ' p v _ s.toks S2 (mv _ _ rv) h
theorem evn_from_own {x : Str} {px sp pos : Pos} {lo : Expr} {Q : PEnv → List PV → Prop} {l0 : List PV} (hl0 : Lk x (.own l0) ρ)
    (h : ev w n σ lo ρ (fun ρ1 q => ∃ l, ∃ i : Nat, Lk x (.own l) ρ1 ∧ q = .int i ∧ l.length ≤ sizeLine ∧ Q ρ1 (l.drop i)) X) (hx : σ.names.lookup x = some .local := by kernel_rfl) (hd : (x == ("__debug__" : Str)) = false := by kernel_rfl) :
    evn w n σ (.Subscript (.Name x px) (.Slice (some lo) none none sp) pos) ρ Q X := by
  intro f s m QV EV O S K E
  obtain ⟨a, o, vs, kk, h1, h2, h3, h4, h5⟩ := S.bnd x _ hl0.eq
  have hsc := O.sc
  subst hsc
  refine wpAny_Subscript_list_slice (wpAny_Name (wpAny_loadName_local O.kind hx S.ns h1 (wpAny_evalPart_some (h f s m _ EV O S (fun ρ1 q v h' tk' S1 r1 k1 => wpAny_evalPart_none ?_) E))) hd)
  obtain ⟨l, i, hl, rfl, hs, q⟩ := k1
  obtain ⟨a', o', vs', k', g1, g2, g3, g4, g5⟩ := S1.bnd x _ hl.eq
  rw (occs := .all) [h1] at g1; cases g1
  obtain ⟨_, rfl⟩ := r1.i
  rename_i t
  have e1 : vs'.size = l.length := by rw [← g5.length, Array.length_toList]
  refine ⟨a, vs', some (i : Int), none, rfl, ⟨_, g2, g3.cls, _, g4⟩, by rw [e1]; exact hs, .int _ _, .none, ?_⟩
  have hg := Heap.get?_push_size (h'.push { cls := .type "slice", data := .fields #[.int i t, .none, .none] }) (o := { cls := .type "list", data := .seq (slicePick vs' (some (i : Int)) none none) }) rfl
  rw (occs := .all) [Heap.size_push] at hg
  refine K ρ1 (l.drop i) _ _ _ _ h' _ tk' S1 (Heap.get?_none_of_le (Nat.le_succ _)) (fun b o e => Heap.get?_push_of_some _ (Heap.get?_push_of_some _ e)) hg ⟨rfl, rfl⟩ rfl ?_ q
  rw (occs := .all) [slicePick_from']
  exact g5.drop i
theorem evn_upto_own {x : Str} {px sp pos : Pos} {hi : Expr} {Q : PEnv → List PV → Prop} {l0 : List PV} (hl0 : Lk x (.own l0) ρ)
    (h : ev w n σ hi ρ (fun ρ1 q => ∃ l, ∃ i : Nat, Lk x (.own l) ρ1 ∧ q = .int i ∧ l.length ≤ sizeLine ∧ Q ρ1 (l.take i)) X) (hx : σ.names.lookup x = some .local := by kernel_rfl) (hd : (x == ("__debug__" : Str)) = false := by kernel_rfl) :
    evn w n σ (.Subscript (.Name x px) (.Slice none (some hi) none sp) pos) ρ Q X := by
  intro f s m QV EV O S K E
  obtain ⟨a, o, vs, kk, h1, h2, h3, h4, h5⟩ := S.bnd x _ hl0.eq
  have hsc := O.sc
  subst hsc
  refine wpAny_Subscript_list_slice (wpAny_Name (wpAny_loadName_local O.kind hx S.ns h1 (wpAny_evalPart_none (wpAny_evalPart_some (h f s m _ EV O S (fun ρ1 q v h' tk' S1 r1 k1 => ?_) E)))) hd)
  obtain ⟨l, i, hl, rfl, hs, q⟩ := k1
  obtain ⟨a', o', vs', k', g1, g2, g3, g4, g5⟩ := S1.bnd x _ hl.eq
  rw (occs := .all) [h1] at g1; cases g1
  obtain ⟨_, rfl⟩ := r1.i
  rename_i t
  have e1 : vs'.size = l.length := by rw [← g5.length, Array.length_toList]
  refine ⟨a, vs', none, some (i : Int), rfl, ⟨_, g2, g3.cls, _, g4⟩, by rw [e1]; exact hs, .none, .int _ _, ?_⟩
  have hg := Heap.get?_push_size (h'.push { cls := .type "slice", data := .fields #[.none, .int i t, .none] }) (o := { cls := .type "list", data := .seq (slicePick vs' none (some (i : Int)) none) }) rfl
  rw (occs := .all) [Heap.size_push] at hg
  refine K ρ1 (l.take i) _ _ _ _ h' _ tk' S1 (Heap.get?_none_of_le (Nat.le_succ _)) (fun b o e => Heap.get?_push_of_some _ (Heap.get?_push_of_some _ e)) hg ⟨rfl, rfl⟩ rfl ?_ q
  rw (occs := .all) [slicePick_upto']
  exact g5.take i
theorem evn_upto {value : Expr} {sp pos : Pos} {hi : Expr} {Q : PEnv → List PV → Prop}
    (h : ev w n σ value ρ (fun ρ1 p => ev w n σ hi ρ1 (fun ρ2 q => ∃ l, ∃ i : Nat, p = .lst l ∧ q = .int i ∧ l.length ≤ sizeLine ∧ Q ρ2 (l.take i)) X) X) (ht : ∀ o r, letTemporaryGo value o r = pure () := by intro _ _; with_unfolding_all rfl) :
    evn w n σ (.Subscript value (.Slice none (some hi) none sp) pos) ρ Q X := by
  intro f s m QV EV O S K E
  refine wpAny_Subscript_list_slice (h f s m _ EV O S (fun ρ1 p v h1 tk1 S1 r1 k1 => wpAny_evalPart_none (wpAny_evalPart_some (k1 (f.re ρ1 m h1) (upd s h1 tk1) m _ EV O.re S1.re (fun ρ2 q vq h2 tk2 S2 r2 k2 => ?_) (fun x a h' tk' F q => E x a h' tk' (F.back S1) q)))) E) ht
  obtain ⟨l, i, rfl, rfl, hs, q⟩ := k2
  have r1' := S1.keepRd S2 r1
  obtain ⟨_, rfl⟩ := r2.i
  rename_i t
  obtain ⟨a, o, vs, k, rfl, e, c, d, nb, rs⟩ := r1'.i
  have e1 : vs.size = l.length := by rw [← rs.length, Array.length_toList]
  refine ⟨a, vs, none, some (i : Int), rfl, ⟨_, e, c.cls, _, d⟩, by rw [e1]; exact hs, .none, .int _ _, ?_⟩
  have hg := Heap.get?_push_size (h2.push { cls := .type "slice", data := .fields #[.none, .int i t, .none] }) (o := { cls := .type "list", data := .seq (slicePick vs none (some (i : Int)) none) }) rfl
  rw (occs := .all) [Heap.size_push] at hg
  refine K ρ2 (l.take i) _ _ _ _ h2 _ tk2 (S1.back S2) (Heap.get?_none_of_le (Nat.le_succ _)) (fun b o e => Heap.get?_push_of_some _ (Heap.get?_push_of_some _ e)) hg ⟨rfl, rfl⟩ rfl ?_ q
  rw (occs := .all) [slicePick_upto']
  exact rs.take i
noncomputable def cut (x : Str) (i j : Nat) : Str := ⟨((x.cps.toList.drop i).take (j - i)).toArray⟩
theorem cut_length (x : Str) (i j : Nat) : (cut x i j).length ≤ x.length := by
  show ((x.cps.toList.drop i).take (j - i)).toArray.size ≤ x.cps.size
  rw (occs := .all) [List.size_toArray, List.length_take, List.length_drop, Array.length_toList]; omega
theorem ev_sliceS {value lo hi : Expr} {sp pos : Pos} {Q : PEnv → PV → Prop}
    (h : ev w n σ value ρ (fun ρ1 p => ev w n σ lo ρ1 (fun ρ2 a => ev w n σ hi ρ2 (fun ρ3 b => ∃ x, ∃ i j : Nat, p = .str x ∧ a = .int i ∧ b = .int j ∧ i ≤ j ∧ j ≤ x.length ∧ x.length ≤ sizeLine ∧ Q ρ3 (.str (cut x i j))) X) X) X)
    (ht : ∀ o r, letTemporaryGo value o r = pure () := by intro _ _; with_unfolding_all rfl) : ev w n σ (.Subscript value (.Slice (some lo) (some hi) none sp) pos) ρ Q X := by
  intro f s m QV EV O S K E
  refine wpAny_Subscript_str_slice (h f s m _ EV O S (fun ρ1 p v h1 tk1 S1 r1 k1 => wpAny_evalPart_some (k1 f (upd s h1 tk1) m _ EV O S1 (fun ρ2 a va h2 tk2 S2 r2 k2 =>
    wpAny_evalPart_some (k2 f (upd s h2 tk2) m _ EV O S2 (fun ρ3 b vb h3 tk3 S3 r3 k3 => ?_) (fun x a h' tk' F q => E x a h' tk' F q))) (fun x a h' tk' F q => E x a h' tk' F q))) E) ht
  obtain ⟨x, i, j, rfl, rfl, rfl, hij, hj, hs, q⟩ := k3
  obtain ⟨_, rfl⟩ := r1.i; obtain ⟨_, rfl⟩ := r2.i; obtain ⟨_, rfl⟩ := r3.i
  rename_i t u1 u2
  refine ⟨x, t, some ((i : Int), u1), some ((j : Int), u2), rfl, rfl, rfl, ?_⟩
  have S4 := S3.grow (grows_push h3 { cls := .type "slice", data := .fields #[.int i u1, .int j u2, .none] })
  unfold sliceMade
  have e1 : slicePicked x (some ((i : Int), u1)) (some ((j : Int), u2)) none = strSliceIndices (some (i : Int)) (some (j : Int)) 1 x.length := rfl
  rw (occs := .all) [e1]
  split
  · rename_i c
    rw (occs := .all) [Bool.and_eq_true] at c
    have c2 : (strSliceIndices (some (i : Int)) (some (j : Int)) 1 x.length).length = x.length := by simpa using c.2
    have hl : (strSliceIndices (some (i : Int)) (some (j : Int)) 1 x.length).length = j - i := by
      have h0 := StrLaws.strSliceIndices_plain (len := x.length) hij hj
      rw (occs := .all) [h0]; simp
    rw (occs := .all) [hl] at c2
    have hi0 : i = 0 := by omega
    have hjx : j = x.length := by omega
    have ex : cut x i j = x := by
      subst hi0
      unfold cut
      rw (occs := .all) [List.drop_zero, hjx, Nat.sub_zero]
      have : x.cps.toList.take x.length = x.cps.toList := List.take_of_length_le (by rw [Array.length_toList]; exact Nat.le_refl _)
      rw (occs := .all) [this]
    rw (occs := .all) [ex] at q
    exact K ρ3 (.str x) _ _ tk3 S4 (.str x t) q
  · rw (occs := .all) [StrLaws.sliced_plain x hij hj]
    refine ⟨?_, K ρ3 (.str (cut x i j)) _ _ (tk3 + 1) S4 (.str _ _) q⟩
    exact Nat.le_trans (cut_length x i j) hs
end
end
section
open Builtin Builtin.Str
mutual
noncomputable def PV.flat : PV → Bool
  | .tup l => PV.flatL l
  | .lst l => PV.flatL l
  | .dic _ => false
  | _ => true
noncomputable def PV.flatL : List PV → Bool
  | [] => true
  | p :: r => p.flat && PV.flatL r
end
section
variable {P : World} {bad bad' : Addr → Prop} {h h' : Heap}
mutual
theorem Rd.moveF {v : Value} {p : PV} (r : Rd P h bad v p) (hf : p.flat = true) (k : ∀ a o, h.get? a = some o → ¬ bad a → (o.cls = .type "tuple" ∨ o.cls = .type "list") → h'.get? a = some o ∧ ¬ bad' a) : Rd P h' bad' v p := by
  cases r with
  | none => exact .none
  | bool b => exact .bool b
  | int i t => exact .int i t
  | str x t => exact .str x t
  | tup e c d n l => exact .tup (k _ _ e n (.inl c.cls)).1 c d (k _ _ e n (.inl c.cls)).2 (RdL.moveF l (by rw (occs := .all) [PV.flat] at hf; exact hf) k)
  | lst e c d n l => exact .lst (k _ _ e n (.inr c.cls)).1 c d (k _ _ e n (.inr c.cls)).2 (RdL.moveF l (by rw (occs := .all) [PV.flat] at hf; exact hf) k)
  | dic e c d n l => rw (occs := .all) [PV.flat] at hf; cases hf
theorem RdL.moveF {vs : List Value} {ps : List PV} (r : RdL P h bad vs ps) (hf : PV.flatL ps = true) (k : ∀ a o, h.get? a = some o → ¬ bad a → (o.cls = .type "tuple" ∨ o.cls = .type "list") → h'.get? a = some o ∧ ¬ bad' a) : RdL P h' bad' vs ps := by
  cases r with
  | nil => exact .nil
  | cons a b =>
    rw (occs := .all) [PV.flatL, Bool.and_eq_true] at hf
    exact .cons (Rd.moveF a hf.1 k) (RdL.moveF b hf.2 k)
end
noncomputable def flatD : List (Str × PV) → Bool
  | [] => true
  | (_, p) :: r => p.flat && flatD r
theorem RdD.moveF {vs : List (Str × Value)} {ps : List (Str × PV)} (r : RdD P h bad vs ps) (hf : flatD ps = true) (k : ∀ a o, h.get? a = some o → ¬ bad a → (o.cls = .type "tuple" ∨ o.cls = .type "list") → h'.get? a = some o ∧ ¬ bad' a) : RdD P h' bad' vs ps := by
  induction vs generalizing ps with
  | nil => cases r; exact .nil
  | cons v vs ih =>
    cases r with
    | cons a b =>
      rw (occs := .all) [flatD, Bool.and_eq_true] at hf
      exact .cons (Rd.moveF a hf.1 k) (ih b hf.2)
theorem RdD.keys {vs : List (Str × Value)} {ps : List (Str × PV)} (r : RdD P h bad vs ps) : vs.map (·.1) = ps.map (·.1) := by
  induction vs generalizing ps with
  | nil => cases r; rfl
  | cons v vs ih => cases r with | cons a b => simp only [List.map_cons, ih b]
theorem RdD.at {vs : List (Str × Value)} {ps : List (Str × PV)} {x : Str} {p : PV} (r : RdD P h bad vs ps) (e : ps.lookup x = some p) : ∃ v, valueAt vs x = some v ∧ Rd P h bad v p := by
  induction vs generalizing ps with
  | nil => cases r; cases e
  | cons v vs ih =>
    cases r with
    | cons a b =>
      rename_i y v p' ps'
      rw (occs := .all) [List.lookup_cons] at e
      by_cases q : x = y
      · subst q
        simp only [beq_self_eq_true, Option.some.injEq] at e
        subst e
        exact ⟨v, by simp [valueAt], a⟩
      · have q' : (x == y) = false := by simpa using q
        rw (occs := .all) [q'] at e
        obtain ⟨v', h1, h2⟩ := ih b e
        refine ⟨v', ?_, h2⟩
        have : ¬ y = x := fun z => q z.symm
        simp only [valueAt, List.find?_cons, this, decide_false] at h1 ⊢
        exact h1
theorem RdD.none {vs : List (Str × Value)} {ps : List (Str × PV)} {x : Str} (r : RdD P h bad vs ps) (e : ps.lookup x = none) : valueAt vs x = none := by
  induction vs generalizing ps with
  | nil => rfl
  | cons v vs ih =>
    cases r with
    | cons a b =>
      rename_i y v p' ps'
      rw (occs := .all) [List.lookup_cons] at e
      by_cases q : x = y
      · subst q; simp at e
      · have q' : (x == y) = false := by simpa using q
        rw (occs := .all) [q'] at e
        have h1 := ih b e
        have : ¬ y = x := fun z => q z.symm
        simp only [valueAt, List.find?_cons, this, decide_false] at h1 ⊢
        exact h1
end
noncomputable def RdP (P : World) (h : Heap) (bad : Addr → Prop) (vs : List (Value × Value)) (l : List (Str × PV)) : Prop := allStrKeys vs = true ∧ RdD P h bad (strPairs vs) l
noncomputable def evp (w : World) (n : Nat) (σ : Scope) (keys : List (Option Expr)) (vals : List Expr) (ρ : PEnv) (Q : PEnv → List (Str × PV) → Prop) (X : Exc → Prop) : Prop :=
  ∀ (f : Fm) (s : Shared) (m : Str → Option Value) (pos : Pos) (QV : List (Value × Value) → Shared → Prop) (EV : Value → Shared → Prop), f.Ok w n σ → St w f ρ m s.heap →
    (∀ ρ' l vs h' tk', St w f ρ' m h' → RdP w h' (f.badAt ρ' m) vs l → Q ρ' l → QV vs (upd s h' tk')) →
    (∀ x a h' tk', Fly f a x h' → X x → EV (.ref a) (upd s h' tk')) →
    wpAny (model prg w) f.A (evalPairs (pairTrees keys vals f.env pos)) QV EV s
noncomputable def noOwn : PEnv → Bool
  | [] => true
  | (_, .fz _) :: r => noOwn r
  | (_, .own _) :: _ => false
theorem noOwn_at : ∀ {ρ : PEnv}, noOwn ρ = true → ∀ {x : Str} {l : List PV}, ρ.lookup x ≠ some (.own l)
  | [], _, _, _, e => by cases e
  | (y, .fz p) :: r, h, x, l, e => by
    rw (occs := .all) [List.lookup_cons] at e
    split at e
    · cases e
    · exact noOwn_at (ρ := r) h e
section
variable {w : World} {n : Nat} {σ : Scope} {ρ : PEnv} {X : Exc → Prop}
theorem evp_nil {Q : PEnv → List (Str × PV) → Prop} (h : Q ρ []) : evp w n σ [] [] ρ Q X :=
  fun f s m pos QV EV O S K E => pairTrees_nil_walk (K ρ [] [] s.heap s.toks S ⟨rfl, .nil⟩ h)
theorem evp_cons {x : Str} {k : Nat} {kp : Pos} {v : Expr} {ks : List (Option Expr)} {vs : List Expr} {Q : PEnv → List (Str × PV) → Prop}
    (h : ev w n σ v ρ (fun ρ1 p => evp w n σ ks vs ρ1 (fun ρ2 l => Q ρ2 ((x, p) :: l)) X) X) : evp w n σ (some (.Constant (.str x) k kp) :: ks) (v :: vs) ρ Q X := by
  intro f s m pos QV EV O S K E
  refine pairTrees_cons_walk (wpAny_Constant_str (h f _ m _ EV O S (fun ρ1 p vv h1 tk1 S1 r1 k1 => ?_) (fun x a h' tk' F q => E x a h' tk' F q)))
  exact k1 (f.re ρ1 m h1) (upd s h1 tk1) m pos _ EV O.re S1.re (fun ρ2 l vs h2 tk2 S2 r2 q => K ρ2 _ _ h2 tk2 (S1.back S2) ⟨r2.1, .cons (S1.keepRd S2 r1) r2.2⟩ q)
    (fun x a h' tk' F q => E x a h' tk' (F.back S1) q)
theorem St.butNew {f : Fm} {m : Str → Option Value} {h h2 h3 : Heap} {a : Addr} (S : St w f ρ m h) (T : St w f ρ m h2) (hno : noOwn ρ = true) (ha : h.get? a = none)
    (kp : ∀ b o, h.get? b = some o → ¬ f.badAt ρ m b → h2.get? b = some o) (hs : Heap.SameBut a h2 h3) : St w f ρ m h3 := by
  have ha0 : f.h₀ a = none := S.old ha
  have neL : f.L ≠ a := fun q => by
    obtain ⟨o, _, _, e, _⟩ := S.ns
    rw (occs := .all) [q, ha] at e; cases e
  refine ⟨?_, fun x b e => ?_, S.inj, ?_, ?_, ?_, S.newL, S.ownNew, S.badOld, S.badFr, S.baseOld⟩
  · obtain ⟨o, es, ep, ho, r⟩ := T.ns
    exact ⟨o, es, ep, (hs.2 _ neL).trans ho, r⟩
  · cases b with
    | own l => exact (noOwn_at hno e).elim
    | fz p =>
      obtain ⟨v, h1, r⟩ := S.bnd x _ e
      exact ⟨v, h1, r.move fun b o e n _ => ⟨(hs.2 b fun q => by rw (occs := .all) [q, ha] at e; cases e).trans (kp b o e n), n⟩⟩
  · intro b o e
    obtain ⟨sl, h1, h2⟩ := T.sim b o e
    exact ⟨sl, (hs.2 b fun q => by rw (occs := .all) [q, ha0] at e; cases e).trans h1, h2⟩
  · intro b o e
    exact (hs.2 b fun q => by have := (S.baseOld b o e).1; rw (occs := .all) [q, ha0] at this; cases this).trans (T.stays b o e)
  · obtain ⟨hk, ⟨L', oL, hf, hn', ho', hd'⟩, hr⟩ := T.frames
    obtain rfl : f.L = L' := Option.some.inj hf
    refine ⟨hk, ⟨f.L, oL, hf, hn', (hs.2 _ neL).trans ho', hd'⟩, frames_keep hr fun e he b hb o ho => (hs.2 b fun q => ?_).trans ho⟩
    obtain ⟨o2, ho2⟩ := S.badOld b (S.badFr e he b hb)
    rw (occs := .all) [q, ha0] at ho2; cases ho2
theorem ev_dict {keys : List (Option Expr)} {values : List Expr} {pos : Pos} {Q : PEnv → PV → Prop} (hno : noOwn ρ = true)
    (h : evp w n σ keys values ρ (fun ρ1 l => ρ1 = ρ ∧ flatD l = true ∧ (l.map (·.1)).Nodup ∧ Q ρ (.dic l)) X)
    (hall : keys.all (·.isSome) = true := by with_unfolding_all rfl) (hl : keys.length = values.length := by with_unfolding_all rfl) (h0 : keys ≠ [] := by exact List.cons_ne_nil _ _) (hlen : keys.length ≤ 15 := by decide) : ev w n σ (.Dict keys values pos) ρ Q X := by
  intro f s m QV EV O S K E
  obtain ⟨loose, mean, mg, mb, T⟩ := O.bs.t
  have hbig : sysModules < s.heap.objs.size := modules_low (T.nolimit.keeps S.stays)
  refine wpAny_Dict_walk (knd := strKind prg w) hall hl h0 hlen ?_
  have g1 := grows_push s.heap { cls := .type "dict", data := .dict #[] }
  have S1 := S.grow g1
  obtain ⟨nb, nw⟩ := S.fresh
  have hn : s.heap.get? s.heap.objs.size = none := Heap.get?_none_of_le (Nat.le_refl _)
  refine h (f.re ρ m _) _ m pos _ EV O.re S1.re (fun ρ1 l vs h2 tk2 S2 r q => ?_) (fun x a h' tk' F q => E x a h' tk' (F.back S1) q)
  obtain ⟨rfl, hf, hnd, q⟩ := q
  obtain ⟨hk, hd⟩ := r
  have kp : ∀ b o, s.heap.get? b = some o → ¬ f.badAt ρ1 m b → h2.get? b = some o := fun b o e n => (S1.keep S2 b o (g1 b o e) n).1
  have hA := (S1.keep S2 _ _ (Heap.get?_push_size s.heap (o := { cls := .type "dict", data := .dict #[] }) rfl) nb).1
  have hD : h2.DictOf (strKind prg w) s.heap.objs.size [] := by
    have h9 := Heap.DictOf.new (knd := strKind prg w) s.heap
    obtain ⟨o, es, ep, e, r⟩ := h9
    rw (occs := .all) [Heap.get?_push_size s.heap rfl] at e
    cases e
    exact ⟨_, es, ep, hA, r⟩
  refine display_done_str hk (by rw [hd.keys]; exact hnd) hD (fun h3 hm hs => ?_)
  have S3 := S.butNew (S1.back S2) hno hn kp hs
  obtain ⟨o, ho, hdo⟩ := Heap.dictOf_iff.mp hm
  refine K ρ1 (.dic l) _ h3 _ S3 (.dic ho hdo (beq_eq_false_iff_ne.mpr (Nat.ne_of_gt hbig)) nb ?_) q
  refine hd.moveF hf fun b ob e n c => ⟨(hs.2 b fun q => ?_).trans e, n⟩
  rw (occs := .all) [q, hA] at e; cases e
  rcases c with c | c <;> exact absurd c (by decide)
theorem op_itemD {value slice : Expr} {l : List (Str × PV)} {x : Str} {p : PV} (hp : l.lookup x = some p)
    (hs : ∀ a t, subscripted slice false (Value.ref a) (Value.str x t) = operate [Value.ref a, Value.str x t] (getItem (Value.ref a) (Value.str x t)) := by intro _ _; with_unfolding_all rfl) : Op2 w n (subscriptTail value slice) (.dic l) (.str x) p := by
  intro A s bad va vb QV EV C ra rb K; obtain ⟨_, rfl⟩ := rb.i
  obtain ⟨_, _, _, rfl, e, hd, lo, nb, rs⟩ := ra.i
  obtain ⟨v, hv, rv⟩ := rs.at hp
  have D : s.heap.DictOf (strKind prg w) _ _ := Heap.dictOf_iff.mpr ⟨_, e, hd⟩
  exact tail_any D.typeIs slot_dict_getitem.lookup (wpAny_getItem_of (strKind_is prg w x _) D.mapOf hv (K v s.heap _ (grows_refl _) rv)) (hs _ _)
theorem call_get1 {A : Around} {E : Value → Shared → Prop} {s : Shared} {a : Addr} {kvs : List (Str × Value)} {x : Str} {t : Tok} {Q : Value → Shared → Prop} (D : s.heap.DictOf (strKind prg w) a kvs) (lo : (a == sysModules) = false)
    (h : Q ((valueAt kvs x).getD .none) { s with toks := s.toks + 1 }) : wpAny (model prg w) A (call (.builtin "dict.get") [.ref a, .str x t]) Q E s :=
  call_meetsIn PySem.F.slot_dict_get D.typeIs PySem.F.entry_dict_get (PySem.F.args_dict_get_2 _ _) (meets_dict_get (strKind prg w) a (strKind_is prg w x t) lo) ⟨_, D.mapOf, h⟩
theorem call_get2 {A : Around} {E : Value → Shared → Prop} {s : Shared} {a : Addr} {kvs : List (Str × Value)} {x : Str} {t : Tok} {d : Value} {Q : Value → Shared → Prop} (D : s.heap.DictOf (strKind prg w) a kvs) (lo : (a == sysModules) = false)
    (h : Q ((valueAt kvs x).getD d) { s with toks := s.toks + 1 }) : wpAny (model prg w) A (call (.builtin "dict.get") [.ref a, .str x t, d]) Q E s :=
  call_meetsIn PySem.F.slot_dict_get D.typeIs PySem.F.entry_dict_get (PySem.F.args_dict_get_3 _ _ _) (meets_dict_get_default (strKind prg w) a (strKind_is prg w x t) lo d) ⟨_, D.mapOf, h⟩
theorem ev_get1 {o e : Expr} {ap cp : Pos} {Q : PEnv → PV → Prop} (h : ev w n σ o ρ (fun ρ1 p => ∃ l, p = .dic l ∧ ev w n σ e ρ1 (fun ρ2 q => ∃ x, q = .str x ∧ Q ρ2 ((l.lookup x).getD .none)) X) X)
    (hbase : ∀ env, attributeBase o "get" env (eval o env) = eval o env := by intro _; with_unfolding_all rfl) (hst : ∀ env, starEach [e] env = [(false, eval e env)] := by intro _; with_unfolding_all rfl) (hline : (ap.endLine == cp.line) = true := by with_unfolding_all rfl) :
    ev w n σ (.Call (.Attribute o "get" ap) [e] [] cp) ρ Q X := by
  intro f s m QV EV O S K E
  refine Call_method1 (hbase _) (hst _) hline (h f s m _ EV O S (fun ρ1 p v h1 tk1 S1 r1 k1 => ?_) E)
  obtain ⟨l, rfl, k1⟩ := k1
  obtain ⟨a, ob, kvs, rfl, e1, hd, lo, nb, rs⟩ := r1.i
  have D : h1.DictOf (strKind prg w) a kvs := Heap.dictOf_iff.mpr ⟨_, e1, hd⟩
  refine ⟨"dict", "dict.get", PySem.F.plainAttrs_dict, PySem.F.slot_dict_get, PySem.F.type_dict_get, D.typeIs (s := upd s h1 tk1), D.mapOf.noDict, ?_⟩
  refine Calls.callWith_builtin rfl (Calls.evalArgs_plain (Calls.spliced_cons (k1 (f.re ρ1 m h1) (upd s h1 tk1) m _ EV O.re S1.re (fun ρ2 q vq h2 tk2 S2 r2 k2 => Calls.spliced_nil ?_) (fun x a h' tk' F q => E x a h' tk' (F.back S1) q))))
  obtain ⟨x, rfl, q⟩ := k2
  obtain ⟨_, rfl⟩ := r2.i
  have rD := S1.keepRd S2 (.dic e1 hd lo nb rs)
  obtain ⟨_, _, _, ea, e2, hd2, lo2, nb2, rs2⟩ := rD.i; cases ea
  have D2 : h2.DictOf (strKind prg w) a _ := Heap.dictOf_iff.mpr ⟨_, e2, hd2⟩
  refine call_get1 D2 lo2 ?_
  cases hq : l.lookup x with
  | none =>
    rw (occs := .all) [hq] at q
    rw (occs := .all) [rs2.none hq]
    exact K ρ2 .none .none h2 _ (S1.back S2) .none q
  | some p =>
    rw (occs := .all) [hq] at q
    obtain ⟨v, hv, rv⟩ := rs2.at hq
    rw (occs := .all) [hv]
    exact K ρ2 p v h2 _ (S1.back S2) rv q
theorem ev_get2 {o e d : Expr} {ap cp : Pos} {Q : PEnv → PV → Prop} (h : ev w n σ o ρ (fun ρ1 p => ∃ l, p = .dic l ∧ ev w n σ e ρ1 (fun ρ2 q => ∃ x, q = .str x ∧ ev w n σ d ρ2 (fun ρ3 z => Q ρ3 ((l.lookup x).getD z)) X) X) X)
    (hbase : ∀ env, attributeBase o "get" env (eval o env) = eval o env := by intro _; with_unfolding_all rfl) (hst : ∀ env, starEach [e, d] env = [(false, eval e env), (false, eval d env)] := by intro _; with_unfolding_all rfl) (hline : (ap.endLine == cp.line) = true := by with_unfolding_all rfl) :
    ev w n σ (.Call (.Attribute o "get" ap) [e, d] [] cp) ρ Q X := by
  intro f s m QV EV O S K E
  refine Call_method2 (hbase _) (hst _) hline (h f s m _ EV O S (fun ρ1 p v h1 tk1 S1 r1 k1 => ?_) E)
  obtain ⟨l, rfl, k1⟩ := k1
  obtain ⟨a, ob, kvs, rfl, e1, hd, lo, nb, rs⟩ := r1.i
  have D : h1.DictOf (strKind prg w) a kvs := Heap.dictOf_iff.mpr ⟨_, e1, hd⟩
  refine ⟨"dict", "dict.get", PySem.F.plainAttrs_dict, PySem.F.slot_dict_get, PySem.F.type_dict_get, D.typeIs (s := upd s h1 tk1), D.mapOf.noDict, ?_⟩
  refine Calls.callWith_builtin rfl (Calls.evalArgs_plain (Calls.spliced_cons (k1 (f.re ρ1 m h1) (upd s h1 tk1) m _ EV O.re S1.re (fun ρ2 q vq h2 tk2 S2 r2 k2 => ?_) (fun x a h' tk' F q => E x a h' tk' (F.back S1) q))))
  obtain ⟨x, rfl, k2⟩ := k2
  obtain ⟨_, rfl⟩ := r2.i
  have S2' := S1.back S2
  have rD := S1.keepRd S2 (.dic e1 hd lo nb rs)
  refine Calls.spliced_cons (k2 (f.re ρ2 m h2) (upd s h2 tk2) m _ EV O.re S2'.re (fun ρ3 z vz h3 tk3 S3 r3 q => Calls.spliced_nil ?_) (fun x a h' tk' F q => E x a h' tk' (F.back S2') q))
  have rD3 := S2'.keepRd S3 rD
  obtain ⟨_, _, _, ea, e2, hd2, lo2, nb2, rs2⟩ := rD3.i; cases ea
  have D2 : h3.DictOf (strKind prg w) a _ := Heap.dictOf_iff.mpr ⟨_, e2, hd2⟩
  refine call_get2 D2 lo2 ?_
  cases hq : l.lookup x with
  | none =>
    rw (occs := .all) [hq] at q
    rw (occs := .all) [rs2.none hq]
    exact K ρ3 z vz h3 _ (S2'.back S3) r3 q
  | some p =>
    rw (occs := .all) [hq] at q
    obtain ⟨v, hv, rv⟩ := rs2.at hq
    rw (occs := .all) [hv]
    exact K ρ3 p v h3 _ (S2'.back S3) rv q
end
end
section
open Builtin Builtin.Str
mutual
noncomputable def datOf : PV → PyData
  | .none => .none
  | .bool b => .bool b
  | .int i => .int i
  | .str x => .str x
  | .tup l => .tuple (datOfL l)
  | .lst l => .list (datOfL l)
  | .dic _ => .none
noncomputable def datOfL : List PV → List PyData
  | [] => []
  | p :: r => datOf p :: datOfL r
end
section
variable {P : World} {bad : Addr → Prop} {h : Heap}
mutual
theorem Rd.reads {v : Value} {p : PV} (r : Rd P h bad v p) (hf : p.flat = true) : ∃ as, Reads h v (datOf p) as := by
  cases r with
  | none => exact ⟨_, .none⟩
  | bool b => exact ⟨_, .bool b⟩
  | int i t => exact ⟨_, .int i t⟩
  | str x t => exact ⟨_, .str x t⟩
  | tup e c d n l =>
    obtain ⟨as, q⟩ := RdL.reads l (by rw (occs := .all) [PV.flat] at hf; exact hf)
    exact ⟨_, .tuple e c.cls d q⟩
  | lst e c d n l =>
    obtain ⟨as, q⟩ := RdL.reads l (by rw (occs := .all) [PV.flat] at hf; exact hf)
    exact ⟨_, .list e c.cls d q⟩
  | dic e c d n l => rw (occs := .all) [PV.flat] at hf; cases hf
theorem RdL.reads {vs : List Value} {ps : List PV} (r : RdL P h bad vs ps) (hf : PV.flatL ps = true) : ∃ as, ReadsAll h vs (datOfL ps) as := by
  cases r with
  | nil => exact ⟨_, .nil⟩
  | cons a b =>
    rw (occs := .all) [PV.flatL, Bool.and_eq_true] at hf
    obtain ⟨as, q⟩ := Rd.reads a hf.1
    obtain ⟨bs, q'⟩ := RdL.reads b hf.2
    exact ⟨_, .cons q q'⟩
end
mutual
theorem eqv_refl : ∀ p : PV, p.flat = true → PyData.eqv (datOf p) (datOf p) = true
  | .none, _ => by simp [datOf, PyData.eqv]
  | .bool b, _ => by simp [datOf, PyData.eqv]
  | .int i, _ => by simp [datOf, PyData.eqv]
  | .str x, _ => by simp [datOf, PyData.eqv]
  | .tup l, h => by
    rw (occs := .all) [datOf, PyData.eqv]; exact eqvL_refl l (by rw (occs := .all) [PV.flat] at h; exact h)
  | .lst l, h => by
    rw (occs := .all) [datOf, PyData.eqv]; exact eqvL_refl l (by rw (occs := .all) [PV.flat] at h; exact h)
  | .dic l, h => by rw (occs := .all) [PV.flat] at h; cases h
theorem eqvL_refl : ∀ l : List PV, PV.flatL l = true → PyData.eqvAll (datOfL l) (datOfL l) = true
  | [], _ => by rw [datOfL, PyData.eqvAll]
  | p :: r, h => by
    rw (occs := .all) [PV.flatL, Bool.and_eq_true] at h
    rw (occs := .all) [datOfL, PyData.eqvAll, eqv_refl p h.1, eqvL_refl r h.2]; rfl
end
end
section
variable {w : World} {n : Nat} {σ : Scope} {ρ : PEnv} {X : Exc → Prop}
theorem op_eqSelf {p : PV} (hf : p.flat = true) (hs : SeqAt.shaped (datOf p) = true) (hn : 4 ≤ n) : Op2 w n (compareOp .Eq) p p (.bool true) := by
  intro A s bad va vb QV EV C ra rb K
  obtain ⟨as, qa⟩ := ra.reads hf
  obtain ⟨bs, qb⟩ := rb.reads hf
  refine eq_dataH qa qb hs hs (by have := C.units; omega) ?_
  rw (occs := .all) [eqv_refl p hf]
  exact K _ s.heap s.toks (grows_refl _) (.bool _)
theorem op_neSelf {p : PV} (hf : p.flat = true) (hs : SeqAt.shaped (datOf p) = true) (hn : 4 ≤ n) : Op2 w n (compareOp .NotEq) p p (.bool false) := by
  intro A s bad va vb QV EV C ra rb K
  obtain ⟨as, qa⟩ := ra.reads hf
  obtain ⟨bs, qb⟩ := rb.reads hf
  refine ne_dataH qa qb hs hs (by have := C.units; omega) ?_
  rw (occs := .all) [eqv_refl p hf]
  exact K _ s.heap s.toks (grows_refl _) (.bool _)
theorem op_eqB (a b : Bool) : Op2 w n (compareOp .Eq) (.bool a) (.bool b) (.bool (a == b)) := by
  intro A s bad va vb QV EV C ra rb K; obtain ⟨_, rfl⟩ := ra.i; obtain ⟨_, rfl⟩ := rb.i
  exact eq_bool (K _ s.heap s.toks (grows_refl _) (.bool _))
theorem op_neB (a b : Bool) : Op2 w n (compareOp .NotEq) (.bool a) (.bool b) (.bool (a != b)) := by
  intro A s bad va vb QV EV C ra rb K; obtain ⟨_, rfl⟩ := ra.i; obtain ⟨_, rfl⟩ := rb.i
  exact ne_bool (K _ s.heap s.toks (grows_refl _) (.bool _))
theorem op_addL {l l' : List PV} (hs : l.length + l'.length ≤ sizeLine) : Op2 w n (binaryOp .Add) (.lst l) (.lst l') (.lst (l ++ l')) := by
  intro A s bad va vb QV EV C ra rb K
  obtain ⟨_, _, _, _, rfl, e, c, d, nb, rs⟩ := ra.i
  rename_i a o vs k
  obtain ⟨a', o', vs', k', rfl, e', c', d', nb', rs'⟩ := rb.i
  obtain ⟨oc, od, odt, osl⟩ := o
  obtain ⟨oc', od', odt', osl'⟩ := o'
  obtain ⟨c1, c2⟩ := c
  obtain ⟨c3, c4⟩ := c'
  dsimp only at c1 c2 c3 c4 d d'
  subst c1 c2 c3 c4 d d'
  have e1 : vs.size = l.length := by rw [← rs.length, Array.length_toList]
  have e2 : vs'.size = l'.length := by rw [← rs'.length, Array.length_toList]
  refine concat_meets ⟨_, e, rfl⟩ ⟨_, e', rfl⟩ noFill_list_add seq_list_add PySem.F.slot_list_add PySem.F.entry_list_add (PySem.F.args_list_add_2 _ _) (list_addW a a' vs vs' k k' _ _ osl osl' (by omega)) ⟨e, e', ?_⟩
  have g := grows_push s.heap { cls := .type "list", data := .seq (vs ++ vs') }
  exact K _ _ s.toks g (.lst (Heap.get?_push_size _ rfl) ⟨rfl, rfl⟩ rfl (fresh_ok C (grows_refl _)) (by rw [Array.toList_append]; exact (rs.append rs').grow g))
theorem op_addT {l l' : List PV} (h1 : l ≠ []) (h2 : l' ≠ []) (hs : l.length + l'.length ≤ sizeLine) : Op2 w n (binaryOp .Add) (.tup l) (.tup l') (.tup (l ++ l')) := by
  intro A s bad va vb QV EV C ra rb K
  obtain ⟨_, _, _, _, rfl, e, c, d, nb, rs⟩ := ra.i
  rename_i a o vs k
  obtain ⟨a', o', vs', k', rfl, e', c', d', nb', rs'⟩ := rb.i
  obtain ⟨oc, od, odt, osl⟩ := o
  obtain ⟨oc', od', odt', osl'⟩ := o'
  obtain ⟨c1, c2⟩ := c
  obtain ⟨c3, c4⟩ := c'
  dsimp only at c1 c2 c3 c4 d d'
  subst c1 c2 c3 c4 d d'
  have e1 : vs.size = l.length := by rw [← rs.length, Array.length_toList]
  have e2 : vs'.size = l'.length := by rw [← rs'.length, Array.length_toList]
  have n1 : ¬ vs.isEmpty = true := fun z => by
    have : vs.size = 0 := by simpa using z
    rw (occs := .all) [e1] at this; exact h1 (List.length_eq_zero_iff.mp this)
  have n2 : ¬ vs'.isEmpty = true := fun z => by
    have : vs'.size = 0 := by simpa using z
    rw (occs := .all) [e2] at this; exact h2 (List.length_eq_zero_iff.mp this)
  refine concat_meets ⟨_, e, rfl⟩ ⟨_, e', rfl⟩ noFill_tuple_add seq_tuple_add PySem.F.slot_tuple_add PySem.F.entry_tuple_add (PySem.F.args_tuple_add_2 _ _) (tuple_addW2 a a' vs vs' k k' _ _ osl osl' n1 n2 (by omega)) ⟨e, e', ?_⟩
  have g := grows_push s.heap { cls := .type "tuple", data := .seq (vs ++ vs') }
  exact K _ _ s.toks g (.tup (Heap.get?_push_size _ rfl) ⟨rfl, rfl⟩ rfl (fresh_ok C (grows_refl _)) (by rw [Array.toList_append]; exact (rs.append rs').grow g))
theorem ev_lower {o : Expr} {ap cp : Pos} {Q : PEnv → PV → Prop} (h : ev w n σ o ρ (fun ρ1 p => ∃ x, p = .str x ∧ tooLong (Txt.lower x).length = false ∧ Q ρ1 (.str (Txt.lower x))) X)
    (hbase : ∀ env, attributeBase o "lower" env (eval o env) = eval o env := by intro _; with_unfolding_all rfl) (hline : (ap.endLine == cp.line) = true := by with_unfolding_all rfl) : ev w n σ (.Call (.Attribute o "lower" ap) [] [] cp) ρ Q X := by
  intro f s m QV EV O S K E
  refine Call_method0 (hbase _) hline (h f s m _ EV O S (fun ρ1 p v h1 tk1 S1 r1 k1 => ?_) E)
  obtain ⟨x, rfl, hf, q⟩ := k1
  obtain ⟨_, rfl⟩ := r1.i
  exact SB.lower hf (K ρ1 _ _ h1 _ S1 (.str _ _) q)
theorem ev_startswith {o e : Expr} {ap cp : Pos} {Q : PEnv → PV → Prop} (h : ev w n σ o ρ (fun ρ1 p => ∃ x, p = .str x ∧ ev w n σ e ρ1 (fun ρ2 q => ∃ y, q = .str y ∧ Q ρ2 (.bool (Txt.startswith x y))) X) X)
    (hbase : ∀ env, attributeBase o "startswith" env (eval o env) = eval o env := by intro _; with_unfolding_all rfl) (hst : ∀ env, starEach [e] env = [(false, eval e env)] := by intro _; with_unfolding_all rfl) (hline : (ap.endLine == cp.line) = true := by with_unfolding_all rfl) :
    ev w n σ (.Call (.Attribute o "startswith" ap) [e] [] cp) ρ Q X := by
  intro f s m QV EV O S K E
  refine Call_method1 (hbase _) (hst _) hline (h f s m _ EV O S (fun ρ1 p v h1 tk1 S1 r1 k1 => ?_) E)
  obtain ⟨x, rfl, k1⟩ := k1
  obtain ⟨_, rfl⟩ := r1.i
  refine SB.startswith (k1 f (upd s h1 tk1) m _ EV O S1 (fun ρ2 q vq h2 tk2 S2 r2 k2 => ?_) (fun x a h' tk' F q => E x a h' tk' F q))
  obtain ⟨y, rfl, q⟩ := k2
  obtain ⟨_, rfl⟩ := r2.i
  exact ⟨y, _, rfl, K ρ2 _ _ h2 tk2 S2 (.bool _) q⟩
theorem strs_values {P : World} {h : Heap} {bad : Addr → Prop} : ∀ {vs : List Value} {xs : List Str}, RdL P h bad vs (xs.map PV.str) → ∃ l, vs = strValues l ∧ l.map (·.1) = xs := by
  intro vs xs
  induction xs generalizing vs with
  | nil => intro r; exact ⟨[], RdL.n r, rfl⟩
  | cons x xs ih =>
    intro r
    obtain ⟨a, l, rfl, ra, rs⟩ := RdL.c r
    obtain ⟨t, rfl⟩ := ra.i
    obtain ⟨l, rfl, e⟩ := ih rs
    exact ⟨(x, t) :: l, rfl, by rw [List.map_cons, e]⟩
theorem ev_join {o e : Expr} {ap cp : Pos} {Q : PEnv → PV → Prop} (h : ev w n σ o ρ (fun ρ1 p => ∃ x, p = .str x ∧ ev w n σ e ρ1 (fun ρ2 q => ∃ ys, q = .lst (ys.map PV.str) ∧ JoinOk x ys = true ∧ Q ρ2 (.str (Txt.join x ys))) X) X)
    (hbase : ∀ env, attributeBase o "join" env (eval o env) = eval o env := by intro _; with_unfolding_all rfl) (hst : ∀ env, starEach [e] env = [(false, eval e env)] := by intro _; with_unfolding_all rfl) (hline : (ap.endLine == cp.line) = true := by with_unfolding_all rfl) :
    ev w n σ (.Call (.Attribute o "join" ap) [e] [] cp) ρ Q X := by
  intro f s m QV EV O S K E
  refine Call_method1 (hbase _) (hst _) hline (h f s m _ EV O S (fun ρ1 p v h1 tk1 S1 r1 k1 => ?_) E)
  obtain ⟨x, rfl, k1⟩ := k1
  obtain ⟨_, rfl⟩ := r1.i
  refine SB.join (k1 f (upd s h1 tk1) m _ EV O S1 (fun ρ2 q vq h2 tk2 S2 r2 k2 => ?_) (fun x a h' tk' F q => E x a h' tk' F q))
  obtain ⟨ys, rfl, ok, q⟩ := k2
  obtain ⟨a, ob, vs, k, rfl, e1, c, d, nb, rs⟩ := r2.i
  obtain ⟨l, hv, hl⟩ := strs_values rs
  exact ⟨_, l, rfl, ⟨_, e1, c.cls, k, by rw [d, ← hv]⟩, ys, hl, ok, fun t' kk => K ρ2 _ _ h2 kk S2 (.str _ _) q⟩
noncomputable def evj (w : World) (n : Nat) (σ : Scope) (es : List Expr) (ρ : PEnv) (out : Str) (Q : PEnv → Str → Prop) (X : Exc → Prop) : Prop :=
  ∀ (f : Fm) (s : Shared) (m : Str → Option Value) (QV : Value → Shared → Prop) (EV : Value → Shared → Prop), f.Ok w n σ → St w f ρ m s.heap →
    (∀ ρ' x t h' tk', St w f ρ' m h' → Q ρ' x → QV (.str x t) (upd s h' tk')) →
    (∀ x a h' tk', Fly f a x h' → X x → EV (.ref a) (upd s h' tk')) →
    wpAny (model prg w) f.A (joinParts out (evalEach es f.env)) QV EV s
theorem evj_nil {out : Str} {Q : PEnv → Str → Prop} (hs : out.length ≤ sizeLine) (h : Q ρ out) : evj w n σ [] ρ out Q X :=
  fun f s m QV EV O S K E => joinParts_nilE (joinParts_nil (K ρ out _ s.heap _ S h) hs)
theorem evj_cons {e : Expr} {es : List Expr} {out : Str} {Q : PEnv → Str → Prop} (h : ev w n σ e ρ (fun ρ1 p => ∃ y, p = .str y ∧ (out ++ y).length ≤ sizeLine ∧ evj w n σ es ρ1 (out ++ y) Q X) X) : evj w n σ (e :: es) ρ out Q X := by
  intro f s m QV EV O S K E
  refine joinParts_consE (joinParts_cons (h f s m _ EV O S (fun ρ1 p v h1 tk1 S1 r1 k1 => ?_) E))
  obtain ⟨y, rfl, hs, k1⟩ := k1
  obtain ⟨_, rfl⟩ := r1.i
  exact ⟨hs, k1 f (upd s h1 tk1) m QV EV O S1 (fun ρ' x t h' tk' a b => K ρ' x t h' tk' a b) (fun x a h' tk' F q => E x a h' tk' F q)⟩
theorem ev_joined {v₁ v₂ : Expr} {rest : List Expr} {pos : Pos} {Q : PEnv → PV → Prop} (h : evj w n σ (v₁ :: v₂ :: rest) ρ Str.empty (fun ρ1 x => Q ρ1 (.str x)) X) : ev w n σ (.JoinedStr (v₁ :: v₂ :: rest) pos) ρ Q X :=
  fun f s m QV EV O S K E => JoinedStr_many (h f s m QV EV O S (fun ρ' x t h' tk' a b => K ρ' _ _ h' tk' a (.str x t) b) E)
theorem ev_fmt {e : Expr} {pos : Pos} {Q : PEnv → PV → Prop} (h : ev w n σ e ρ (fun ρ1 p => ∃ x, p = .str x ∧ x.length ≤ sizeLine ∧ Q ρ1 (.str x)) X) : ev w n σ (.FormattedValue e (-1) none pos) ρ Q X := by
  intro f s m QV EV O S K E
  refine FormattedValue_plain (h f s m _ EV O S (fun ρ1 p v h1 tk1 S1 r1 k1 => ?_) E)
  obtain ⟨x, rfl, hs, q⟩ := k1
  obtain ⟨_, rfl⟩ := r1.i
  exact formatField_str (fun t' tk => K ρ1 _ _ h1 tk S1 (.str _ _) q) hs
end
end
section
open Builtin
section
variable {w : World} {n : Nat} {σ : Scope} {ρ : PEnv} {X : Exc → Prop}
theorem range_allB (bs : List Bool) : ((List.range bs.length).all fun i => (bs[i]?).getD true) = bs.all (fun b => b) := by
  rw (occs := .all) [Bool.eq_iff_iff]
  simp only [List.all_eq_true, List.mem_range]
  constructor
  · intro h b hb
    obtain ⟨i, hi, e⟩ := List.mem_iff_getElem.mp hb
    have := h i hi
    rw (occs := .all) [List.getElem?_eq_getElem hi, e] at this
    exact this
  · intro h i hi
    rw (occs := .all) [List.getElem?_eq_getElem hi]
    exact h _ (List.getElem_mem hi)
theorem bools_get : ∀ {l : List PV} {bs : List Bool}, boolsOf l = some bs → l.length = bs.length ∧ ∀ (i : Nat) (b : Bool), bs[i]? = some b → l[i]? = some (PV.bool b)
  | [], bs, e => by cases e; exact ⟨rfl, fun i b q => by simp at q⟩
  | p :: r, bs, e => by
    cases p with
    | bool c =>
      simp only [boolsOf, Option.map_eq_some_iff] at e
      obtain ⟨cs, e1, rfl⟩ := e
      obtain ⟨h1, h2⟩ := bools_get e1
      refine ⟨by simp [h1], fun i b q => ?_⟩
      cases i with
      | zero => simp only [List.getElem?_cons_zero, Option.some.injEq] at q ⊢; rw [q]
      | succ i => simp only [List.getElem?_cons_succ] at q ⊢; exact h2 i b q
    | _ => cases e
theorem op_all {l : List PV} {bs : List Bool} (hl : boolsOf l = some bs) (hn : 0 < n) : OpN w n (fun vs => call (.builtin "all") vs) [.lst l] (.bool (bs.all (fun b => b))) := by
  intro A s bad va QV EV C r K
  obtain ⟨a, rfl, ra⟩ := rdl1 r
  obtain ⟨a, o, vs, k, rfl, e, c, d, nb, rs⟩ := ra.i
  have hL : s.heap.IsList a vs := ⟨_, e, c.cls, _, d⟩
  obtain ⟨hlen, hget⟩ := bools_get hl
  have hsz : vs.size = bs.length := by rw [← hlen, ← rs.length, Array.length_toList]
  refine call_all_walk (wpAny_pyIter_list hL ?_)
  refine ⟨s.heap.objs.size, [s.heap.objs.size, a], [s.heap.objs.size], vs.size, _, _, fun i => (bs[i]?).getD true, rfl, Walks.list (A := A.in1) (C.handled hn) _ a (Nat.ne_of_lt (Heap.lt_size e)) vs,
    ⟨⟨_, Heap.get?_push_size _ rfl, rfl, rfl⟩, hL.push _⟩, fun i v s' Q' E' hP hQ => ?_, fun h' tk hk => ?_⟩
  · have hi : i < bs.length := by rw [← hsz]; exact getElem?_lt hP
    have hb := List.getElem?_eq_getElem hi
    obtain ⟨v', hv', rv⟩ := rs.get (hget i _ hb)
    have : v = v' := by rw (occs := .all) [Array.getElem?_toList] at hv'; rw (occs := .all) [hP] at hv'; exact Option.some.inj hv'
    subst this
    obtain ⟨_, rfl⟩ := rv.i
    simp only [hb, Option.getD_some] at hQ
    exact wpAny_truthy_bool hQ
  · rw (occs := .all) [hsz, range_allB]
    exact K _ h' tk (fun b o q => hk b o (fun hm => by rw (occs := .all) [List.mem_singleton.mp hm] at q; exact Nat.lt_irrefl _ (Heap.lt_size q)) (Heap.get?_push_of_some _ q)) (.bool _)
end
noncomputable abbrev Fm.cenv (f : Fm) (sc : Scope) (C : Addr) : Env := { scope := sc, locals := C, globals := f.env.globals, cells := [], qual := f.env.qual, func := none, code := f.env.code, frame := f.env.frame, builtins := f.env.builtins }
section
variable {w : World} {A : Around} {R : Result → Shared → Prop} {s : Shared}
theorem comp_turn {elt target iter : Expr} {scope : Scope} {pos : Pos} {it acc : Value} {env : Env}
    (h : wpAny (model prg w) A (pyNext it) (fun r s₁ => match r with
      | none => R (.ok .next) s₁
      | some v => wpAny (model prg w) A (letOwnedTupleGo target it v) (fun _ s₁' => wpAny (model prg w) A (assign target env v) (fun _ s₂ => wpAny (model prg w) A (eval elt env) (fun x s₃ =>
          wpAny (model prg w) A (call (.builtin "list.append") [acc, x]) (fun _ s₄ => codeAny (model prg w) A (.compLoop (.ListComp elt [⟨target, iter, [], 0⟩] scope pos) 0 it acc env) R s₄) (notedBy (model prg w) A env fun e s' => R (.error e) s') s₃)
          (notedBy (model prg w) A env fun e s' => R (.error e) s') s₂) (notedBy (model prg w) A env fun e s' => R (.error e) s') s₁') (notedBy (model prg w) A env fun e s' => R (.error e) s') s₁) (notedBy (model prg w) A env fun e s' => R (.error e) s') s) :
    codeAny (model prg w) A (.compLoop (.ListComp elt [⟨target, iter, [], 0⟩] scope pos) 0 it acc env) R s := by
  refine codeAny_of_tree ?_
  show wpAny _ _ ((compTurn (.ListComp elt [⟨target, iter, [], 0⟩] scope pos) 0 it acc env).onRaise (fun x => do noteFrame x env; theTreesLotGoes x)) _ _ s
  refine wpAny_noted ?_
  rw (occs := .all) [compTurn_list1]
  refine wpAny_bind (wpAny_standAt (wpAny_bind (wpAny_mono h (fun r s₁ h₁ => ?_) fun _ _ h' => h')))
  cases r with
  | none => exact wpAny_pure h₁
  | some v =>
    refine wpAny_bind (wpAny_mono h₁ (fun _ s₁' h₁' => ?_) fun _ _ h' => h')
    exact wpAny_bind (wpAny_mono h₁' (fun _ s₂ h₂ => wpAny_bind (wpAny_bind (wpAny_mono h₂ (fun x s₃ h₃ => wpAny_bind (wpAny_mono h₃
      (fun _ s₄ h₄ => wpAny_pure (wpAny_pure ⟨rfl, h₄⟩)) fun _ _ h' => h')) fun _ _ h' => h'))) fun _ _ h' => h')
end
noncomputable def SimBut (C : Addr) (bad : Addr → Prop) (h h' : Heap) : Prop := ∀ b o, b ≠ C → h.get? b = some o → ∃ sl, h'.get? b = some { o with slots := sl } ∧ (¬ bad b → sl = o.slots)
noncomputable def EltOk (w : World) (n : Nat) (σ sc : Scope) (target elt : Expr) (item q : PV) : Prop :=
  ∀ (f : Fm) (s : Shared) (C : Addr) (mC : Str → Option Value) (bad : Addr → Prop) (v : Value) (QV EV : Value → Shared → Prop), f.Ok w n σ → CallOk w n f.A f.base (f.env :: f.outer) bad s.heap → bad C → (∀ e ∈ f.env :: f.outer, e.frame ≠ some C) → s.heap.Ns C mC → Rd w s.heap bad v item →
    (∀ vq h' tk' mC', SimBut C bad s.heap h' → h'.Ns C mC' → Rd w h' bad vq q → QV vq (upd s h' tk')) →
    wpAny (model prg w) f.A (assign target (f.cenv sc C) v) (fun _ s1 => wpAny (model prg w) f.A (eval elt (f.cenv sc C)) QV EV s1) EV s
inductive AllElt (w : World) (n : Nat) (σ sc : Scope) (target elt : Expr) : List PV → List PV → Prop
  | nil : AllElt w n σ sc target elt [] []
  | cons {p q : PV} {ps qs : List PV} : EltOk w n σ sc target elt p q → AllElt w n σ sc target elt ps qs → AllElt w n σ sc target elt (p :: ps) (q :: qs)
section
variable {w : World} {n : Nat} {σ sc : Scope} {ρ : PEnv} {X : Exc → Prop}
theorem comp_run {f : Fm} {m : Str → Option Value} {target elt iter : Expr} {pos : Pos} {h2 : Heap} {I a C D : Addr} {vs : Array Value} {items : List PV} (O : f.Ok w n σ) (hn : 0 < n) (S : St w f ρ m h2)
    (ht : ∀ (s : Shared) (l : Addr) (i : Nat) (v : Value) (Q : Unit → Shared → Prop) (EV : Value → Shared → Prop), s.heap.IsListIter I l i → Q () s → wpAny (model prg w) f.A (letOwnedTupleGo target (.ref I) v) Q EV s)
    (hI : ∃ o, h2.get? I = some o ∧ NotSeq o ∧ ∃ vs, o.data = .fields vs) (hIb : ¬ f.badAt ρ m I) (hI0 : f.h₀ I = none) (hC : h2.get? C = none) (hD : h2.get? D = none) (hCD : C ≠ D) (hIa : a ≠ I) (hab : ¬ f.badAt ρ m a) (ha : h2.IsList a vs) (rs : RdL w h2 (f.badAt ρ m) vs.toList items)
    (hsz : items.length ≤ sizeLine) :
    ∀ (rest qs : List PV), AllElt w n σ sc target elt rest qs → ∀ (s : Shared) (i : Nat) (mC : Str → Option Value) (done : List PV) (ws : Array Value) (k : Nat) (oD : Obj) (R : Result → Shared → Prop), rest = items.drop i → i ≤ items.length → i = done.length →
      s.heap.IsListIter I a i → SimBut I (f.badAt ρ m) h2 s.heap → s.heap.Ns C mC → s.heap.get? D = some oD → Cl oD "list" → oD.data = .seq ws k →
      RdL w s.heap (fun b => f.badAt ρ m b ∨ b = C ∨ b = D ∨ b = I) ws.toList done → (∀ o, s.heap.get? I = some o → NotSeq o) →
      (∀ h' tk' mC' ws' k' oD', SimBut I (f.badAt ρ m) h2 h' → h'.Ns C mC' → h'.get? D = some oD' → Cl oD' "list" → oD'.data = .seq ws' k' → RdL w h' (fun b => f.badAt ρ m b ∨ b = C ∨ b = D ∨ b = I) ws'.toList (done ++ qs) → R (.ok .next) (upd s h' tk')) →
      codeAny (model prg w) f.A (.compLoop (.ListComp elt [⟨target, iter, [], 0⟩] sc pos) 0 (.ref I) (.ref D) (f.cenv sc C)) R s := by
  have hlen : vs.size = items.length := by rw [← rs.length, Array.length_toList]
  have hA := O.handled hn
  have W := Walks.list (prog := prg) (w := w) (A := f.A) hA I a hIa vs
  have neC : C ≠ I := fun q => by obtain ⟨o, e, _⟩ := hI; rw (occs := .all) [← q, hC] at e; cases e
  have neD : D ≠ I := fun q => by obtain ⟨o, e, _⟩ := hI; rw (occs := .all) [← q, hD] at e; cases e
  have nbOf : ∀ b o, h2.get? b = some o → ¬ f.badAt ρ m b → b ≠ I → ¬ (f.badAt ρ m b ∨ b = C ∨ b = D ∨ b = I) := fun b o e n1 n2 q => by
    rcases q with q | q | q | q
    · exact n1 q
    · rw (occs := .all) [q, hC] at e; cases e
    · rw (occs := .all) [q, hD] at e; cases e
    · exact n2 q
  intro rest
  induction rest with
  | nil =>
    intro qs hq s i mC done ws k oD R hr hi hd hit sim ns ho hc hdat rd nI K
    cases hq
    have hil : i = items.length := by
      have := congrArg List.length hr
      rw (occs := .all) [List.length_nil, List.length_drop] at this; omega
    have hla : s.heap.IsList a vs := by
      obtain ⟨o, e, c, kk, d⟩ := ha
      obtain ⟨sl, h1, _⟩ := sim a o hIa e
      exact ⟨_, h1, c, kk, d⟩
    refine comp_turn (W.done s _ _ (by rw [hlen, ← hil]; exact ⟨hit, hla⟩) fun h' tk kp => ?_)
    have kp' : ∀ b o, b ≠ I → s.heap.get? b = some o → h'.get? b = some o := fun b o q e => kp b o (by simpa using q) e
    refine K h' tk mC ws k oD (fun b o q e => ?_) ?_ (kp' _ _ neD ho) hc hdat (by
      rw (occs := .all) [List.append_nil]
      exact rd.move fun b o e n1 _ => ⟨kp' b o (fun q => n1 (.inr (.inr (.inr q)))) e, n1⟩)
    · obtain ⟨sl, h1, h3⟩ := sim b o q e
      exact ⟨sl, kp' b _ q h1, h3⟩
    · obtain ⟨o, es, ep, e, r⟩ := ns
      exact ⟨o, es, ep, kp' _ _ neC e, r⟩
  | cons p rest ih =>
    intro qs hq s i mC done ws k oD R hr hi hd hit sim ns ho hc hdat rd nI K
    cases hq with
    | cons he hq =>
      rename_i q qs
      have hil : i < items.length := by
        have := congrArg List.length hr
        rw (occs := .all) [List.length_cons, List.length_drop] at this; omega
      have hp : items[i]? = some p := by
        have := congrArg (·[0]?) hr
        simp only [List.getElem?_cons_zero, List.getElem?_drop, Nat.add_zero] at this
        exact this.symm
      have hrest : rest = items.drop (i + 1) := by
        have := congrArg (List.drop 1) hr
        rw (occs := .all) [List.drop_drop] at this
        simpa using this
      have hla : s.heap.IsList a vs := by
        obtain ⟨o, e, c, kk, d⟩ := ha
        obtain ⟨sl, h1, _⟩ := sim a o hIa e
        exact ⟨_, h1, c, kk, d⟩
      refine comp_turn (wpAny_pyNext_list_item hit hla (x := vs[i]'(by rw [hlen]; exact hil)) (by simp [hlen, hil]) fun h1 hit1 hs1 => ?_)
      have kp1 : ∀ b o, b ≠ I → s.heap.get? b = some o → h1.get? b = some o := fun b o q e => hs1.extBut b o q e
      refine ht _ a (i + 1) _ _ _ hit1 ?_
      obtain ⟨v', hv', rv⟩ := rs.get hp
      have ev' : vs[i]'(by rw [hlen]; exact hil) = v' := by
        rw (occs := .all) [Array.getElem?_toList, Array.getElem?_eq_getElem (by rw [hlen]; exact hil)] at hv'
        exact Option.some.inj hv'
      rw (occs := .all) [ev']
      have sim1 : SimBut I (f.badAt ρ m) h2 h1 := fun b o q e => by
        obtain ⟨sl, g1, g2⟩ := sim b o q e
        exact ⟨sl, kp1 b _ q g1, g2⟩
      have ns1 : h1.Ns C mC := by
        obtain ⟨o, es, ep, e, r⟩ := ns
        exact ⟨o, es, ep, kp1 _ _ neC e, r⟩
      have oI1 : ∃ o, h1.get? I = some o ∧ NotSeq o := by
        obtain ⟨o, e, c, _⟩ := hit1
        exact ⟨o, e, by rw [NotSeq, c]; decide⟩
      have rv1 : Rd w h1 (fun b => f.badAt ρ m b ∨ b = C ∨ b = D ∨ b = I) v' p := rv.move fun b o e n1 c => by
        have hbI : b ≠ I := fun z => by
          obtain ⟨oI, eI, ⟨n1, n2, n3⟩, _⟩ := hI
          rw (occs := .all) [z, eI] at e; cases e
          rcases c with c | c | c
          · exact n1 c
          · exact n2 c
          · exact n3 c
        obtain ⟨sl, g1, g2⟩ := sim1 b o hbI e
        rw (occs := .all) [g2 n1] at g1
        exact ⟨g1, nbOf b o e n1 hbI⟩
      have hSim0 : Sim f.bad f.h₀ h1 := fun b o e => by
        obtain ⟨sl, g1, g2⟩ := S.sim b o e
        obtain ⟨sl', g3, g4⟩ := sim1 b _ (fun z => by rw (occs := .all) [z, hI0] at e; cases e) g1
        refine ⟨sl', g3, fun n1 => (g4 fun q => ?_).trans (g2 n1)⟩
        rcases q with q | q | q
        · exact n1 q
        · rw (occs := .all) [q, S.newL] at e; cases e
        · rw (occs := .all) [S.ownNew _ q] at e; cases e
      have CO := O.call hn S
      have call1 : CallOk w n f.A f.base (f.env :: f.outer) (fun b => f.badAt ρ m b ∨ b = C ∨ b = D ∨ b = I) h1 := by
        refine ⟨CO.frames, CO.handled, CO.depth, CO.units, CO.bs, fun b o e => (let ⟨g1, g2⟩ := S.baseOld b o e; hSim0.exact g1 g2), ?_, ?_, fun e he a ha => .inl (CO.badFr e he a ha), ?_⟩
        · refine S.frames.of_keeps fun b o e hnf => ?_
          by_cases z : b = I
          · obtain ⟨o0, e0, _, vs0, d0⟩ := hI
            rw (occs := .all) [z, e0] at e; cases e
            exact absurd d0 (hnf vs0)
          · obtain ⟨sl, g1, _⟩ := sim1 b o z e
            exact ⟨_, g1, rfl⟩
        · intro b q
          rcases q with q | rfl | rfl | rfl
          · obtain ⟨o, e⟩ := S.badThere q
            obtain ⟨sl, g1, _⟩ := sim1 b o (fun z => hIb (z ▸ q)) e
            exact ⟨_, g1⟩
          · obtain ⟨o, _, _, e, _⟩ := ns1; exact ⟨o, e⟩
          · exact ⟨_, kp1 _ _ neD ho⟩
          · obtain ⟨o, e, _⟩ := oI1; exact ⟨o, e⟩
        · intro b o e q
          have hb2 := S.stays b o e
          refine nbOf b o hb2 (CO.badBase b o e) (fun z => ?_) q
          have := (S.baseOld b o e).1
          rw (occs := .all) [z, hI0] at this; cases this
      refine he f _ C mC _ v' _ _ O call1 (.inr (.inl rfl)) (fun e he z => by
        obtain ⟨o, e1⟩ := S.badThere (CO.badFr e he C z)
        rw (occs := .all) [hC] at e1; cases e1) ns1 rv1 (fun vq h3 tk3 mC3 sim3 ns3 rq => ?_)
      obtain ⟨sl3, hD3, _⟩ := sim3 D oD (Ne.symm hCD) (kp1 _ _ neD ho)
      have hws : ws.size = done.length := by rw [← rd.length, Array.length_toList]
      refine wpAny_call_entry PySem.F.slot_list_append ⟨_, hD3, hc.cls⟩ PySem.F.entry_list_append ?_ (PySem.F.args_list_append_2 _ _)
      show wpAny _ _ (updateSeq D (·.push vq) >>= fun _ => ret .none) _ _ _
      refine wpAny_bind (wpAny_updateSeq hD3 hdat (wpAny_pure ⟨.none, rfl, ?_⟩) (by omega) (by rw [Array.size_push]; omega))
      obtain ⟨n', hd'⟩ := Obj.data_mapSeq (o := { oD with slots := sl3 }) hdat (·.push vq)
      have hD4 := Heap.get?_update_self (Obj.mapSeq (·.push vq)) hD3 (Obj.isFreed_of_seq hd')
      have oth : ∀ b, b ≠ D → (h3.update D (Obj.mapSeq (·.push vq))).get? b = h3.get? b := fun b q => Heap.get?_update_other _ _ (Ne.symm q)
      refine ih qs hq (upd s (h3.update D (Obj.mapSeq (·.push vq))) tk3) (i + 1) mC3 (done ++ [q]) (ws.push vq) n' _ R hrest hil (by simp [hd]) ?_ (fun b o z e => ?_) ?_ hD4 ⟨(Obj.cls_mapSeq ..).trans hc.cls, (dict_mapSeq ..).trans hc.dict⟩ hd' ?_ ?_ ?_
      · obtain ⟨o, e, c1, c2⟩ := hit1
        obtain ⟨sl, g1, _⟩ := sim3 I o (Ne.symm neC) e
        exact ⟨_, (oth I (Ne.symm neD)).trans g1, c1, c2⟩
      · obtain ⟨sl, g1, g2⟩ := sim1 b o z e
        obtain ⟨sl', g3, g4⟩ := sim3 b _ (fun y => by rw (occs := .all) [y, hC] at e; cases e) g1
        refine ⟨sl', (oth b fun y => by rw (occs := .all) [y, hD] at e; cases e).trans g3, fun n1 => (g4 (nbOf b o e n1 z)).trans (g2 n1)⟩
      · obtain ⟨o, es, ep, e, r⟩ := ns3
        exact ⟨o, es, ep, (oth C hCD).trans e, r⟩
      · rw (occs := .all) [Array.toList_push]
        refine RdL.append (rd.move fun b o e n1 _ => ?_) (.cons (rq.move fun b o e n1 _ => ⟨(oth b fun y => n1 (.inr (.inr (.inl y)))).trans e, n1⟩) .nil)
        obtain ⟨sl, g1, g2⟩ := sim3 b o (fun y => n1 (.inr (.inl y))) (kp1 b o (fun y => n1 (.inr (.inr (.inr y)))) e)
        rw (occs := .all) [g2 n1] at g1
        exact ⟨(oth b fun y => n1 (.inr (.inr (.inl y)))).trans g1, n1⟩
      · intro o e
        rw (occs := .all) [oth I (Ne.symm neD)] at e
        obtain ⟨o1, e1, n1⟩ := oI1
        obtain ⟨sl, g1, _⟩ := sim3 I o1 (Ne.symm neC) e1
        rw (occs := .all) [g1] at e; cases e
        exact n1
      · intro h' tk' mC' ws' k' oD' a1 a2 a3 a4 a5 a6
        exact K h' tk' mC' ws' k' oD' a1 a2 a3 a4 a5 (by rw (occs := .all) [List.append_assoc] at a6; exact a6)
end
end
noncomputable def GoOk (w : World) (target : Expr) : Prop := ∀ (A : Around) (I : Addr) (s : Shared) (l : Addr) (i : Nat) (v : Value) (Q : Unit → Shared → Prop) (EV : Value → Shared → Prop), s.heap.IsListIter I l i → Q () s → wpAny (model prg w) A (letOwnedTupleGo target (.ref I) v) Q EV s
theorem go_name {w : World} {x : Str} {px : Pos} : GoOk w (.Name x px) := fun A I s l i v Q EV _ h => wpAny_pure (a := ()) h
theorem go_tuple {w : World} {es : List Expr} {k : Nat} {tp : Pos} : GoOk w (.Tuple es k tp) := fun A I s l i v Q EV hit h => by
  cases v with
  | ref T => exact wpAny_letOwnedTupleGo_listiter hit h
  | _ => exact wpAny_pure (a := ()) h
theorem notSeq_li {d : Data} {dd : Option Addr} {sl : Array (Option Value)} : NotSeq { cls := .type "list_iterator", dict := dd, data := d, slots := sl } :=
  ⟨(by decide : Value.type "list_iterator" ≠ .type "tuple"), (by decide : Value.type "list_iterator" ≠ .type "list"), (by decide : Value.type "list_iterator" ≠ .type "dict")⟩
section
variable {w : World} {n : Nat} {σ sc : Scope} {ρ : PEnv} {X : Exc → Prop}
theorem ev_comp {target elt iter : Expr} {pos : Pos} {Q : PEnv → PV → Prop} (hgo : GoOk w target)
    (h : ev w n σ iter ρ (fun ρ1 p => ∃ items qs, p = .lst items ∧ items.length ≤ sizeLine ∧ AllElt w n σ sc target elt items qs ∧ Q ρ1 (.lst qs)) X) (hn : 0 < n)
    (hfree : ∀ x ∈ sc.names, x.2 ≠ .free := by decide +kernel) (hcell : ∀ x ∈ sc.names, x.2 ≠ .cell := by decide +kernel) (hkind : sc.kind = .function := by with_unfolding_all rfl) (hnames : ∀ x ∈ sc.names, x.2 = .local → sc.names.lookup x.1 = some .local := by decide +kernel)
    (hs : ∀ env x, foldedSetIterable iter env x = pure x := by intro _ _; with_unfolding_all rfl) : ev w n σ (.ListComp elt [⟨target, iter, [], 0⟩] sc pos) ρ Q X := by
  intro f s m QV EV O S K E
  refine wpAny_ListComp hfree hkind hnames (h f s m _ EV O S (fun ρ1 p v h1 tk1 S1 r1 k1 => ?_) E) (hs _)
  obtain ⟨items, qs, rfl, hsz, hall, q⟩ := k1
  obtain ⟨a, o, vs, kk, rfl, e, c, d, nba, rs⟩ := r1.i
  have ht1 : h1.IsList a vs := ⟨_, e, c.cls, _, d⟩
  have hne : a ≠ h1.objs.size := Nat.ne_of_lt (Heap.lt_size e)
  obtain ⟨nbI, nwI⟩ := S1.fresh
  refine wpAny_pyIter_list ht1 ?_
  dsimp only [upd]
  have hI := Heap.get?_push_size h1 (o := { cls := .type "list_iterator", data := .fields #[.ref a, .int 0 0] }) rfl
  have g2 := grows_push h1 { cls := .type "list_iterator", data := .fields #[.ref a, .int 0 0] }
  generalize hh2 : h1.push { cls := .type "list_iterator", data := .fields #[.ref a, .int 0 0] } = h2 at hI g2
  have S2 := S1.grow g2
  refine wpAny_newObj_type ?_ (by show (0 : Nat) ≤ sizeLine; exact Nat.zero_le _)
  have hDn : h2.get? h2.objs.size = none := Heap.get?_none_of_le (Nat.le_refl _)
  have hD := Heap.get?_push_size h2 (o := { cls := .type "list", data := .seq [].toArray }) rfl
  have g3 := grows_push h2 { cls := .type "list", data := .seq [].toArray }
  have hsz3 : (h2.push { cls := .type "list", data := .seq [].toArray }).objs.size = h2.objs.size + 1 := Heap.size_push ..
  dsimp only
  generalize hh3 : h2.push { cls := .type "list", data := .seq [].toArray } = h3 at hD g3 hsz3
  refine wpAny_newFunctionEnv hcell (by intro x hx; cases hx) (fun h4 ns4 sb4 => ?_) hkind
  dsimp only at ns4 sb4
  have g4 : Grows h3 h4 := fun b ob q => (sb4.2 b (Nat.ne_of_lt (Heap.lt_size q))).trans (Heap.get?_push_of_some _ q)
  have hCn : h2.get? h3.objs.size = none := Heap.get?_none_of_le (by rw [hsz3]; exact Nat.le_succ _)
  have hCD : h3.objs.size ≠ h2.objs.size := by rw [hsz3]; exact Nat.succ_ne_self _
  have hIne : h1.objs.size ≠ h2.objs.size := fun z => by rw (occs := .all) [z, hDn] at hI; cases hI
  have ha2 : h2.IsList a vs := ⟨_, g2 _ _ e, c.cls, _, d⟩
  have run := fun (R : Result → Shared → Prop) K' => comp_run (sc := sc) (iter := iter) (pos := pos) O hn S2 (hgo f.A h1.objs.size) ⟨_, hI, notSeq_li, _, rfl⟩ nbI nwI hCn hDn hCD hne nba ha2 (rs.grow g2) hsz items qs hall
    ⟨h4, s.gens, s.drawn, tk1 + ([] : List (Str × Value)).length, s.os⟩ 0 _ [] #[] 0 _ R rfl (Nat.zero_le _) rfl ⟨_, g4 _ _ (g3 _ _ hI), rfl, rfl⟩ (fun b ob z q => ⟨ob.slots, g4 _ _ (g3 _ _ q), fun _ => rfl⟩) ns4 (g4 _ _ hD) ⟨rfl, rfl⟩ rfl .nil
    (fun ob q => by rw (occs := .all) [g4 _ _ (g3 _ _ hI)] at q; cases q; exact notSeq_li) K'
  have fin : ∀ (R : Result → Shared → Prop), (∀ h' tk' mC' ws' k' oD', SimBut h1.objs.size (f.badAt ρ1 m) h2 h' → h'.Ns h3.objs.size mC' → h'.get? h2.objs.size = some oD' → Cl oD' "list" → oD'.data = .seq ws' k' →
      RdL w h' (fun b => f.badAt ρ1 m b ∨ b = h3.objs.size ∨ b = h2.objs.size ∨ b = h1.objs.size) ws'.toList qs → R (.ok .next) ⟨h', s.gens, s.drawn, tk', s.os⟩) → codeAny (model prg w) f.A (.compLoop (.ListComp elt [⟨target, iter, [], 0⟩] sc pos) 0 (.ref h1.objs.size) (.ref h2.objs.size) (f.cenv sc h3.objs.size)) R ⟨h4, s.gens, s.drawn, tk1 + ([] : List (Str × Value)).length, s.os⟩ :=
    fun R K' => run R (fun h' tk' mC' ws' k' oD' a1 a2 a3 a4 a5 a6 => K' h' tk' mC' ws' k' oD' a1 a2 a3 a4 a5 (by rw (occs := .all) [List.nil_append] at a6; exact a6))
  have goal := fin (fun r s' => ∃ m, s'.heap.Ns h3.objs.size m ∧ ∀ h', Heap.SameBut h3.objs.size s'.heap h' → match r with | .ok _ => QV (.ref h2.objs.size) { s' with heap := h' } | .error x => wpAny (model prg w) f.A (passOn "comprehension.variables-let-go" x (f.cenv sc h3.objs.size)) QV EV { s' with heap := h' })
    (fun h' tk' mC' ws' k' oD' a1 a2 a3 a4 a5 a6 => ⟨mC', a2, fun h5 sb5 => ?_⟩)
  · exact codeAny_compStart_list goal (wpAny_pyIter_listiter ⟨_, g4 _ _ (g3 _ _ hI), rfl, rfl⟩ goal)
  · have neC : ∀ b ob, h2.get? b = some ob → b ≠ h3.objs.size := fun b ob q z => by rw (occs := .all) [z, hCn] at q; cases q
    have simF : Sim (f.badAt ρ1 m) h1.get? h5 := fun b ob q => by
      have q2 := g2 b ob q
      obtain ⟨sl, b1, b2⟩ := a1 b ob (Nat.ne_of_lt (Heap.lt_size q)) q2
      exact ⟨sl, (sb5.2 b (neC b _ q2)).trans b1, b2⟩
    have S5 := S1.call simF
    refine K ρ1 (.lst qs) _ h5 tk' S5 (.lst ((sb5.2 _ (Ne.symm hCD)).trans a3) a4 a5 (fun z => ?_) (a6.move fun b ob q n1 _ => ⟨(sb5.2 b fun z => n1 (.inr (.inl z))).trans q, fun z => n1 (.inl z)⟩)) q
    obtain ⟨ob, q⟩ := S2.badThere z
    rw (occs := .all) [hDn] at q; cases q
theorem elt_item {x : Str} {px p1 p2 pos : Pos} {k : Int} {kk j : Nat} {l : List PV} {q : PV} (hj : seqIndex? k l.length = some j) (hq : l[j]? = some q) (h1 : -2 ^ 63 ≤ k) (h2 : k < 2 ^ 63) (hn : 0 < n)
    (hx : sc.names.lookup x = some .local := by kernel_rfl) (hk : sc.kind = .function := by with_unfolding_all rfl) (hd : (x == ("__debug__" : Str)) = false := by kernel_rfl) :
    EltOk w n σ sc (.Name x px) (.Subscript (.Name x p1) (.Constant (.int k) kk p2) pos) (.tup l) q := by
  intro f s C mC bad v QV EV O CO hC nfC ns r K
  have side : ((f.cenv sc C).scope.kind == .class || ((f.cenv sc C).scope.kind == .module && (f.cenv sc C).locals != (f.cenv sc C).globals)) = false := by
    show (sc.kind == .class || (sc.kind == .module && _)) = false
    rw (occs := .all) [hk]; rfl
  refine wpAny_assign_Name (wpAny_storeName_local (m := mC) hx ns (fun h3 hn3 hs3 => ?_) side)
  refine Subscript_ (wpAny_Name (wpAny_loadName_local (env := f.cenv sc C) (v := v) hk hx hn3 (by simp) (wpAny_Constant_int ?_)) hd)
  have r3 : Rd w h3 bad v (.tup l) := r.move fun b o e n1 _ => ⟨(hs3.2 b fun z => n1 (z ▸ hC)).trans e, n1⟩
  have cx : Cx w n f.A h3 bad := ⟨⟨f.base, CO.bs, fun b o e => (hs3.2 b fun z => CO.badBase b o e (z ▸ hC)).trans (CO.stays b o e)⟩, CO.units, fun _ => CO.handled, fun b q => by
    obtain ⟨o, e⟩ := CO.badOld b q
    by_cases z : b = C
    · obtain ⟨o', _, _, e', _⟩ := hn3
      exact ⟨o', z ▸ e'⟩
    · exact ⟨o, (hs3.2 b z).trans e⟩⟩
  refine op_itemT (w := w) (n := n) hj hq h1 h2 (by intro _ _; with_unfolding_all rfl) f.A ⟨h3, s.gens, s.drawn, _, s.os⟩ bad v _ _ EV cx r3 (.int k _) (fun vq h4 tk4 g rq => ?_)
  refine K vq h4 tk4 _ (fun b o z e => ⟨o.slots, g _ _ ((hs3.2 b z).trans e), fun _ => rfl⟩) (hn3.keeps g) rq
end
section
open Builtin
section
variable {w : World} {A : Around} {E : Value → Shared → Prop} {h : Heap} {g : Array GenState} {d : Drawn} {t : Nat} {os : OsState} {a dx : Addr} {o : Obj}
  {nm q : Str} {bs : List Value} {sn : List Str} {sub : List Value} {ab : Bool} {col : Option Bool} {dd : Option Addr} {k0 k1 k2 k3 k5 : Option Value} {newId : String} {mN md : Str → Option Value} {name : Str} {v : Value}
theorem attr_entry {tk : Tok} {Q : Fin → Shared → Prop} (hC : h.get? 65 = some (excClassObj nm q 65 64 bs bmR true sn sub ab col dd k0 k1 k2 k3 k5 newId)) (hN : h.Ns 64 mN) (hna : mN name = none)
    (hB : typeLookup (.type "Exception") name = pure none) {vs : Array Value} {sl : Array (Option Value)} (hx : h.get? a = some ⟨.ref 65, some dx, .fields vs, sl⟩) (hn : h.Ns dx md) (hv : md name = some v) (hh : handedIn v = true)
    (hq : Q (.done (.ret v)) ⟨h, g, d, t, os⟩) : wpAny (model prg w) A (Builtin.«object.__getattribute__» ⟨[.ref a, .str name tk], []⟩) Q E ⟨h, g, d, t, os⟩ := by
  have SF := F.store_Exception
  repeat (any_goals (first | assumption | (with_reducible refine wpAny_nsGet hn ?_; rw [hv]) | with_reducible refine wpAny_loadPart_at hx ?_ | (with_reducible refine wpAny_typeLookup_exc hC hN SF.mro hB ?_; rw [hna]) | wp_step))
theorem check_ga {M : Model} {nameV : Value} {Q : Unit → Shared → Prop} (hC : h.get? 65 = some (excClassObj nm q 65 64 bs bmR true sn sub ab col dd k0 k1 k2 k3 k5 newId))
    (hx : h.get? a = some o) (hc : o.cls = .ref 65) (hq : Q () ⟨h, g, d, t, os⟩) : wpAny M A (checkBuiltinCall "BaseException.__getattribute__" ⟨[.ref a, nameV], []⟩) Q E ⟨h, g, d, t, os⟩ := by
  have hk : builtinKind "BaseException.__getattribute__" = some .slot := by decide +kernel
  have hsplit : splitId "BaseException.__getattribute__" = some ("BaseException", "__getattribute__") := by decide +kernel
  have hcB : (Value.ref 65 :: bmR).contains (.type "BaseException") = true := by decide
  have ha := F.args_bexc_ga (.ref a) nameV
  simp only [checkBuiltinCall, hk, hsplit]
  refine wpAny_bind ?_
  · unfold isInstance
    repeat (first | (with_reducible refine wpAny_loadPart_at hx ?_; rw [hc]) | (with_reducible refine wpAny_isSubtype_exc hC ?_; rw [hcB]) | wp_step)
    exact hq
theorem attr_by {tk : Tok} {fill expr : Bool} {vs : Array Value} {sl : Array (Option Value)} {Q : Value → Shared → Prop} (hC : h.get? 65 = some (excClassObj nm q 65 64 bs bmR true sn sub ab col dd k0 k1 k2 k3 k5 newId)) (hN : h.Ns 64 mN) (hna : mN name = none)
    (hg1 : mN "__getattribute__" = none) (hg2 : mN "__getattr__" = none)
    (hB : typeLookup (.type "Exception") name = pure none) (hx : h.get? a = some ⟨.ref 65, some dx, .fields vs, sl⟩) (hn : h.Ns dx md) (hv : md name = some v) (hh : handedIn v = true) (hq : Q v ⟨h, g, d, t, os⟩) :
    wpAny (model prg w) A (getAttrBy (.ref a) (.str name tk) fill expr) Q E ⟨h, g, d, t, os⟩ := by
  have FB := F.attrBase_Exception
  have SF := F.store_Exception
  have f3 := FB.ga.bind (.ref a)
  have hx0 : (expr && onTheHeap (Value.builtin "BaseException.__getattribute__")) = false := by cases expr <;> rfl
  have hx2 : (Value.builtin "BaseException.__getattribute__" == Value.builtin "object.__getattribute__") = false := by decide +kernel
  have hx1 : (onTheHeap (Value.ref 65) && Value.builtin "BaseException.__getattribute__" == Value.builtin "object.__getattribute__") = false := by rw [hx2]; rfl
  repeat (any_goals (first | assumption | with_reducible refine wpAny_loadPart_at hx ?_ | (with_reducible refine wpAny_typeLookup_exc hC hN SF.mro FB.ga.lookup ?_; rw [hg1]) | (with_reducible refine wpAny_typeLookup_exc hC hN SF.mro FB.noGetattr ?_; rw [hg2]) | wp_step))
  refine codeAny_call_builtin FB.ga.plain F.entry_bexc_ga (check_ga hC hx rfl (attr_entry hC hN hna hB hx hn hv hh ?_))
  show wpAny _ _ (handedOut v) _ _ _
  rw (occs := .all) [handedOut_of hh]
  exact wpAny_pure hq
theorem attr_get {expr : Bool} {vs : Array Value} {sl : Array (Option Value)} {Q : Value → Shared → Prop} (hC : h.get? 65 = some (excClassObj nm q 65 64 bs bmR true sn sub ab col dd k0 k1 k2 k3 k5 newId)) (hN : h.Ns 64 mN) (hna : mN name = none)
    (hg1 : mN "__getattribute__" = none) (hg2 : mN "__getattr__" = none)
    (hB : typeLookup (.type "Exception") name = pure none) (hx : h.get? a = some ⟨.ref 65, some dx, .fields vs, sl⟩) (hn : h.Ns dx md) (hv : md name = some v) (hh : handedIn v = true) (hq : Q v ⟨h, g, d, t + 1, os⟩) :
    wpAny (model prg w) A (getAttr (.ref a) name expr) Q E ⟨h, g, d, t, os⟩ := by
  unfold getAttr
  repeat (any_goals (first | assumption | with_reducible apply attr_by hC hN hna hg1 hg2 hB hx hn hv hh | wp_step))
end
end
section
open Builtin
theorem fillK24 : hp = hp ∧ PySem.Challenge.rw_np0140_01 = PySem.Challenge.rw_np0140_01 := by
  k_fill
  exact ⟨rfl, rfl⟩
theorem g_Raised (P : Params) : nsIn (hp P) mainGlobals "Raised" = some (some (.ref 65)) := by k_is
theorem raised_ns2 {w : World} {base h : Heap} (B : Bs w base) (k : base.StaysIn h) : ∃ mN, h.Ns 64 mN ∧ mN "code" = none ∧ mN "value" = none ∧ mN "errorcode" = none ∧ mN "__getattribute__" = none ∧ mN "__getattr__" = none := by
  have e : ∃ oc od es n sl, (hp w.params).lookup 64 = some ⟨oc, od, .dict es n, sl⟩ ∧ StrKeys es ∧ nsFind es "code" = none ∧ nsFind es "value" = none ∧ nsFind es "errorcode" = none ∧ nsFind es "__getattribute__" = none ∧ nsFind es "__getattr__" = none :=
    ⟨_, _, _, _, _, by k_is, by
      intro e he
      simp only [List.mem_toArray, List.mem_cons, List.not_mem_nil, or_false] at he
      rcases he with rfl | rfl | rfl | rfl | rfl | rfl <;> exact ⟨_, _, rfl⟩, by kernel_rfl, by kernel_rfl, by kernel_rfl, by kernel_rfl, by kernel_rfl⟩
  obtain ⟨oc, od, es, n, sl, ho, hk, q⟩ := e
  exact ⟨nsFind es, ⟨_, es, n, k _ _ (B.k _ _ ho), rfl, hk, fun _ => rfl⟩, q⟩
section
variable {w : World} {n : Nat} {σ : Scope} {ρ : PEnv} {X : Exc → Prop}
theorem St.bare {P : World} {f : Fm} {m m' : Str → Option Value} {h0 h : Heap} (S : St P f ρ m h0) (ns : h.Ns f.L m') (sim : Sim f.bad f.h₀ h) (stays : f.base.StaysIn h) (frames : h.FunFrames f.base (f.env :: f.outer)) : St P f [] m' h where
  ns := ns
  bnd := fun x b e => by cases e
  inj := fun x y l l' e => by cases e
  sim := sim
  stays := stays
  frames := frames
  newL := S.newL
  ownNew := fun a ⟨x, l, e, _⟩ => by cases e
  badOld := S.badOld
  badFr := S.badFr
  baseOld := S.baseOld
set_option maxHeartbeats 2000000 in
theorem ex_told {body : List Stmt} {tp hp pos rp ip cp k1p tp1 tp2 n1 a1 n2 a2 n3 a3 n4 a4 n5 a5 : Pos} {kk k1 k2 : Nat} {N B C : PEnv → Prop} {R : PV → Prop} {Oo : Exc → Prop} (hn : 0 < n)
    (hR : σ.names.lookup ("Raised" : Str) = some .globalImplicit) (hF : σ.names.lookup ("fault" : Str) = some .local)
    (h : exs w n σ body ρ (fun _ => False) ⟨fun _ => False, fun _ => False, R, fun _ => False⟩ (fun x => R (.tup [.str x.msg, .tup (x.code.map PV.str)]))) :
    ex w n σ (.Try body [.ExceptHandler (some (.Name "Raised" tp)) (some "fault") [.Return (some (.IfExp (.Compare (.Attribute (.Name "fault" n1) "code" a1) [.Eq] [.Constant (.int 1) kk k1p] cp)
      (.Tuple [.Attribute (.Name "fault" n2) "value" a2, .Attribute (.Name "fault" n3) "errorcode" a3] k1 tp1) (.Tuple [.Attribute (.Name "fault" n4) "value" a4, .Attribute (.Name "fault" n5) "code" a5] k2 tp2) ip)) rp] hp] [] [] pos) ρ N ⟨B, C, R, Oo⟩ X := by
  intro f s m QV EV O S K E
  have hsc := O.sc
  subst hsc
  have Bb : ∀ b o, f.base.get? b = some o → f.h₀ b = some o := fun b o e => (S.baseOld b o e).1
  refine wpAny_Try_except (h f s m _ _ O S (fun ρ' m' fl flv h' tk' S' I q => ?_) (fun x a h1 tk1 F q => ?_))
  · cases fl with
    | ret p =>
      cases flv with
      | ret v => exact K ρ' m' (.ret p) (.ret v) h' tk' S' I q
      | _ => exact I.elim
    | _ => exact q.elim
  · refine note F O.frames Bb S.badFr fun h2 F2 => ?_
    refine flight F2 Bb fun h3 F3 => ?_
    have hkind : f.env.scope.kind = .function := O.kind
    have T' := O.bs.t
    obtain ⟨loose, mean, mg, mb, T⟩ := T'
    refine wpAny_handleBy_cons (codeAny_handlers_test ?_) (by intro z; cases z)
    refine Name_function_global hkind hR (loadGlobal_global (env := f.env) (T.g.keeps F3.stays) (mg_of O.bs.k T.g (g_Raised _)) ?_) (by decide +kernel)
    obtain ⟨nm, qn, bs, sn, sub, ab, col, dd, c0, c1, c2, c3, c5, hC⟩ := raised_cls O.bs F3.stays
    obtain ⟨oe, vs, dx, Ta, oT, ts, g1, g2, g3, g4, g5, g6, g7, g8, g9, g10, g11⟩ := F3.exc
    refine wpAny_excMatches_sub_self hC g1 g2 (by decide) ?_
    refine codeAny_handlers_suite_as ?_
    refine flight F3 Bb fun h4 F4 => ?_
    obtain ⟨m4, hm4⟩ := F4.ns
    refine wpAny_storeName_local (env := f.env) (m := m4) hF hm4 (fun h5 hn5 hs5 => ?_) (storeSide O)
    obtain ⟨oe, vs, dx, Ta, oT, ts, g1, g2, g3, g4, g5, g6, g7, g8, g9, g10, g11⟩ := F4.exc
    obtain ⟨oc, od, odt, osl⟩ := oe
    dsimp only [clsRaised] at g2 g3 g4
    subst g2 g3 g4
    obtain ⟨ndx, md, t1, t2, ea, eo, es, en, b1, b2, b3, b4, b5, b6, b7, b8, b9⟩ := g11
    have hs5 : Heap.SameBut f.L h4 h5 := hs5
    have S5 : St w f [] (fun y => if y = ("fault" : Str) then some (.ref a) else m4 y) h5 := by
      refine S.bare hn5 ?_ ?_ ?_
      · intro b o e
        obtain ⟨sl, k1, k2⟩ := F4.sim b o e
        exact ⟨sl, (hs5.2 b fun z => by rw (occs := .all) [z, F4.newL] at e; cases e).trans k1, k2⟩
      · intro b o e
        exact (hs5.2 b fun z => by rw (occs := .all) [z] at e; have := Bb _ _ e; rw (occs := .all) [F4.newL] at this; cases this).trans (F4.stays b o e)
      · obtain ⟨hk, ⟨L', o', hf, hn', _⟩, hr⟩ := F4.frames
        obtain rfl : f.L = L' := Option.some.inj hf
        refine Heap.FunFrames.cons hk rfl hn5 hn' (frames_keep hr fun e he b hb o ho => ?_)
        exact (hs5.2 b fun z => by obtain ⟨o2, ho2⟩ := S.badOld b (S.badFr e he b hb); rw (occs := .all) [z, F4.newL] at ho2; cases ho2).trans ho
    have naL : a ≠ f.L := fun z => by
      obtain ⟨o, es, ep, e, d, _⟩ := hm4
      rw (occs := .all) [← z, g1] at e; cases e; cases d
    have ndL : dx ≠ f.L := fun z => ndx (.inr z)
    have neL : ea ≠ f.L := fun z => b8 (.inr z)
    have ga := (hs5.2 a naL).trans g1
    have gd : h5.Ns dx md := by
      obtain ⟨o, es, ep, e, r⟩ := b1
      exact ⟨o, es, ep, (hs5.2 dx ndL).trans e, r⟩
    have ge := (hs5.2 ea neL).trans b5
    have st5 := S5.stays
    obtain ⟨nm', qn', bs', sn', sub', ab', col', dd', c0', c1', c2', c3', c5', hC5⟩ := raised_cls O.bs st5
    obtain ⟨mN, hN5, m1, m2, m3, m4', m5⟩ := raised_ns2 O.bs st5
    refine wpAny_execs_cons (wpAny_Return_some (IfExp_ (wpAny_isTrue_Compare1 (Attribute_name (wpAny_Name (wpAny_loadName_local (env := f.env) (v := .ref a) hkind hF hn5 (by simp) ?_) (by decide +kernel))))))
    refine attr_get hC5 hN5 m1 m4' m5 (excNo (by decide +kernel)) ga gd b2 rfl ?_
    refine wpAny_Constant_int (eq_int (wpAny_truthy_bool ?_))
    rw (occs := .all) [if_pos (by decide)]
    refine Tuple_ (args_cons (Attribute_name (wpAny_Name (wpAny_loadName_local (env := f.env) (v := .ref a) hkind hF hn5 (by simp) ?_) (by decide +kernel))) rfl)
    refine attr_get hC5 hN5 m2 m4' m5 (excNo (by decide +kernel)) ga gd b3 rfl ?_
    refine args_cons (Attribute_name (wpAny_Name (wpAny_loadName_local (env := f.env) (v := .ref a) hkind hF hn5 (by simp) ?_) (by decide +kernel))) rfl
    refine attr_get hC5 hN5 m3 m4' m5 (excNo (by decide +kernel)) ga gd b4 rfl ?_
    refine args_nil (wpAny_newTuple ?_ (by rw [sizeLine_eq]; simp))
    show wpAny _ _ (do bindName f.env "fault" .none; unbindBehindTheSuite f.env "fault" _) _ _ _
    have g6 := grows_push h5 { cls := .type "tuple", data := .seq [Value.str x.msg t2, .ref ea].toArray }
    have S6 := S5.grow g6
    refine wpAny_nameGoes (env := f.env) hF S6.ns (storeSide O) (fun h7 m7 hn7 hs7 => ?_)
    have hs7 : Heap.SameBut f.L (h5.push { cls := .type "tuple", data := .seq [Value.str x.msg t2, .ref ea].toArray }) h7 := hs7
    have S7 : St w f [] m7 h7 := by
      refine S.bare hn7 ?_ ?_ ?_
      · intro b o e
        obtain ⟨sl, k1, k2⟩ := S6.sim b o e
        exact ⟨sl, (hs7.2 b fun z => by rw (occs := .all) [z, F4.newL] at e; cases e).trans k1, k2⟩
      · intro b o e
        exact (hs7.2 b fun z => by rw (occs := .all) [z] at e; have := Bb _ _ e; rw (occs := .all) [F4.newL] at this; cases this).trans (S6.stays b o e)
      · obtain ⟨hk, ⟨L', o', hf, hn', _⟩, hr⟩ := S6.frames
        obtain rfl : f.L = L' := Option.some.inj hf
        refine Heap.FunFrames.cons hk rfl hn7 hn' (frames_keep hr fun e he b hb o ho => ?_)
        exact (hs7.2 b fun z => by obtain ⟨o2, ho2⟩ := S.badOld b (S.badFr e he b hb); rw (occs := .all) [z, F4.newL] at ho2; cases ho2).trans ho
    have nbad : ∀ b, ¬ f.badL b → ¬ f.badAt [] m7 b := fun b n1 z => by
      rcases z with z | z | ⟨y, l, z, _⟩
      · exact n1 (.inl z)
      · exact n1 (.inr z)
      · cases z
    have nL6 : h5.objs.size ≠ f.L := fun z => by
      obtain ⟨o, _, _, e, _⟩ := S5.ns
      exact absurd (Heap.lt_size e) (by rw [← z]; exact Nat.lt_irrefl _)
    refine K [] m7 (.ret (.tup [.str x.msg, .tup (x.code.map PV.str)])) _ h7 _ S7 (.tup ((hs7.2 _ nL6).trans (Heap.get?_push_size _ rfl)) ⟨rfl, rfl⟩ rfl (fun z => ?_) (.cons (.str _ _) (.cons (.tup ((hs7.2 ea neL).trans (g6 _ _ ge)) b6 b7 (nbad _ b8) b9.rd) .nil))) q
    · obtain ⟨o2, e2⟩ := S7.badThere z
      rcases z with z | z | ⟨y, l, z, _⟩
      · obtain ⟨o3, e3⟩ := S.badOld _ z
        obtain ⟨sl, e4, _⟩ := S5.sim _ _ e3
        exact absurd (Heap.lt_size e4) (Nat.lt_irrefl _)
      · exact nL6 z
      · cases z
end
end
section
open Builtin Builtin.Tuple
section
variable {w : World} {A : Around} {E : Value → Shared → Prop} {s : Shared}
theorem tuple_index6 {a : Addr} {o : Obj} {k : Nat} {x y0 y1 y2 y3 y4 y5 : Str} {u t0 t1 t2 t3 t4 t5 : Tok} {Q : Value → Shared → Prop} {i : Nat} (ho : s.heap.get? a = some o) (hc : o.cls = .type "tuple") (hd : o.data = .seq #[.str y0 t0, .str y1 t1, .str y2 t2, .str y3 t3, .str y4 t4, .str y5 t5] k)
    (hi : [y0, y1, y2, y3, y4, y5].findIdx? (· == x) = some i) (h : ∀ tk tk', Q (.int i tk) { s with toks := tk' }) :
    wpAny (model prg w) A (call (.builtin "tuple.index") [.ref a, .str x u]) Q E s := by
  refine wpAny_call_entry PySem.F.slot_tuple_index ⟨_, ho, hc⟩ PySem.F.entry_tuple_index ?_ (PySem.F.args_tuple_index_2 _ _)
  obtain ⟨hp, g, d, tk, os⟩ := s
  obtain ⟨oc, od, odt, osl⟩ := o
  dsimp only at hc hd
  subst hc hd
  unfold Builtin.«tuple.index»
  simp only [Std.Legacy.Range.forIn_eq_forIn_range']
  refine wpAny_bind (wpAny_of_eq (a := (Value.ref a, [Value.str x u])) rfl ?_)
  have hload : ∀ (Q : Array Value → Shared → Prop), Q #[.str y0 t0, .str y1 t1, .str y2 t2, .str y3 t3, .str y4 t4, .str y5 t5] ⟨hp, g, d, tk, os⟩ → wpAny (model prg w) A.in1 (tupleItemsOf (.ref a)) Q E ⟨hp, g, d, tk, os⟩ := by
    intro Q h
    unfold tupleItemsOf seqItems?
    wp_walk using wpAny_loadPart' ho
    exact h
  refine wpAny_bind (hload _ ?_)
  have hat : ∀ (j : Nat) (y : Str), [y0, y1, y2, y3, y4, y5][j]? = some y → ∃ t, (#[Value.str y0 t0, .str y1 t1, .str y2 t2, .str y3 t3, .str y4 t4, .str y5 t5] : Array Value)[j]? = some (Value.str y t) := fun j => by
    rcases j with _ | _ | _ | _ | _ | _ | j <;> intro y e <;> cases e <;> exact ⟨_, rfl⟩
  have hr : ∀ (xs : Array Value), xs.size = 6 → List.range' ([0:min xs.size xs.size] : Std.Legacy.Range).start (Std.Legacy.Range.size [0:min xs.size xs.size]) ([0:min xs.size xs.size] : Std.Legacy.Range).step = List.range' 0 [y0, y1, y2, y3, y4, y5].length := by
    intro xs h
    rw [h]; rfl
  refine wpAny_bind (wpAny_pure (wpAny_bind (wpAny_pure ?_)))
  rw [hr _ rfl]
  clear hr
  generalize (#[Value.str y0 t0, .str y1 t1, .str y2 t2, .str y3 t3, .str y4 t4, .str y5 t5] : Array Value) = vs at hat ⊢
  generalize [y0, y1, y2, y3, y4, y5] = ys at hat hi ⊢
  have stepY : ∀ {α : Type} {y : Str} {ty : Tok} {k : Bool → Sem α} {Q' : α → Shared → Prop}, wpAny (model prg w) A.in1 (k (y == x)) Q' E ⟨hp, g, d, tk, os⟩ → wpAny (model prg w) A.in1 (eqBool (.str y ty) (.str x u) >>= k) Q' E ⟨hp, g, d, tk, os⟩ :=
    fun h => wpAny_bind (eqBool_str h)
  have fin : wpAny (model prg w) A.in1 (retInt (i : Int)) (fun r s' => ∃ v, r = Fin.done (Flow.ret v) ∧ Q v s') E ⟨hp, g, d, tk, os⟩ :=
    wpAny_bind (wpAny_mkInt (wpAny_pure ⟨_, rfl, h _ _⟩))
  clear h ho hload
  refine (fun (H : ∀ (zs : List Str) (j : Nat), (∀ m y, zs[m]? = some y → ∃ t, vs[j + m]? = some (Value.str y t)) → (zs.findIdx? (· == x)).map (j + ·) = some i → wpAny (model prg w) A.in1 (forIn (List.range' j zs.length) _ _ >>= _) (fun r s' => ∃ v, r = Fin.done (Flow.ret v) ∧ Q v s') E ⟨hp, g, d, tk, os⟩) => H ys 0 (fun m y e => by rw [Nat.zero_add]; exact hat m y e) (by rw [hi]; simp)) ?_
  intro zs
  induction zs with
  | nil => intro j _ e; cases e
  | cons y zs ih =>
    intro j hz e
    obtain ⟨t, ht⟩ := hz 0 y rfl
    rw [Nat.add_zero] at ht
    rw [List.length_cons, List.range'_succ]
    simp only [List.forIn_cons, bind_assoc, ht]
    refine stepY ?_
    rw [List.findIdx?_cons] at e
    cases h0 : (y == x) with
    | true =>
      rw [h0] at e
      have e : j = i := Option.some.inj e
      simp only [if_true, bind_assoc, pure_bind, bind_pure]
      rw [e]
      exact fin
    | false =>
      rw [h0] at e
      simp only [Bool.false_eq_true, if_false, pure_bind, bind_assoc]
      refine ih (j + 1) (fun m z q => ?_) ?_
      · obtain ⟨t', q'⟩ := hz (m + 1) z q
        exact ⟨t', by rw [Nat.add_assoc, Nat.add_comm 1 m]; exact q'⟩
      · rw [← e]
        simp only [Bool.false_eq_true, if_false, Option.map_map]
        congr 1
        funext m
        show j + 1 + m = j + (m + 1)
        omega
end
section
variable {w : World} {n : Nat} {σ : Scope} {ρ : PEnv} {X : Exc → Prop}
theorem strsAre_vals {P : World} {h : Heap} {bad : Addr → Prop} {vs : Array Value} {y0 y1 y2 y3 y4 y5 : Str} (r : RdL P h bad vs.toList [.str y0, .str y1, .str y2, .str y3, .str y4, .str y5]) :
    ∃ t0 t1 t2 t3 t4 t5, vs = #[.str y0 t0, .str y1 t1, .str y2 t2, .str y3 t3, .str y4 t4, .str y5 t5] := by
  obtain ⟨a0, l0, e, r0, r⟩ := r.c
  obtain ⟨a1, l1, e1, r1, r⟩ := r.c
  obtain ⟨a2, l2, e2, r2, r⟩ := r.c
  obtain ⟨a3, l3, e3, r3, r⟩ := r.c
  obtain ⟨a4, a5, e4, r4, r5⟩ := rdl2 r
  obtain ⟨t0, q0⟩ := r0.i
  obtain ⟨t1, q1⟩ := r1.i
  obtain ⟨t2, q2⟩ := r2.i
  obtain ⟨t3, q3⟩ := r3.i
  obtain ⟨t4, q4⟩ := r4.i
  obtain ⟨t5, q5⟩ := r5.i
  exact ⟨t0, t1, t2, t3, t4, t5, by rw [← Array.toList_inj, e, e1, e2, e3, e4, q0, q1, q2, q3, q4, q5]⟩
theorem ev_index {o e : Expr} {ap cp : Pos} {Q : PEnv → PV → Prop} (h : ev w n σ o ρ (fun ρ1 p => ∃ y0 y1 y2 y3 y4 y5, p = .tup [.str y0, .str y1, .str y2, .str y3, .str y4, .str y5] ∧
      ev w n σ e ρ1 (fun ρ2 q => ∃ x, ∃ i : Nat, q = .str x ∧ [y0, y1, y2, y3, y4, y5].findIdx? (· == x) = some i ∧ Q ρ2 (.int i)) X) X)
    (hbase : ∀ env, attributeBase o "index" env (eval o env) = eval o env := by intro _; with_unfolding_all rfl) (hst : ∀ env, starEach [e] env = [(false, eval e env)] := by intro _; with_unfolding_all rfl) (hline : (ap.endLine == cp.line) = true := by with_unfolding_all rfl) :
    ev w n σ (.Call (.Attribute o "index" ap) [e] [] cp) ρ Q X := by
  intro f s m QV EV O S K E
  refine Call_method1 (hbase _) (hst _) hline (h f s m _ EV O S (fun ρ1 p v h1 tk1 S1 r1 k1 => ?_) E)
  obtain ⟨y0, y1, y2, y3, y4, y5, rfl, k1⟩ := k1
  obtain ⟨a, ob, vs, k, rfl, e1, c, d, nb, rs⟩ := r1.i
  refine ⟨"tuple", "tuple.index", PySem.F.plainAttrs_tuple, PySem.F.slot_tuple_index, PySem.F.type_tuple_index, ⟨_, e1, c.cls⟩, fun b z => by cases z; exact ⟨_, e1, c.dict⟩, ?_⟩
  refine Calls.callWith_builtin rfl (Calls.evalArgs_plain (Calls.spliced_cons (k1 (f.re ρ1 m h1) (upd s h1 tk1) m _ EV O.re S1.re (fun ρ2 q vq h2 tk2 S2 r2 k2 => Calls.spliced_nil ?_) (fun x a h' tk' F q => E x a h' tk' (F.back S1) q))))
  obtain ⟨x, i, rfl, hi, q⟩ := k2
  obtain ⟨_, rfl⟩ := r2.i
  have rT := S1.keepRd S2 (.tup e1 c d nb rs)
  obtain ⟨_, _, _, _, ea, e2, c2, d2, nb2, rs2⟩ := rT.i; cases ea
  obtain ⟨t0, t1, t2, t3, t4, t5, rfl⟩ := strsAre_vals rs2
  exact tuple_index6 e2 c2.cls d2 hi (fun tk tk' => K ρ2 _ _ h2 tk' (S1.back S2) (.int _ _) q)
end
end
section
variable {w : World} {n : Nat} {σ sc : Scope} {ρ : PEnv} {X : Exc → Prop}
theorem CallOk.but {A : Around} {base : Heap} {outer : List Env} {bad : Addr → Prop} {h h' : Heap} {C : Addr} (CO : CallOk w n A base outer bad h) (hs : ∀ b o, b ≠ C → h.get? b = some o → h'.get? b = some o) (hC : ∃ o, h'.get? C = some o) (bC : bad C)
    (nf : ∀ e ∈ outer, e.frame ≠ some C) : CallOk w n A base outer bad h' where
  frames := CO.frames
  handled := CO.handled
  depth := CO.depth
  units := CO.units
  bs := CO.bs
  stays := fun b o e => hs b o (fun z => CO.badBase b o e (z ▸ bC)) (CO.stays b o e)
  funs := frames_keep CO.funs fun e he b hb o ho => hs b o (fun z => nf e he (z ▸ hb)) ho
  badOld := fun a q => by
    by_cases z : a = C
    · exact z ▸ hC
    · obtain ⟨o, e⟩ := CO.badOld a q
      exact ⟨o, hs a o z e⟩
  badFr := CO.badFr
  badBase := CO.badBase
theorem CallOk.cx {A : Around} {base : Heap} {outer : List Env} {bad : Addr → Prop} {h : Heap} (CO : CallOk w n A base outer bad h) : Cx w n A h bad := ⟨⟨base, CO.bs, CO.stays⟩, CO.units, fun _ => CO.handled, CO.badOld⟩
theorem ns_has {h : Heap} {C : Addr} {m : Str → Option Value} (n : h.Ns C m) : ∃ o, h.get? C = some o := let ⟨o, _, _, e, _⟩ := n; ⟨o, e⟩
set_option maxHeartbeats 2000000 in
theorem elt_told {x1 x2 x3 g : Str} {p1 p2 p3 tp np n1 cp n2 n3 i2 i3 c2 c3 tp2 pos : Pos} {k1 k2 j2 j3 : Nat} {fa : Addr} {t q0 q1 d2 hi : PV} (hg : ∀ P, nsIn (hp P) mainGlobals g = some (some (.ref fa))) (hf : FnAt fa)
    (ht : fnc w n fa [t] (fun p => p = .tup [q0, q1]) (fun _ => False)) (hfl : (PV.tup [q0, q1]).flat = true) (hsh : SeqAt.shaped (datOf (.tup [q0, q1])) = true) (hn : 4 ≤ n)
    (hx1 : sc.names.lookup x1 = some .local) (hx2 : sc.names.lookup x2 = some .local) (hx3 : sc.names.lookup x3 = some .local) (hgl : sc.names.lookup g = some .globalImplicit) (hk : sc.kind = .function) (n12 : x1 ≠ x2) (n13 : x1 ≠ x3) (n23 : x2 ≠ x3)
    (hd1 : (x1 == ("__debug__" : Str)) = false) (hd2 : (x2 == ("__debug__" : Str)) = false) (hdg : (g == ("__debug__" : Str)) = false) :
    EltOk w n σ sc (.Tuple [.Name x1 p1, .Name x2 p2, .Name x3 p3] k1 tp)
      (.Compare (.Call (.Name g np) [.Name x1 n1] [] cp) [.Eq] [.Tuple [.Subscript (.Name x2 n2) (.Constant (.int 0) j2 i2) c2, .Subscript (.Name x2 n3) (.Constant (.int 1) j3 i3) c3] k2 tp2] pos)
      (.tup [t, .tup [q0, q1, d2], hi]) (.bool true) := by
  intro f s C mC bad v QV EV O CO hC nf ns r K
  have side : ((f.cenv sc C).scope.kind == .class || ((f.cenv sc C).scope.kind == .module && (f.cenv sc C).locals != (f.cenv sc C).globals)) = false := by
    show (sc.kind == .class || (sc.kind == .module && _)) = false
    rw (occs := .all) [hk]; rfl
  obtain ⟨ad, o, vs, kk, rfl, e, c, d, nb, rs⟩ := r.i
  have hT : IsTup s.heap ad vs := ⟨_, e, c.cls, _, d⟩
  have hsz : vs.size = 3 := by rw [← Array.length_toList, rs.length]; rfl
  obtain ⟨v1, v2, v3, hv, r1, r2, r3⟩ : ∃ v1 v2 v3, vs.toList = [v1, v2, v3] ∧ Rd w s.heap bad v1 t ∧ Rd w s.heap bad v2 (.tup [q0, q1, d2]) ∧ Rd w s.heap bad v3 hi := by
    generalize vs.toList = l at rs
    obtain ⟨a, l, rfl, ra, rs⟩ := rs.c
    obtain ⟨b, c, rfl, rb, rc⟩ := rdl2 rs
    exact ⟨a, b, c, rfl, ra, rb, rc⟩
  show wpAny _ _ (do standAt tp; unpack (.ref ad) [(false, assign (.Name x1 p1) (f.cenv sc C)), (false, assign (.Name x2 p2) (f.cenv sc C)), (false, assign (.Name x3 p3) (f.cenv sc C))]) _ _ _
  refine wpAny_bind (wpAny_standAt (unpack_tuple CO.handled hT (by rw [hsz]; rfl) rfl fun h2 he => ?_))
  rw (occs := .all) [hv]
  have g2 : Grows s.heap h2 := grows_ext he
  show wpAny _ _ (do holding [v2, v3] (assign (.Name x1 p1) (f.cenv sc C) v1); holding [v3] (assign (.Name x2 p2) (f.cenv sc C) v2); holding [] (assign (.Name x3 p3) (f.cenv sc C) v3); pure ()) _ _ _
  refine wpAny_bind (wpAny_holding (assign_Name (wpAny_storeName_local (m := mC) hx1 (ns.keeps g2) (fun h3 hn3 hs3 => ?_) side)))
  refine wpAny_bind (wpAny_holding (assign_Name (wpAny_storeName_local hx2 hn3 (fun h4 hn4 hs4 => ?_) side)))
  refine wpAny_bind (wpAny_holding (assign_Name (wpAny_storeName_local hx3 hn4 (fun h5 hn5 hs5 => wpAny_pure ?_) side)))
  have keep : ∀ b ob, b ≠ C → s.heap.get? b = some ob → h5.get? b = some ob := fun b ob z q => (hs5.2 b z).trans ((hs4.2 b z).trans ((hs3.2 b z).trans (g2 b ob q)))
  have C5 := CO.but keep (ns_has hn5) hC nf
  have mv : ∀ {v p}, Rd w s.heap bad v p → Rd w h5 bad v p := fun r => r.move fun b ob q n1 _ => ⟨keep b ob (fun z => n1 (z ▸ hC)) q, n1⟩
  have r1 := mv r1
  have r2 := mv r2
  obtain ⟨m5, hm5, l1, l2⟩ : ∃ m5, h5.Ns C m5 ∧ m5 x1 = some v1 ∧ m5 x2 = some v2 := ⟨_, hn5, by simp [n12, n13], by simp [n23]⟩
  obtain ⟨loose, mean, mg, mb, T⟩ := CO.bs.t
  refine wpAny_Compare1 ?_ (by with_unfolding_all rfl)
  refine Call_ (Name_function_global (env := f.cenv sc C) hk hgl (loadGlobal_global (env := f.cenv sc C) (T.g.keeps C5.stays) (mg_of CO.bs.k T.g (hg _)) ?_) hdg)
  obtain ⟨oc, od, fd, osl, ho⟩ := hf w.params
  refine callWith_def (o := ⟨oc, od, .func fd, osl⟩) rfl (args_cons (wpAny_Name (wpAny_loadName_local (env := f.cenv sc C) hk hx1 hm5 l1 (args_nil ⟨C5.stays _ _ (CO.bs.k _ _ ho), ?_⟩)) hd1) rfl) rfl
  refine wpAny_call (ht f.A f.base (f.env :: f.outer) bad _ [v1] _ C5 (.cons r1 .nil) (fun p vp h6 tk6 sm rp q => ?_) (fun x a h' tk' _ q => q.elim))
  subst q
  have r2' := r2.call sm
  have ns6 : h6.Ns C m5 := sm.ns hm5
  have C6cx : Cx w n f.A h6 bad := ⟨⟨f.base, CO.bs, fun b ob q => sm.exact (C5.stays b ob q) (C5.badBase b ob q)⟩, CO.units, fun _ => CO.handled, fun b q => by
    obtain ⟨ob, e⟩ := C5.badOld b q
    obtain ⟨sl, e', _⟩ := sm b ob e
    exact ⟨_, e'⟩⟩
  refine Tuple_ (args_cons (Subscript_ (wpAny_Name (wpAny_loadName_local (env := f.cenv sc C) hk hx2 ns6 l2 (wpAny_Constant_int ?_)) hd2)) rfl)
  refine op_itemT (w := w) (n := n) (k := 0) (j := 0) (p := q0) (by rfl) rfl (by decide) (by decide) (by intro _ _; with_unfolding_all rfl) f.A ⟨h6, s.gens, s.drawn, _, s.os⟩ bad v2 _ _ EV C6cx r2' (.int 0 _) (fun vq0 h7 tk7 g7 rq0 => ?_)
  have C7cx : Cx w n f.A h7 bad := ⟨let ⟨b, B, st⟩ := C6cx.bs; ⟨b, B, fun b' o' q => g7 _ _ (st b' o' q)⟩, C6cx.units, C6cx.handled, fun b q => let ⟨ob, e⟩ := C6cx.bad b q; ⟨ob, g7 _ _ e⟩⟩
  refine args_cons (Subscript_ (wpAny_Name (wpAny_loadName_local (env := f.cenv sc C) hk hx2 (ns6.keeps g7) l2 (wpAny_Constant_int ?_)) hd2)) rfl
  refine op_itemT (w := w) (n := n) (k := 1) (j := 1) (p := q1) (by rfl) rfl (by decide) (by decide) (by intro _ _; with_unfolding_all rfl) f.A ⟨h7, s.gens, s.drawn, _, s.os⟩ bad v2 _ _ EV C7cx (r2'.grow g7) (.int 1 _) (fun vq1 h8 tk8 g8 rq1 => ?_)
  refine args_nil (wpAny_newTuple ?_ (by rw [sizeLine_eq]; simp))
  have g9 := grows_push h8 { cls := .type "tuple", data := .seq [vq0, vq1].toArray }
  have gAll : Grows h6 (h8.push { cls := .type "tuple", data := .seq [vq0, vq1].toArray }) := fun b ob q => g9 _ _ (g8 _ _ (g7 _ _ q))
  have C9cx : Cx w n f.A (h8.push { cls := .type "tuple", data := .seq [vq0, vq1].toArray }) bad := ⟨let ⟨b, B, st⟩ := C6cx.bs; ⟨b, B, fun b' o' q => gAll _ _ (st b' o' q)⟩, C6cx.units, C6cx.handled, fun b q => let ⟨ob, e⟩ := C6cx.bad b q; ⟨ob, gAll _ _ e⟩⟩
  have nb8 : ¬ bad h8.objs.size := fun q => by
    obtain ⟨ob, e⟩ := C7cx.bad _ q
    exact absurd (Heap.lt_size (g8 _ _ e)) (Nat.lt_irrefl _)
  refine op_eqSelf hfl hsh hn f.A ⟨_, s.gens, s.drawn, _, s.os⟩ bad vp _ _ EV C9cx (rp.grow gAll) (.tup (Heap.get?_push_size _ rfl) ⟨rfl, rfl⟩ rfl nb8 (.cons ((rq0.grow g8).grow g9) (.cons (rq1.grow g9) .nil))) (fun vb h10 tk10 g10 rb => ?_)
  refine K vb h10 tk10 m5 (fun b ob z q => ?_) ((ns6.keeps gAll).keeps g10) rb
  obtain ⟨sl, e1, e2⟩ := sm b ob (keep b ob z q)
  exact ⟨sl, g10 _ _ (gAll _ _ e1), e2⟩
end
inductive Sub : PEnv → PEnv → Prop
  | nil {ρ : PEnv} : Sub [] ρ
  | cons {x : Str} {b : Bnd} {r ρ : PEnv} : Lk x b ρ → Sub r ρ → Sub ((x, b) :: r) ρ
theorem Sub.at {r ρ : PEnv} (h : Sub r ρ) {x : Str} {b : Bnd} (e : r.lookup x = some b) : ρ.lookup x = some b := by
  induction h with
  | nil => cases e
  | cons l _ ih =>
    rename_i y c r r2 hs
    rw (occs := .all) [List.lookup_cons] at e
    by_cases q : x = y
    · subst q
      simp only [beq_self_eq_true, Option.some.injEq] at e
      subst e
      exact l.eq
    · have q' : (x == y) = false := by simpa using q
      rw (occs := .all) [q'] at e
      exact ih e
theorem St.sub {P : World} {f : Fm} {ρ ρ' : PEnv} {m : Str → Option Value} {h : Heap} (S : St P f ρ m h) (k : Sub ρ' ρ) : St P f ρ' m h := by
  have own : ∀ a, OwnAt ρ' m a → OwnAt ρ m a := fun a ⟨x, l, e1, e2⟩ => ⟨x, l, k.at e1, e2⟩
  have less : ∀ a, f.badAt ρ' m a → f.badAt ρ m a := fun a q => q.imp_right fun q => q.imp_right (own a)
  refine ⟨S.ns, fun x b e => ?_, fun x y l l' e1 e2 => S.inj x y l l' (k.at e1) (k.at e2), S.sim, S.stays, S.frames, S.newL, fun a q => S.ownNew a (own a q), S.badOld, S.badFr, S.baseOld⟩
  have z := S.bnd x b (k.at e)
  cases b with
  | fz p =>
    obtain ⟨v, h1, h2⟩ := z
    exact ⟨v, h1, h2.less less⟩
  | own l =>
    obtain ⟨a, o, vs, n, h1, h2, h3, h4, h5⟩ := z
    exact ⟨a, o, vs, n, h1, h2, h3, h4, h5.move fun a o e n _ => ⟨e, fun q => n (less a q)⟩⟩
section
variable {w : World} {n : Nat} {σ : Scope} {ρ ρ' : PEnv} {X : Exc → Prop}
theorem whl_sub {test : Expr} {body : List Stmt} {N : PEnv → Prop} {k : Ks} (s : Sub ρ' ρ) (h : whl w n σ test body ρ' N k X) : whl w n σ test body ρ N k X :=
  fun f s' m R O S K E => h f s' m R O (S.sub s) K E
theorem exs_sub {sts : List Stmt} {N : PEnv → Prop} {k : Ks} (s : Sub ρ' ρ) (h : exs w n σ sts ρ' N k X) : exs w n σ sts ρ N k X :=
  fun f s' m R E O S K Ex => h f s' m R E O (S.sub s) K Ex
theorem Itr.sub {f : Fm} {m : Str → Option Value} {h : Heap} {I : Addr} {items : List PV} (T : Itr w f ρ m h I items) (s : Sub ρ' ρ) : Itr w f ρ' m h I items := by
  have own : ∀ a, OwnAt ρ' m a → OwnAt ρ m a := fun a ⟨x, l, e1, e2⟩ => ⟨x, l, s.at e1, e2⟩
  have less : ∀ a, f.badAt ρ' m a → f.badAt ρ m a := fun a q => q.imp_right fun q => q.imp_right (own a)
  obtain ⟨fp, nn, i, Pv, Stt, W, st, hn, hfp, hI, hit⟩ := T.it
  exact ⟨⟨fp, nn, i, Pv, Stt, W, st, hn, fun b hb => ⟨fun q => (hfp b hb).1 (less b q), (hfp b hb).2⟩, hI, fun j p e v hv => (hit j p e v hv).less less⟩, T.new⟩
theorem frl_sub {x : Str} {px : Pos} {body : List Stmt} {items : List PV} {N : PEnv → Prop} {k : Ks} (s : Sub ρ' ρ) (h : frl w n σ x px body items ρ' N k X) : frl w n σ x px body items ρ N k X :=
  fun f s' m I R O S T K E => h f s' m I R O (S.sub s) (T.sub s) K E
end
section
variable {w : World} {n : Nat} {σ : Scope} {ρ ρ' : PEnv} {X : Exc → Prop}
theorem evb_sub {e : Expr} {Q : PEnv → Bool → Prop} (s : Sub ρ' ρ) (h : evb w n σ e ρ' Q X) : evb w n σ e ρ Q X :=
  fun f s' m QV EV O S K E => h f s' m QV EV O (S.sub s) K E
theorem ex_mono {st : Stmt} {N N' : PEnv → Prop} {k k' : Ks} (h : ex w n σ st ρ N k X) (hQ : ∀ (fl : Fl) ρ', fl.post N k ρ' → fl.post N' k' ρ') : ex w n σ st ρ N' k' X :=
  fun f s m QV EV O S C E => h f s m QV EV O S (fun ρ' m' fl flv h' tk' a b c => C ρ' m' fl flv h' tk' a b (hQ _ _ c)) E
theorem exs_cut {st : Stmt} {rest : List Stmt} {N : PEnv → Prop} {k : Ks} (N' : PEnv → Prop) (h : ex w n σ st ρ N' k X) (h2 : ∀ ρ', N' ρ' → exs w n σ rest ρ' N k X) : exs w n σ (st :: rest) ρ N k X :=
  exs_cons (ex_mono h fun fl ρ' q => by cases fl <;> first | exact h2 _ q | exact q)
theorem Br.mono {b : Bool} {A B A' B' : Prop} (h : Br b A B) (ha : A → A') (hb : B → B') : Br b A' B' := by
  cases b
  · exact hb h
  · exact ha h
theorem whl_inv {test : Expr} {body : List Stmt} {N B C : PEnv → Prop} {R : PV → Prop} {O : Exc → Prop} (I : Nat → PEnv → Prop)
    (h : ∀ k ρ, I k ρ → evb w n σ test ρ (fun ρ1 b => Br b (exs w n σ body ρ1 (fun ρ2 => ∃ k', k' < k ∧ I k' ρ2) ⟨N, fun ρ2 => ∃ k', k' < k ∧ I k' ρ2, R, O⟩ X) (N ρ1)) X) :
    ∀ k ρ, I k ρ → whl w n σ test body ρ N ⟨B, C, R, O⟩ X := by
  intro k
  induction k using Nat.strongRecOn with
  | ind k ih =>
    intro ρ hI
    refine whl_step (evb_mono (h k ρ hI) (fun ρ1 b q => q.mono (fun q => exs_mono q (fun fl ρ2 z => ?_) fun _ z => z) fun q => q) fun _ z => z)
    cases fl with
    | next => obtain ⟨k', h1, h2⟩ := z; exact ih k' h1 ρ2 h2
    | cont => obtain ⟨k', h1, h2⟩ := z; exact ih k' h1 ρ2 h2
    | _ => exact z
theorem frl_inv {x : Str} {px : Pos} {body : List Stmt} {N B C : PEnv → Prop} {R : PV → Prop} {O : Exc → Prop} (I : List PV → PEnv → Prop) (h0 : ∀ ρ, I [] ρ → N ρ)
    (h : ∀ p items ρ, I (p :: items) ρ → ∃ ρ0 ρ1, Sub ρ0 ρ ∧ Put x (.fz p) ρ0 ρ1 ∧ exs w n σ body ρ1 (fun ρ2 => I items ρ2) ⟨N, fun ρ2 => I items ρ2, R, O⟩ X) (hx : σ.names.lookup x = some .local := by kernel_rfl) :
    ∀ items ρ, I items ρ → frl w n σ x px body items ρ N ⟨B, C, R, O⟩ X := by
  intro items
  induction items with
  | nil => intro ρ hI; exact frl_nil (h0 ρ hI)
  | cons p items ih =>
    intro ρ hI
    obtain ⟨ρ0, ρ1, hs, hp, q⟩ := h p items ρ hI
    refine frl_sub hs (frl_cons hp (exs_mono q (fun fl ρ2 z => ?_) fun _ z => z) hx)
    cases fl with
    | next => exact ih ρ2 z
    | cont => exact ih ρ2 z
    | _ => exact z
end
section
variable {w : World} {n : Nat}
theorem s_add {i j : Int} {Q : PV → Prop} (h : Q (.int (i + j))) : ∃ c, Op2 w n (binaryOp .Add) (.int i) (.int j) c ∧ Q c := ⟨_, op_add i j, h⟩
theorem s_sub {i j : Int} {Q : PV → Prop} (h : Q (.int (i - j))) : ∃ c, Op2 w n (binaryOp .Sub) (.int i) (.int j) c ∧ Q c := ⟨_, op_sub i j, h⟩
theorem s_band {i j : Int} {Q : PV → Prop} (h : Q (.int (Builtin.bitAnd i j))) : ∃ c, Op2 w n (binaryOp .BitAnd) (.int i) (.int j) c ∧ Q c := ⟨_, op_and i j, h⟩
theorem s_bor {i j : Int} {Q : PV → Prop} (h : Q (.int (Builtin.bitOr i j))) : ∃ c, Op2 w n (binaryOp .BitOr) (.int i) (.int j) c ∧ Q c := ⟨_, op_or i j, h⟩
theorem s_bxor {i j : Int} {Q : PV → Prop} (h : Q (.int (Builtin.bitXor i j))) : ∃ c, Op2 w n (binaryOp .BitXor) (.int i) (.int j) c ∧ Q c := ⟨_, op_xor i j, h⟩
theorem s_iadd {i j : Int} {Q : PV → Prop} (h : Q (.int (i + j))) : ∃ c, Op2 w n (inplaceOp .Add) (.int i) (.int j) c ∧ Q c := ⟨_, op_iadd i j, h⟩
theorem s_isub {i j : Int} {Q : PV → Prop} (h : Q (.int (i - j))) : ∃ c, Op2 w n (inplaceOp .Sub) (.int i) (.int j) c ∧ Q c := ⟨_, op_isub i j, h⟩
theorem s_mul {i j : Int} {Q : PV → Prop} (hs : IntMulOk i j) (h : Q (.int (i * j))) : ∃ c, Op2 w n (binaryOp .Mult) (.int i) (.int j) c ∧ Q c := ⟨_, op_mul hs, h⟩
theorem s_div {i j : Int} {Q : PV → Prop} (hs : j ≠ 0) (ht : Builtin.divisionGoesByPylong i j = false) (h : Q (.int (i.fdiv j))) : ∃ c, Op2 w n (binaryOp .FloorDiv) (.int i) (.int j) c ∧ Q c := ⟨_, op_div hs ht, h⟩
theorem s_mod {i j : Int} {Q : PV → Prop} (hs : j ≠ 0) (h : Q (.int (i.fmod j))) : ∃ c, Op2 w n (binaryOp .Mod) (.int i) (.int j) c ∧ Q c := ⟨_, op_mod hs, h⟩
theorem s_pow {i j : Int} {Q : PV → Prop} (hs : 0 ≤ j) (ht : (Builtin.Int.intBits i : Int) * j ≤ 2 ^ 27) (h : Q (.int (i ^ j.toNat))) : ∃ c, Op2 w n (binaryOp .Pow) (.int i) (.int j) c ∧ Q c := ⟨_, op_pow hs ht, h⟩
theorem s_shl {i j : Int} {Q : PV → Prop} (hs : 0 ≤ j) (ht : (Builtin.Int.intBits i : Int) + j ≤ 2 ^ 27) (h : Q (.int (i * 2 ^ j.toNat))) : ∃ c, Op2 w n (binaryOp .LShift) (.int i) (.int j) c ∧ Q c := ⟨_, op_shl hs ht, h⟩
theorem s_shr {i j : Int} {Q : PV → Prop} (hs : 0 ≤ j) (h : Q (.int (i.fdiv (2 ^ j.toNat)))) : ∃ c, Op2 w n (binaryOp .RShift) (.int i) (.int j) c ∧ Q c := ⟨_, op_shr hs, h⟩
theorem s_eqI {i j : Int} {Q : PV → Prop} (h : Q (.bool (i == j))) : ∃ c, Op2 w n (compareOp .Eq) (.int i) (.int j) c ∧ Q c := ⟨_, op_eqI i j, h⟩
theorem t_eqI {i j : Int} {Q : Bool → Prop} (h : Q (i == j)) : ∃ c, Op2 w n (compareOp .Eq) (.int i) (.int j) (.bool c) ∧ Q c := ⟨_, op_eqI i j, h⟩
theorem s_neI {i j : Int} {Q : PV → Prop} (h : Q (.bool (i != j))) : ∃ c, Op2 w n (compareOp .NotEq) (.int i) (.int j) c ∧ Q c := ⟨_, op_neI i j, h⟩
theorem t_neI {i j : Int} {Q : Bool → Prop} (h : Q (i != j)) : ∃ c, Op2 w n (compareOp .NotEq) (.int i) (.int j) (.bool c) ∧ Q c := ⟨_, op_neI i j, h⟩
theorem s_lt {i j : Int} {Q : PV → Prop} (h : Q (.bool (decide (i < j)))) : ∃ c, Op2 w n (compareOp .Lt) (.int i) (.int j) c ∧ Q c := ⟨_, op_lt i j, h⟩
theorem t_lt {i j : Int} {Q : Bool → Prop} (h : Q (decide (i < j))) : ∃ c, Op2 w n (compareOp .Lt) (.int i) (.int j) (.bool c) ∧ Q c := ⟨_, op_lt i j, h⟩
theorem s_le {i j : Int} {Q : PV → Prop} (h : Q (.bool (decide (i ≤ j)))) : ∃ c, Op2 w n (compareOp .LtE) (.int i) (.int j) c ∧ Q c := ⟨_, op_le i j, h⟩
theorem t_le {i j : Int} {Q : Bool → Prop} (h : Q (decide (i ≤ j))) : ∃ c, Op2 w n (compareOp .LtE) (.int i) (.int j) (.bool c) ∧ Q c := ⟨_, op_le i j, h⟩
theorem s_gt {i j : Int} {Q : PV → Prop} (h : Q (.bool (decide (j < i)))) : ∃ c, Op2 w n (compareOp .Gt) (.int i) (.int j) c ∧ Q c := ⟨_, op_gt i j, h⟩
theorem t_gt {i j : Int} {Q : Bool → Prop} (h : Q (decide (j < i))) : ∃ c, Op2 w n (compareOp .Gt) (.int i) (.int j) (.bool c) ∧ Q c := ⟨_, op_gt i j, h⟩
theorem s_ge {i j : Int} {Q : PV → Prop} (h : Q (.bool (decide (j ≤ i)))) : ∃ c, Op2 w n (compareOp .GtE) (.int i) (.int j) c ∧ Q c := ⟨_, op_ge i j, h⟩
theorem t_ge {i j : Int} {Q : Bool → Prop} (h : Q (decide (j ≤ i))) : ∃ c, Op2 w n (compareOp .GtE) (.int i) (.int j) (.bool c) ∧ Q c := ⟨_, op_ge i j, h⟩
theorem s_eqS {i j : Str} {Q : PV → Prop} (h : Q (.bool (i == j))) : ∃ c, Op2 w n (compareOp .Eq) (.str i) (.str j) c ∧ Q c := ⟨_, op_eqS i j, h⟩
theorem t_eqS {i j : Str} {Q : Bool → Prop} (h : Q (i == j)) : ∃ c, Op2 w n (compareOp .Eq) (.str i) (.str j) (.bool c) ∧ Q c := ⟨_, op_eqS i j, h⟩
theorem s_neS {i j : Str} {Q : PV → Prop} (h : Q (.bool (i != j))) : ∃ c, Op2 w n (compareOp .NotEq) (.str i) (.str j) c ∧ Q c := ⟨_, op_neS i j, h⟩
theorem t_neS {i j : Str} {Q : Bool → Prop} (h : Q (i != j)) : ∃ c, Op2 w n (compareOp .NotEq) (.str i) (.str j) (.bool c) ∧ Q c := ⟨_, op_neS i j, h⟩
theorem t_ltS {i j : Str} {Q : Bool → Prop} (h : Q (decide (i.cps.toList < j.cps.toList))) : ∃ c, Op2 w n (compareOp .Lt) (.str i) (.str j) (.bool c) ∧ Q c := ⟨_, op_ltS i j, h⟩
theorem s_eqB {i j : Bool} {Q : PV → Prop} (h : Q (.bool (i == j))) : ∃ c, Op2 w n (compareOp .Eq) (.bool i) (.bool j) c ∧ Q c := ⟨_, op_eqB i j, h⟩
theorem t_eqB {i j : Bool} {Q : Bool → Prop} (h : Q (i == j)) : ∃ c, Op2 w n (compareOp .Eq) (.bool i) (.bool j) (.bool c) ∧ Q c := ⟨_, op_eqB i j, h⟩
theorem s_neB {i j : Bool} {Q : PV → Prop} (h : Q (.bool (i != j))) : ∃ c, Op2 w n (compareOp .NotEq) (.bool i) (.bool j) c ∧ Q c := ⟨_, op_neB i j, h⟩
theorem t_neB {i j : Bool} {Q : Bool → Prop} (h : Q (i != j)) : ∃ c, Op2 w n (compareOp .NotEq) (.bool i) (.bool j) (.bool c) ∧ Q c := ⟨_, op_neB i j, h⟩
theorem s_is {p : PV} {Q : PV → Prop} (h : Q (.bool (p.isNone))) : ∃ c, Op2 w n (compareOp .Is) p .none c ∧ Q c := ⟨_, op_is p, h⟩
theorem t_is {p : PV} {Q : Bool → Prop} (h : Q (p.isNone)) : ∃ c, Op2 w n (compareOp .Is) p .none (.bool c) ∧ Q c := ⟨_, op_is p, h⟩
theorem s_isnot {p : PV} {Q : PV → Prop} (h : Q (.bool (!p.isNone))) : ∃ c, Op2 w n (compareOp .IsNot) p .none c ∧ Q c := ⟨_, op_isnot p, h⟩
theorem t_isnot {p : PV} {Q : Bool → Prop} (h : Q (!p.isNone)) : ∃ c, Op2 w n (compareOp .IsNot) p .none (.bool c) ∧ Q c := ⟨_, op_isnot p, h⟩
noncomputable def strD : List PV → List Str
  | .str x :: r => x :: strD r
  | _ => []
noncomputable def allStr : List PV → Bool
  | [] => true
  | .str _ :: r => allStr r
  | _ => false
theorem strsOf_D : ∀ {l : List PV}, allStr l = true → strsOf l = some (strD l)
  | [], _ => rfl
  | .str x :: r, h => by rw [strsOf, strsOf_D (l := r) h]; rfl
  | .none :: _, h => by cases h
  | .bool _ :: _, h => by cases h
  | .int _ :: _, h => by cases h
  | .tup _ :: _, h => by cases h
  | .lst _ :: _, h => by cases h
  | .dic _ :: _, h => by cases h
noncomputable def intD : List PV → List Int
  | .int x :: r => x :: intD r
  | _ => []
noncomputable def allInt : List PV → Bool
  | [] => true
  | .int _ :: r => allInt r
  | _ => false
theorem intsOf_D : ∀ {l : List PV}, allInt l = true → intsOf l = some (intD l)
  | [], _ => rfl
  | .int x :: r, h => by rw [intsOf, intsOf_D (l := r) h]; rfl
  | .none :: _, h => by cases h
  | .bool _ :: _, h => by cases h
  | .str _ :: _, h => by cases h
  | .tup _ :: _, h => by cases h
  | .lst _ :: _, h => by cases h
  | .dic _ :: _, h => by cases h
theorem s_inT {l : List PV} {x : Str} {Q : PV → Prop} (hl : allStr l = true) (h : Q (.bool ((strD l).any (· == x)))) : ∃ c, Op2 w n (compareOp .In) (.str x) (.tup l) c ∧ Q c := ⟨_, op_inT (strsOf_D hl), h⟩
theorem t_inT {l : List PV} {x : Str} {Q : Bool → Prop} (hl : allStr l = true) (h : Q ((strD l).any (· == x))) : ∃ c, Op2 w n (compareOp .In) (.str x) (.tup l) (.bool c) ∧ Q c := ⟨_, op_inT (strsOf_D hl), h⟩
theorem s_inTI {l : List PV} {x : Int} {Q : PV → Prop} (hl : allInt l = true) (h : Q (.bool ((intD l).any (· == x)))) : ∃ c, Op2 w n (compareOp .In) (.int x) (.tup l) c ∧ Q c := ⟨_, op_inTI (intsOf_D hl), h⟩
theorem t_inTI {l : List PV} {x : Int} {Q : Bool → Prop} (hl : allInt l = true) (h : Q ((intD l).any (· == x))) : ∃ c, Op2 w n (compareOp .In) (.int x) (.tup l) (.bool c) ∧ Q c := ⟨_, op_inTI (intsOf_D hl), h⟩
theorem t_ninT {l : List PV} {x : Str} {Q : Bool → Prop} (hl : allStr l = true) (h : Q (!((strD l).any (· == x)))) : ∃ c, Op2 w n (compareOp .NotIn) (.str x) (.tup l) (.bool c) ∧ Q c := ⟨_, op_ninT (strsOf_D hl), h⟩
theorem s_neg {i : Int} {Q : PV → Prop} (h : Q (.int (-i))) : ∃ c, Op1 w n (unaryOp .USub) (.int i) c ∧ Q c := ⟨_, op_neg i, h⟩
theorem s_inv {i : Int} {Q : PV → Prop} (h : Q (.int (Builtin.bitNot i))) : ∃ c, Op1 w n (unaryOp .Invert) (.int i) c ∧ Q c := ⟨_, op_inv i, h⟩
theorem s_notb {i : Bool} {Q : PV → Prop} (h : Q (.bool (!i))) : ∃ c, Op1 w n (unaryOp .Not) (.bool i) c ∧ Q c := ⟨_, op_notb i, h⟩
theorem s_bool {b : Bool} {Q : Bool → Prop} (h : Q b) : ∃ c, PV.bool b = PV.bool c ∧ Q c := ⟨_, rfl, h⟩
theorem s_addS {x y : Str} {Q : PV → Prop} (hs : x.length + y.length ≤ sizeLine) (h : Q (.str (x ++ y))) : ∃ c, Op2 w n (binaryOp .Add) (.str x) (.str y) c ∧ Q c := ⟨_, op_addS hs, h⟩
theorem s_abs {i : Int} {Q : PV → Prop} (h : Q (.int (if i < 0 then -i else i))) : ∃ c, OpN w n (fun vs => call (.builtin "abs") vs) [.int i] c ∧ Q c := ⟨_, op_abs i, h⟩
theorem s_strI {i : Int} {Q : PV → Prop} (hs : i.natAbs.log2 < 1920) (h : Q (.str (Str.ofString (toString i)))) : ∃ c, OpN w n (fun vs => call (.type "str") vs) [.int i] c ∧ Q c := ⟨_, op_strI hs, h⟩
theorem s_lenL {l : List PV} {Q : PV → Prop} (hs : l.length ≤ sizeLine) (h : Q (.int l.length)) : ∃ c, OpN w n (fun vs => call (.builtin "len") vs) [.lst l] c ∧ Q c := ⟨_, op_lenL hs, h⟩
theorem s_divmod {i j : Int} {Q : PV → Prop} (hs : j ≠ 0) (ht : Builtin.divisionGoesByPylong i j = false) (h : Q (.tup [.int (i.fdiv j), .int (i.fmod j)])) : ∃ c, OpN w n (fun vs => call (.builtin "divmod") vs) [.int i, .int j] c ∧ Q c := ⟨_, op_divmod hs ht, h⟩
theorem s_max2 {i j : Int} {Q : PV → Prop} (hn : 0 < n) (h : Q (.int (if j > i then j else i))) : ∃ c, OpN w n (fun vs => call (.builtin "max") vs) [.int i, .int j] c ∧ Q c := ⟨_, op_max2 i j hn, h⟩
theorem s_min2 {i j : Int} {Q : PV → Prop} (hn : 0 < n) (h : Q (.int (if j < i then j else i))) : ∃ c, OpN w n (fun vs => call (.builtin "min") vs) [.int i, .int j] c ∧ Q c := ⟨_, op_min2 i j hn, h⟩
theorem s_itemT {value slice : Expr} {l : List PV} {k : Int} {j : Nat} {p : PV} {Q : PV → Prop} (hj : seqIndex? k l.length = some j) (hp : l[j]? = some p) (h1 : -2 ^ 63 ≤ k) (h2 : k < 2 ^ 63)
    (hs : ∀ a t, subscripted slice false (Value.ref a) (Value.int k t) = operate [Value.ref a, Value.int k t] (getItem (Value.ref a) (Value.int k t))) (h : Q p) : ∃ c, Op2 w n (subscriptTail value slice) (.tup l) (.int k) c ∧ Q c := ⟨_, op_itemT hj hp h1 h2 hs, h⟩
end
section
variable {w : World} {n : Nat} {σ : Scope} {ρ : PEnv} {X : Exc → Prop}
noncomputable def Ev1 (w : World) (n : Nat) (σ : Scope) (ρ : PEnv) (e : Expr) (p : PV) : Prop := ∀ (Q : PEnv → PV → Prop) (X : Exc → Prop), Q ρ p → ev w n σ e ρ Q X
noncomputable def Evs1 (w : World) (n : Nat) (σ : Scope) (ρ : PEnv) (es : List Expr) (ps : List PV) : Prop := ∀ (Q : PEnv → List PV → Prop) (X : Exc → Prop), Q ρ ps → evs w n σ es ρ Q X
noncomputable def Evb1 (w : World) (n : Nat) (σ : Scope) (ρ : PEnv) (e : Expr) (b : Bool) : Prop := ∀ (Q : PEnv → Bool → Prop) (X : Exc → Prop), Q ρ b → evb w n σ e ρ Q X
theorem ev_of {e : Expr} {p : PV} {Q : PEnv → PV → Prop} (h : Ev1 w n σ ρ e p) (q : Q ρ p) : ev w n σ e ρ Q X := h Q X q
theorem evs_of {es : List Expr} {ps : List PV} {Q : PEnv → List PV → Prop} (h : Evs1 w n σ ρ es ps) (q : Q ρ ps) : evs w n σ es ρ Q X := h Q X q
theorem evb_of {e : Expr} {b : Bool} {Q : PEnv → Bool → Prop} (h : Evb1 w n σ ρ e b) (q : Q ρ b) : evb w n σ e ρ Q X := h Q X q
theorem e1_name {x : Str} {pos : Pos} {p : PV} (hl : Lk x (.fz p) ρ) (hx : σ.names.lookup x = some .local := by kernel_rfl) (hd : (x == ("__debug__" : Str)) = false := by kernel_rfl) : Ev1 w n σ ρ (.Name x pos) p := fun Q X q => ev_name hl q hx hd
theorem e1_int {i : Int} {k : Nat} {pos : Pos} : Ev1 w n σ ρ (.Constant (.int i) k pos) (.int i) := fun Q X q => ev_int q
theorem e1_str {x : Str} {k : Nat} {pos : Pos} : Ev1 w n σ ρ (.Constant (.str x) k pos) (.str x) := fun Q X q => ev_str q
theorem e1_bool {b : Bool} {k : Nat} {pos : Pos} : Ev1 w n σ ρ (.Constant (.bool b) k pos) (.bool b) := fun Q X q => ev_bool q
theorem e1_none {k : Nat} {pos : Pos} : Ev1 w n σ ρ (.Constant .none k pos) .none := fun Q X q => ev_none q
theorem e1_bin {l r : Expr} {op : Operator} {pos : Pos} {a b c : PV} (hl : Ev1 w n σ ρ l a) (hr : Ev1 w n σ ρ r b) (h : Op2 w n (binaryOp op) a b c) : Ev1 w n σ ρ (.BinOp l op r pos) c := fun Q X q => ev_bin (hl _ _ (hr _ _ ⟨c, h, q⟩))
theorem e1_un {l : Expr} {op : UnaryOp} {pos : Pos} {a c : PV} (hl : Ev1 w n σ ρ l a) (h : Op1 w n (unaryOp op) a c) : Ev1 w n σ ρ (.UnaryOp op l pos) c := fun Q X q => ev_un (hl _ _ ⟨c, h, q⟩)
theorem e1_cmp {l r : Expr} {op : CmpOp} {pos : Pos} {a b c : PV} (hl : Ev1 w n σ ρ l a) (hr : Ev1 w n σ ρ r b) (h : Op2 w n (compareOp op) a b c) (hm : behindInMarks op r = false := by with_unfolding_all rfl) : Ev1 w n σ ρ (.Compare l [op] [r] pos) c := fun Q X q => ev_cmp (hl _ _ (hr _ _ ⟨c, h, q⟩)) hm
theorem b1_cmp {l r : Expr} {op : CmpOp} {pos : Pos} {a b : PV} {c : Bool} (hl : Ev1 w n σ ρ l a) (hr : Ev1 w n σ ρ r b) (h : Op2 w n (compareOp op) a b (.bool c)) (hm : behindInMarks op r = false := by with_unfolding_all rfl) : Evb1 w n σ ρ (.Compare l [op] [r] pos) c := fun Q X q => evb_cmp (hl _ _ (hr _ _ ⟨c, h, q⟩)) hm
theorem e1_sub {value slice : Expr} {pos : Pos} {o i c : PV} (hl : Ev1 w n σ ρ value o) (hr : Ev1 w n σ ρ slice i) (h : Op2 w n (subscriptTail value slice) o i c) : Ev1 w n σ ρ (.Subscript value slice pos) c := fun Q X q => ev_sub (hl _ _ (hr _ _ ⟨c, h, q⟩))
theorem e1_tuple {es : List Expr} {k : Nat} {pos : Pos} {ps : List PV} (h : Evs1 w n σ ρ es ps) (hs : Nat.ble ps.length 1000 = true) : Ev1 w n σ ρ (.Tuple es k pos) (.tup ps) := fun Q X q => ev_tuple (h _ _ ⟨by rw [sizeLine_eq]; have := Nat.le_of_ble_eq_true hs; omega, q⟩)
theorem e1_list {es : List Expr} {pos : Pos} {ps : List PV} (h : Evs1 w n σ ρ es ps) (hs : Nat.ble ps.length 1000 = true) : Ev1 w n σ ρ (.List es pos) (.lst ps) := fun Q X q => ev_list (h _ _ ⟨by rw [sizeLine_eq]; have := Nat.le_of_ble_eq_true hs; omega, q⟩)
theorem es1_nil : Evs1 w n σ ρ [] [] := fun Q X q => evs_nil q
theorem es1_cons {e : Expr} {rest : List Expr} {p : PV} {ps : List PV} (h : Ev1 w n σ ρ e p) (hr : Evs1 w n σ ρ rest ps) (he : ∀ env, starEach (e :: rest) env = (false, eval e env) :: starEach rest env) : Evs1 w n σ ρ (e :: rest) (p :: ps) := fun Q X q => evs_cons (h _ _ (hr _ _ q)) he
theorem xs_ret {e : Expr} {pos : Pos} {rest : List Stmt} {N B C : PEnv → Prop} {R : PV → Prop} {O : Exc → Prop} {p : PV} (h : Ev1 w n σ ρ e p) (q : R p) : exs w n σ (.Return (some e) pos :: rest) ρ N ⟨B, C, R, O⟩ X := exs_cons (ex_ret (h _ _ q))
theorem xs_assign {x : Str} {pos' pos : Pos} {value : Expr} {rest : List Stmt} {N : PEnv → Prop} {k : Ks} {p : PV} {ρ2 : PEnv} (h : Ev1 w n σ ρ value p) (hp : Put x (.fz p) ρ ρ2) (q : exs w n σ rest ρ2 N k X) (hx : σ.names.lookup x = some .local := by kernel_rfl)
    (hs : ∀ env, swapsWith value (some (.Name x pos')) pos.line env = pure false := by intro _; with_unfolding_all rfl) : exs w n σ (.Assign [.Name x pos'] value pos :: rest) ρ N k X := exs_cons (ex_assign (h _ _ ⟨ρ2, hp, q⟩) hx hs)
theorem x_assign {x : Str} {pos' pos : Pos} {value : Expr} {N : PEnv → Prop} {k : Ks} {p : PV} {ρ2 : PEnv} (h : Ev1 w n σ ρ value p) (hp : Put x (.fz p) ρ ρ2) (q : N ρ2) (hx : σ.names.lookup x = some .local := by kernel_rfl)
    (hs : ∀ env, swapsWith value (some (.Name x pos')) pos.line env = pure false := by intro _; with_unfolding_all rfl) : ex w n σ (.Assign [.Name x pos'] value pos) ρ N k X := ex_assign (h _ _ ⟨ρ2, hp, q⟩) hx hs
theorem o_inT {l : List PV} {x : Str} (hl : allStr l = true) : Op2 w n (compareOp .In) (.str x) (.tup l) (.bool ((strD l).any (· == x))) := op_inT (strsOf_D hl)
theorem o_inTI {l : List PV} {x : Int} (hl : allInt l = true) : Op2 w n (compareOp .In) (.int x) (.tup l) (.bool ((intD l).any (· == x))) := op_inTI (intsOf_D hl)
theorem o_ninT {l : List PV} {x : Str} (hl : allStr l = true) : Op2 w n (compareOp .NotIn) (.str x) (.tup l) (.bool (!((strD l).any (· == x)))) := op_ninT (strsOf_D hl)
end
theorem exs_cutS {w : World} {n : Nat} {σ : Scope} {ρ L : PEnv} {X : Exc → Prop} {P : Prop} {st : Stmt} {rest : List Stmt} {N : PEnv → Prop} {k : Ks} (h : ex w n σ st ρ (fun ρ => Sub L ρ ∧ P) k X) (h2 : P → exs w n σ rest L N k X) : exs w n σ (st :: rest) ρ N k X :=
  exs_cut _ h fun _ q => exs_sub q.1 (h2 q.2)
theorem lv {a b n : Nat} (h : Nat.ble a b = true) : a ≤ n + b := Nat.le_trans (Nat.le_of_ble_eq_true h) (Nat.le_add_left b n)
theorem lenC {α : Type} {vs : List α} {n : Nat} (h : vs.length = n + 1) : ∃ a l, vs = a :: l ∧ l.length = n := by
  cases vs with
  | nil => exact absurd h (Nat.zero_ne_add_one n)
  | cons a l => exact ⟨a, l, rfl, Nat.succ.inj h⟩
section
variable {s : Shared} {f : FuncData} {xs : List Str} {vs : List Value}
theorem bt0 (h : vs.length = 0) (k : BindsTo s f ⟨[], []⟩ (xs.zip [])) : BindsTo s f ⟨vs, []⟩ (xs.zip vs) := by rw [List.eq_nil_of_length_eq_zero h]; exact k
theorem bt1 (h : vs.length = 1) (k : ∀ a, BindsTo s f ⟨[a], []⟩ (xs.zip [a])) : BindsTo s f ⟨vs, []⟩ (xs.zip vs) := by
  obtain ⟨a, l0, e0, h0⟩ := lenC h
  rw (occs := .all) [e0, List.eq_nil_of_length_eq_zero h0]; exact k a
theorem bt2 (h : vs.length = 2) (k : ∀ a b, BindsTo s f ⟨[a, b], []⟩ (xs.zip [a, b])) : BindsTo s f ⟨vs, []⟩ (xs.zip vs) := by
  obtain ⟨a, l0, e0, h0⟩ := lenC h
  obtain ⟨b, l1, e1, h1⟩ := lenC h0
  rw (occs := .all) [e0, e1, List.eq_nil_of_length_eq_zero h1]; exact k a b
theorem bt3 (h : vs.length = 3) (k : ∀ a b c, BindsTo s f ⟨[a, b, c], []⟩ (xs.zip [a, b, c])) : BindsTo s f ⟨vs, []⟩ (xs.zip vs) := by
  obtain ⟨a, l0, e0, h0⟩ := lenC h
  obtain ⟨b, l1, e1, h1⟩ := lenC h0
  obtain ⟨c, l2, e2, h2⟩ := lenC h1
  rw (occs := .all) [e0, e1, e2, List.eq_nil_of_length_eq_zero h2]; exact k a b c
theorem bt4 (h : vs.length = 4) (k : ∀ a b c d, BindsTo s f ⟨[a, b, c, d], []⟩ (xs.zip [a, b, c, d])) : BindsTo s f ⟨vs, []⟩ (xs.zip vs) := by
  obtain ⟨a, l0, e0, h0⟩ := lenC h
  obtain ⟨b, l1, e1, h1⟩ := lenC h0
  obtain ⟨c, l2, e2, h2⟩ := lenC h1
  obtain ⟨d, l3, e3, h3⟩ := lenC h2
  rw (occs := .all) [e0, e1, e2, e3, List.eq_nil_of_length_eq_zero h3]; exact k a b c d
end
theorem fillFa : hp = hp ∧ PySem.Challenge.rw_np0140_01 = PySem.Challenge.rw_np0140_01 := by
  k_fill
  exact ⟨rfl, rfl⟩
noncomputable def fnQ : Option Obj → Bool
  | some ⟨_, _, .func _, _⟩ => true
  | _ => false
theorem fnAt_of {fa : Addr} (h : ∀ P : Params, fnQ ((hp P).lookup fa) = true) : FnAt fa := fun P => by
  have q := h P
  unfold fnQ at q
  split at q
  · rename_i c d fd sl e
    exact ⟨c, d, fd, sl, e⟩
  · cases q
theorem g_error (P : Params) : nsIn (hp P) mainGlobals "error" = some (some (.ref 77)) := by k_is
theorem f_error : FnAt 77 := fnAt_of fun P => by kernel_rfl
theorem g_is_blank (P : Params) : nsIn (hp P) mainGlobals "is_blank" = some (some (.ref 84)) := by k_is
theorem f_is_blank : FnAt 84 := fnAt_of fun P => by kernel_rfl
theorem g_digit (P : Params) : nsIn (hp P) mainGlobals "digit" = some (some (.ref 91)) := by k_is
theorem f_digit : FnAt 91 := fnAt_of fun P => by kernel_rfl
theorem g_digits_value (P : Params) : nsIn (hp P) mainGlobals "digits_value" = some (some (.ref 98)) := by k_is
theorem f_digits_value : FnAt 98 := fnAt_of fun P => by kernel_rfl
theorem g_base_of (P : Params) : nsIn (hp P) mainGlobals "base_of" = some (some (.ref 105)) := by k_is
theorem f_base_of : FnAt 105 := fnAt_of fun P => by kernel_rfl
theorem g_whole_of (P : Params) : nsIn (hp P) mainGlobals "whole_of" = some (some (.ref 112)) := by k_is
theorem f_whole_of : FnAt 112 := fnAt_of fun P => by kernel_rfl
theorem g_bool_of (P : Params) : nsIn (hp P) mainGlobals "bool_of" = some (some (.ref 119)) := by k_is
theorem f_bool_of : FnAt 119 := fnAt_of fun P => by kernel_rfl
theorem g_need_bool (P : Params) : nsIn (hp P) mainGlobals "need_bool" = some (some (.ref 126)) := by k_is
theorem f_need_bool : FnAt 126 := fnAt_of fun P => by kernel_rfl
theorem g_text_of_numbers (P : Params) : nsIn (hp P) mainGlobals "text_of_numbers" = some (some (.ref 133)) := by k_is
theorem f_text_of_numbers : FnAt 133 := fnAt_of fun P => by kernel_rfl
theorem g_wide (P : Params) : nsIn (hp P) mainGlobals "wide" = some (some (.ref 140)) := by k_is
theorem f_wide : FnAt 140 := fnAt_of fun P => by kernel_rfl
theorem g_check_behind (P : Params) : nsIn (hp P) mainGlobals "check_behind" = some (some (.ref 168)) := by k_is
theorem f_check_behind : FnAt 168 := fnAt_of fun P => by kernel_rfl
theorem g_braced_element (P : Params) : nsIn (hp P) mainGlobals "braced_element" = some (some (.ref 175)) := by k_is
theorem f_braced_element : FnAt 175 := fnAt_of fun P => by kernel_rfl
theorem g_bare_element (P : Params) : nsIn (hp P) mainGlobals "bare_element" = some (some (.ref 189)) := by k_is
theorem f_bare_element : FnAt 189 := fnAt_of fun P => by kernel_rfl
theorem g_find_element (P : Params) : nsIn (hp P) mainGlobals "find_element" = some (some (.ref 196)) := by k_is
theorem f_find_element : FnAt 196 := fnAt_of fun P => by kernel_rfl
theorem g_split_list (P : Params) : nsIn (hp P) mainGlobals "split_list" = some (some (.ref 203)) := by k_is
theorem f_split_list : FnAt 203 := fnAt_of fun P => by kernel_rfl
theorem g_operand_fault (P : Params) : nsIn (hp P) mainGlobals "operand_fault" = some (some (.ref 210)) := by k_is
theorem f_operand_fault : FnAt 210 := fnAt_of fun P => by kernel_rfl
theorem g_operand (P : Params) : nsIn (hp P) mainGlobals "operand" = some (some (.ref 217)) := by k_is
theorem f_operand : FnAt 217 := fnAt_of fun P => by kernel_rfl
theorem g_unary (P : Params) : nsIn (hp P) mainGlobals "unary" = some (some (.ref 224)) := by k_is
theorem f_unary : FnAt 224 := fnAt_of fun P => by kernel_rfl
theorem g_need_divisor (P : Params) : nsIn (hp P) mainGlobals "need_divisor" = some (some (.ref 231)) := by k_is
theorem f_need_divisor : FnAt 231 := fnAt_of fun P => by kernel_rfl
theorem g_power (P : Params) : nsIn (hp P) mainGlobals "power" = some (some (.ref 238)) := by k_is
theorem f_power : FnAt 238 := fnAt_of fun P => by kernel_rfl
theorem g_need_count (P : Params) : nsIn (hp P) mainGlobals "need_count" = some (some (.ref 245)) := by k_is
theorem f_need_count : FnAt 245 := fnAt_of fun P => by kernel_rfl
theorem g_shifted_left (P : Params) : nsIn (hp P) mainGlobals "shifted_left" = some (some (.ref 252)) := by k_is
theorem f_shifted_left : FnAt 252 := fnAt_of fun P => by kernel_rfl
theorem g_shifted_right (P : Params) : nsIn (hp P) mainGlobals "shifted_right" = some (some (.ref 259)) := by k_is
theorem f_shifted_right : FnAt 259 := fnAt_of fun P => by kernel_rfl
theorem g_arithmetic (P : Params) : nsIn (hp P) mainGlobals "arithmetic" = some (some (.ref 266)) := by k_is
theorem f_arithmetic : FnAt 266 := fnAt_of fun P => by kernel_rfl
theorem g_text_order (P : Params) : nsIn (hp P) mainGlobals "text_order" = some (some (.ref 273)) := by k_is
theorem f_text_order : FnAt 273 := fnAt_of fun P => by kernel_rfl
theorem g_order_of (P : Params) : nsIn (hp P) mainGlobals "order_of" = some (some (.ref 280)) := by k_is
theorem f_order_of : FnAt 280 := fnAt_of fun P => by kernel_rfl
theorem g_relation (P : Params) : nsIn (hp P) mainGlobals "relation" = some (some (.ref 287)) := by k_is
theorem f_relation : FnAt 287 := fnAt_of fun P => by kernel_rfl
theorem g_binary (P : Params) : nsIn (hp P) mainGlobals "binary" = some (some (.ref 294)) := by k_is
theorem f_binary : FnAt 294 := fnAt_of fun P => by kernel_rfl
theorem g_function_rows (P : Params) : nsIn (hp P) mainGlobals "function_rows" = some (some (.ref 301)) := by k_is
theorem f_function_rows : FnAt 301 := fnAt_of fun P => by kernel_rfl
theorem g_need_number (P : Params) : nsIn (hp P) mainGlobals "need_number" = some (some (.ref 308)) := by k_is
theorem f_need_number : FnAt 308 := fnAt_of fun P => by kernel_rfl
theorem g_root_of (P : Params) : nsIn (hp P) mainGlobals "root_of" = some (some (.ref 315)) := by k_is
theorem f_root_of : FnAt 315 := fnAt_of fun P => by kernel_rfl
theorem g_function_value (P : Params) : nsIn (hp P) mainGlobals "function_value" = some (some (.ref 322)) := by k_is
theorem f_function_value : FnAt 322 := fnAt_of fun P => by kernel_rfl
theorem g_count_fault (P : Params) : nsIn (hp P) mainGlobals "count_fault" = some (some (.ref 329)) := by k_is
theorem f_count_fault : FnAt 329 := fnAt_of fun P => by kernel_rfl
theorem g_call_function (P : Params) : nsIn (hp P) mainGlobals "call_function" = some (some (.ref 336)) := by k_is
theorem f_call_function : FnAt 336 := fnAt_of fun P => by kernel_rfl
theorem g_call_value (P : Params) : nsIn (hp P) mainGlobals "call_value" = some (some (.ref 350)) := by k_is
theorem f_call_value : FnAt 350 := fnAt_of fun P => by kernel_rfl
theorem g_leaf_value (P : Params) : nsIn (hp P) mainGlobals "leaf_value" = some (some (.ref 357)) := by k_is
theorem f_leaf_value : FnAt 357 := fnAt_of fun P => by kernel_rfl
theorem g_logic_value (P : Params) : nsIn (hp P) mainGlobals "logic_value" = some (some (.ref 364)) := by k_is
theorem f_logic_value : FnAt 364 := fnAt_of fun P => by kernel_rfl
theorem g_reckon (P : Params) : nsIn (hp P) mainGlobals "reckon" = some (some (.ref 371)) := by k_is
theorem f_reckon : FnAt 371 := fnAt_of fun P => by kernel_rfl
theorem g_law_rows (P : Params) : nsIn (hp P) mainGlobals "_law_rows" = some (some (.ref 378)) := by k_is
theorem f_law_rows : FnAt 378 := fnAt_of fun P => by kernel_rfl
theorem g_law_texts (P : Params) : nsIn (hp P) mainGlobals "_law_texts" = some (some (.ref 385)) := by k_is
theorem f_law_texts : FnAt 385 := fnAt_of fun P => by kernel_rfl
theorem g_law_items (P : Params) : nsIn (hp P) mainGlobals "_law_items" = some (some (.ref 392)) := by k_is
theorem f_law_items : FnAt 392 := fnAt_of fun P => by kernel_rfl
theorem g_law_whole (P : Params) : nsIn (hp P) mainGlobals "_law_whole" = some (some (.ref 399)) := by k_is
theorem f_law_whole : FnAt 399 := fnAt_of fun P => by kernel_rfl
theorem g_law_leaf (P : Params) : nsIn (hp P) mainGlobals "_law_leaf" = some (some (.ref 406)) := by k_is
theorem f_law_leaf : FnAt 406 := fnAt_of fun P => by kernel_rfl
theorem g_law_truth (P : Params) : nsIn (hp P) mainGlobals "_law_truth" = some (some (.ref 413)) := by k_is
theorem f_law_truth : FnAt 413 := fnAt_of fun P => by kernel_rfl
theorem g_law_no_truth (P : Params) : nsIn (hp P) mainGlobals "_law_no_truth" = some (some (.ref 420)) := by k_is
theorem f_law_no_truth : FnAt 420 := fnAt_of fun P => by kernel_rfl
theorem g_law_no_operand (P : Params) : nsIn (hp P) mainGlobals "_law_no_operand" = some (some (.ref 427)) := by k_is
theorem f_law_no_operand : FnAt 427 := fnAt_of fun P => by kernel_rfl
theorem g_law_domain (P : Params) : nsIn (hp P) mainGlobals "_law_domain" = some (some (.ref 434)) := by k_is
theorem f_law_domain : FnAt 434 := fnAt_of fun P => by kernel_rfl
theorem g_law_unary (P : Params) : nsIn (hp P) mainGlobals "_law_unary" = some (some (.ref 441)) := by k_is
theorem f_law_unary : FnAt 441 := fnAt_of fun P => by kernel_rfl
theorem g_law_order (P : Params) : nsIn (hp P) mainGlobals "_law_order" = some (some (.ref 448)) := by k_is
theorem f_law_order : FnAt 448 := fnAt_of fun P => by kernel_rfl
theorem g_law_quotient (P : Params) : nsIn (hp P) mainGlobals "_law_quotient" = some (some (.ref 455)) := by k_is
theorem f_law_quotient : FnAt 455 := fnAt_of fun P => by kernel_rfl
theorem g_law_both (P : Params) : nsIn (hp P) mainGlobals "_law_both" = some (some (.ref 462)) := by k_is
theorem f_law_both : FnAt 462 := fnAt_of fun P => by kernel_rfl
theorem g_law_power (P : Params) : nsIn (hp P) mainGlobals "_law_power" = some (some (.ref 469)) := by k_is
theorem f_law_power : FnAt 469 := fnAt_of fun P => by kernel_rfl
theorem g_law_shift (P : Params) : nsIn (hp P) mainGlobals "_law_shift" = some (some (.ref 476)) := by k_is
theorem f_law_shift : FnAt 476 := fnAt_of fun P => by kernel_rfl
theorem g_law_arithmetic (P : Params) : nsIn (hp P) mainGlobals "_law_arithmetic" = some (some (.ref 483)) := by k_is
theorem f_law_arithmetic : FnAt 483 := fnAt_of fun P => by kernel_rfl
theorem g_law_binary (P : Params) : nsIn (hp P) mainGlobals "_law_binary" = some (some (.ref 490)) := by k_is
theorem f_law_binary : FnAt 490 := fnAt_of fun P => by kernel_rfl
theorem g_law_root (P : Params) : nsIn (hp P) mainGlobals "_law_root" = some (some (.ref 497)) := by k_is
theorem f_law_root : FnAt 497 := fnAt_of fun P => by kernel_rfl
theorem g_law_call (P : Params) : nsIn (hp P) mainGlobals "_law_call" = some (some (.ref 502)) := by k_is
theorem f_law_call : FnAt 502 := fnAt_of fun P => by kernel_rfl
theorem g_law_logic (P : Params) : nsIn (hp P) mainGlobals "_law_logic" = some (some (.ref 509)) := by k_is
theorem f_law_logic : FnAt 509 := fnAt_of fun P => by kernel_rfl
theorem g_law_is_small (P : Params) : nsIn (hp P) mainGlobals "_law_is_small" = some (some (.ref 516)) := by k_is
theorem f_law_is_small : FnAt 516 := fnAt_of fun P => by kernel_rfl
theorem g_law_many (P : Params) : nsIn (hp P) mainGlobals "_law_many" = some (some (.ref 523)) := by k_is
theorem f_law_many : FnAt 523 := fnAt_of fun P => by kernel_rfl
theorem g_law_node (P : Params) : nsIn (hp P) mainGlobals "_law_node" = some (some (.ref 530)) := by k_is
theorem f_law_node : FnAt 530 := fnAt_of fun P => by kernel_rfl
theorem g_law_told (P : Params) : nsIn (hp P) mainGlobals "_law_told" = some (some (.ref 537)) := by k_is
theorem f_law_told : FnAt 537 := fnAt_of fun P => by kernel_rfl
theorem g_law (P : Params) : nsIn (hp P) mainGlobals "law" = some (some (.ref 542)) := by k_is
theorem g_len (P : Params) : nsIn (hp P) mainGlobals "len" = some none := by k_is
theorem g_ord (P : Params) : nsIn (hp P) mainGlobals "ord" = some none := by k_is
theorem g_abs (P : Params) : nsIn (hp P) mainGlobals "abs" = some none := by k_is
theorem g_divmod (P : Params) : nsIn (hp P) mainGlobals "divmod" = some none := by k_is
theorem g_max (P : Params) : nsIn (hp P) mainGlobals "max" = some none := by k_is
theorem g_min (P : Params) : nsIn (hp P) mainGlobals "min" = some none := by k_is
theorem g_str (P : Params) : nsIn (hp P) mainGlobals "str" = some none := by k_is
theorem g_tuple (P : Params) : nsIn (hp P) mainGlobals "tuple" = some none := by k_is
theorem g_range (P : Params) : nsIn (hp P) mainGlobals "range" = some none := by k_is
theorem g_sorted (P : Params) : nsIn (hp P) mainGlobals "sorted" = some none := by k_is
theorem g_all (P : Params) : nsIn (hp P) mainGlobals "all" = some none := by k_is
theorem b_len : bootBuiltins "len" = some (.builtin "len") := by decide +kernel
theorem b_ord : bootBuiltins "ord" = some (.builtin "ord") := by decide +kernel
theorem b_abs : bootBuiltins "abs" = some (.builtin "abs") := by decide +kernel
theorem b_divmod : bootBuiltins "divmod" = some (.builtin "divmod") := by decide +kernel
theorem b_max : bootBuiltins "max" = some (.builtin "max") := by decide +kernel
theorem b_min : bootBuiltins "min" = some (.builtin "min") := by decide +kernel
theorem b_sorted : bootBuiltins "sorted" = some (.builtin "sorted") := by decide +kernel
theorem b_all : bootBuiltins "all" = some (.builtin "all") := by decide +kernel
theorem b_str : bootBuiltins "str" = some (.type "str") := by decide +kernel
theorem b_tuple : bootBuiltins "tuple" = some (.type "tuple") := by decide +kernel
theorem Lk.hereO {x : Str} {l l' : List PV} {ρ : PEnv} (e : l = l') : Lk x (.own l) ((x, .own l') :: ρ) := e ▸ .here
theorem Lk.hereI {x : Str} {i j : Int} {ρ : PEnv} (e : i = j) : Lk x (.fz (.int i)) ((x, .fz (.int j)) :: ρ) := e ▸ .here
noncomputable def ch (c : Nat) : Str := ⟨#[c]⟩
noncomputable def mkS (l : List Nat) : Str := ⟨l.toArray⟩
noncomputable def Str.l (x : Str) : List Nat := x.cps.toList
theorem mkS_l (x : Str) : mkS (Str.l x) = x := by cases x; simp [mkS, Str.l]
theorem l_mkS (l : List Nat) : Str.l (mkS l) = l := by simp [mkS, Str.l]
theorem len_mkS (l : List Nat) : (mkS l).length = l.length := by simp [mkS, Str.length]
theorem ch_beq (a b : Nat) : (ch a == ch b) = (a == b) := by
  rw (occs := .all) [Bool.eq_iff_iff]; simp [ch]
theorem mkS_beq (a b : List Nat) : (mkS a == mkS b) = (a == b) := by
  rw (occs := .all) [Bool.eq_iff_iff]; simp [mkS]
theorem ch_mkS (c : Nat) : ch c = mkS [c] := rfl
theorem ch_len (c : Nat) : (ch c).length = 1 := rfl
theorem str_eq_l {x y : Str} : x = y ↔ Str.l x = Str.l y := ⟨fun h => h ▸ rfl, fun h => by rw [← mkS_l x, h, mkS_l]⟩
theorem signs_mkS (l : List Nat) : signs (mkS l) = l.map fun c => PV.str (ch c) := by simp [signs, mkS, ch]
theorem item_mkS {l : List Nat} {k : Nat} {c : Nat} (h : l[k]? = some c) : Txt.item (mkS l) (k : Int) = ch c := by
  unfold Txt.item Txt.charAt
  have hk : k < l.length := (List.getElem?_eq_some_iff.mp h).1
  have e : seqIndex? (k : Int) (mkS l).length = some k := by rw [len_mkS]; exact (seqIndex_of (by omega) (by omega)).trans (by simp)
  rw (occs := .all) [e]
  simp [mkS, h, ch]
theorem cut_mkS (l : List Nat) (i j : Nat) : cut (mkS l) i j = mkS ((l.drop i).take (j - i)) := by simp [cut, mkS]
theorem tooBig {k : Nat} (h : k ≤ 1000000) : k ≤ sizeLine := by rw [sizeLine_eq]; omega
section
variable {w : World} {n : Nat}
theorem op_ordC (c : Nat) : OpN w n (fun vs => call (.builtin "ord") vs) [.str (ch c)] (.int c) := op_ord (x := ch c) rfl
theorem op_lenC (c : Nat) : OpN w n (fun vs => call (.builtin "len") vs) [.str (ch c)] (.int 1) := op_lenS (x := ch c) (by rw [ch_len, sizeLine_eq]; decide)
theorem op_lenM {l : List Nat} (h : l.length ≤ 1000000) : OpN w n (fun vs => call (.builtin "len") vs) [.str (mkS l)] (.int l.length) := by
  have := op_lenS (w := w) (n := n) (x := mkS l) (by rw [len_mkS]; exact tooBig h)
  rw (occs := .all) [len_mkS] at this
  exact this
theorem op_itemM {value slice : Expr} {l : List Nat} {k : Int} {j c : Nat} (hj : k = (j : Int)) (hc : l[j]? = some c) (hl : l.length ≤ 1000000)
    (hs : ∀ t u, subscripted slice false (Value.str (mkS l) t) (Value.int k u) = operate [Value.str (mkS l) t, Value.int k u] (getItem (Value.str (mkS l) t) (Value.int k u)) := by intro _ _; with_unfolding_all rfl)
    (ht : ∀ t r, letTemporaryGo value (Value.str (mkS l) t) r = pure () := by intro _ _; with_unfolding_all rfl) : Op2 w n (subscriptTail value slice) (.str (mkS l)) (.int k) (.str (ch c)) := by
  subst hj
  have hk : j < l.length := (List.getElem?_eq_some_iff.mp hc).1
  have := op_itemS (w := w) (n := n) (value := value) (slice := slice) (x := mkS l) (k := (j : Int)) (by omega) (by rw [len_mkS]; omega) (by rw [len_mkS]; exact tooBig hl) hs ht
  rw (occs := .all) [item_mkS hc] at this
  exact this
theorem s_ordC {c : Nat} {Q : PV → Prop} (h : Q (.int c)) : ∃ r, OpN w n (fun vs => call (.builtin "ord") vs) [.str (ch c)] r ∧ Q r := ⟨_, op_ordC c, h⟩
theorem s_lenC {c : Nat} {Q : PV → Prop} (h : Q (.int 1)) : ∃ r, OpN w n (fun vs => call (.builtin "len") vs) [.str (ch c)] r ∧ Q r := ⟨_, op_lenC c, h⟩
theorem s_lenM {l : List Nat} {Q : PV → Prop} (hs : l.length ≤ 1000000) (h : Q (.int l.length)) : ∃ r, OpN w n (fun vs => call (.builtin "len") vs) [.str (mkS l)] r ∧ Q r := ⟨_, op_lenM hs, h⟩
theorem s_itemM {value slice : Expr} {l : List Nat} {k : Int} {j c : Nat} {Q : PV → Prop} (hj : k = (j : Int)) (hc : l[j]? = some c) (hl : l.length ≤ 1000000)
    (hs : ∀ t u, subscripted slice false (Value.str (mkS l) t) (Value.int k u) = operate [Value.str (mkS l) t, Value.int k u] (getItem (Value.str (mkS l) t) (Value.int k u)))
    (ht : ∀ t r, letTemporaryGo value (Value.str (mkS l) t) r = pure ()) (h : Q (.str (ch c))) : ∃ r, Op2 w n (subscriptTail value slice) (.str (mkS l)) (.int k) r ∧ Q r := ⟨_, op_itemM hj hc hl hs ht, h⟩
end
noncomputable def optI : Option Int → PV
  | some i => .int i
  | none => .none
theorem optI_none (o : Option Int) : (optI o).isNone = o.isNone := by cases o <;> rfl
noncomputable def blankN (c : Nat) : Bool := c == 32 || c == 9 || c == 10 || c == 11 || c == 12 || c == 13
noncomputable def digitF (c : Nat) : Int := if 48 ≤ c ∧ c ≤ 57 then (c : Int) - 48 else if 97 ≤ c ∧ c ≤ 122 then (c : Int) - 87 else if 65 ≤ c ∧ c ≤ 90 then (c : Int) - 55 else -1
noncomputable def digsGo (b : Int) : List Nat → Int → Option Int
  | [], v => some v
  | c :: r, v => if digitF c < 0 ∨ digitF c ≥ b then none else digsGo b r (v * b + digitF c)
noncomputable def digsF (l : List Nat) (b : Int) : Option Int := if l = [] then none else digsGo b l 0
noncomputable def baseF (c : Nat) : Int := if c = 120 ∨ c = 88 then 16 else if c = 111 ∨ c = 79 then 8 else if c = 98 ∨ c = 66 then 2 else if c = 100 ∨ c = 68 then 10 else 0
noncomputable def bodyF (l : List Nat) : Option Int :=
  match l with
  | 48 :: c :: d :: r => if baseF c > 0 then digsF (d :: r) (baseF c) else digsF l 10
  | _ => digsF l 10
noncomputable def signF (l : List Nat) : Option Int :=
  match l with
  | 43 :: r => bodyF r
  | 45 :: r => (bodyF r).map fun i => -i
  | _ => bodyF l
noncomputable def lstripF (l : List Nat) : List Nat := l.dropWhile blankN
noncomputable def rstripF (l : List Nat) : List Nat := (l.reverse.dropWhile blankN).reverse
noncomputable def wholeF (l : List Nat) : Option Int := signF (rstripF (lstripF l))
theorem sh_app {x y : Str} {a b : Nat} (hx : x.length ≤ a) (hy : y.length ≤ b) : (x ++ y).length ≤ a + b := by
  rw (occs := .all) [show (x ++ y).length = x.length + y.length from by show (x.cps ++ y.cps).size = _; rw [Array.size_append]; rfl]; omega
theorem sh_sz {x : Str} {a : Nat} (hx : x.length ≤ a) (h : a ≤ 1000000) : x.length ≤ sizeLine := tooBig (Nat.le_trans hx h)
section
variable {w : World} {n : Nat} {σ : Scope} {ρ : PEnv} {X : Exc → Prop}
theorem s_addS2 {x y : Str} {a b : Nat} {Q : PV → Prop} (hx : x.length ≤ a) (hy : y.length ≤ b) (hab : a + b ≤ 1000000) (h : Q (.str (x ++ y))) : ∃ c, Op2 w n (binaryOp .Add) (.str x) (.str y) c ∧ Q c :=
  s_addS (tooBig (by omega)) h
theorem s_pow2 {j : Int} {Q : PV → Prop} (hs : 0 ≤ j) (hj : j ≤ 1000) (h : Q (.int (2 ^ j.toNat))) : ∃ c, Op2 w n (binaryOp .Pow) (.int 2) (.int j) c ∧ Q c :=
  s_pow hs (by rw [show Builtin.Int.intBits 2 = 2 from by decide]; omega) h
theorem j_part {x out : Str} {a b : Nat} {P : Str → Prop} (hx : out.length ≤ a) (hy : x.length ≤ b) (hab : a + b ≤ 1000000) (h : P x) : ∃ y, PV.str x = PV.str y ∧ (out ++ y).length ≤ sizeLine ∧ P y :=
  ⟨x, rfl, sh_sz (sh_app hx hy) hab, h⟩
theorem f_part {x : Str} {b : Nat} {P : Str → Prop} (hy : x.length ≤ b) (hab : b ≤ 1000000) (h : P x) : ∃ y, PV.str x = PV.str y ∧ y.length ≤ sizeLine ∧ P y :=
  ⟨x, rfl, sh_sz hy hab, h⟩
theorem e_str {x : Str} {P : Str → Prop} (h : P x) : ∃ y, PV.str x = PV.str y ∧ P y := ⟨x, rfl, h⟩
end
theorem lt4 {x a b P Q : Nat} (h : x ≤ a + b) (ha : a < P) (hb : b < P) (hQ : Q = 4 * P) : x < Q := by omega
theorem lt2 {x a P Q : Nat} (h : x ≤ a + 1) (ha : a < P) (hQ : Q = 2 * P) : x < Q := by omega
theorem lt3 {x a R P Q : Nat} (h : x ≤ a + 1) (ha : a ≤ R) (hR : R = 2 * P) (h1 : 1 < P) (hQ : Q = 4 * P) : x < Q := by omega
theorem lt5 {x y a b c P Q : Nat} (h : x ≤ y + 2 * c) (hy : y ≤ a + b) (ha : a < P) (hb : b < P) (hc : c ≤ P) (hQ : Q = 4 * P) : x < Q := by omega
theorem lt1 {x a P Q : Nat} (h : x ≤ a + 1) (ha : a < P) (h1 : 1 < P) (hQ : Q = 4 * P) : x < Q := by omega
theorem na_neg1 (v : Int) : (-1 - v).natAbs ≤ v.natAbs + 1 := Nat.le_trans (Int.natAbs_sub_le (-1) v) (Nat.le_of_eq (Nat.add_comm 1 v.natAbs))
theorem na_not (v : Int) : (-v - 1).natAbs ≤ v.natAbs + 1 := Nat.le_trans (Int.natAbs_sub_le (-v) 1) (Nat.le_of_eq (congrArg (· + 1) (Int.natAbs_neg v)))
theorem na_zero (v : Int) : (0 - v).natAbs = v.natAbs := (congrArg Int.natAbs (Int.zero_sub v)).trans (Int.natAbs_neg v)
theorem na_xor (x y : Int) : (x - 2 * y).natAbs ≤ x.natAbs + 2 * y.natAbs := Nat.le_trans (Int.natAbs_sub_le x (2 * y)) (Nat.le_of_eq (congrArg (x.natAbs + ·) (Int.natAbs_mul 2 y)))
theorem dec_f {m : Int} (h : m < 0) : decide (0 ≤ m) = false := decide_eq_false (Int.not_le.mpr h)
theorem nsu (n : Nat) : -(n : Int) - 1 = Int.negSucc n := (Int.neg_add).symm.trans (Int.negSucc_eq n).symm
theorem na_not_nat (n : Nat) : (-(n : Int) - 1).natAbs = n + 1 := congrArg Int.natAbs (nsu n)
theorem neg_half (a : Nat) : (-(a : Int) - 1) / 2 = -((a / 2 : Nat) : Int) - 1 := (congrArg (· / 2) (nsu a)).trans ((Int.negSucc_ediv a (by decide)).trans Int.neg_add)
theorem neg_mod (a : Nat) : (-(a : Int) - 1) % 2 = 1 - ((a % 2 : Nat) : Int) := (congrArg (· % 2) (nsu a)).trans (Int.negSucc_emod a (by decide))
theorem neg_neg1 (a : Nat) : -(-(a : Int) - 1) - 1 = a := by rw [nsu]; show ((a + 1 : Nat) : Int) - 1 = a; exact Int.add_sub_cancel (a : Int) 1
theorem sgn_of (m : Int) : (∃ a : Nat, m = a) ∨ ∃ a : Nat, m = -(a : Int) - 1 := by
  cases m with
  | ofNat a => exact .inl ⟨a, rfl⟩
  | negSucc a => exact .inr ⟨a, (nsu a).symm⟩
theorem half_le (a : Int) : (a / 2).natAbs ≤ a.natAbs := by
  rcases sgn_of a with ⟨n, rfl⟩ | ⟨n, rfl⟩
  · exact Nat.div_le_self n 2
  · rw [neg_half, na_not_nat, na_not_nat]; exact Nat.succ_le_succ (Nat.div_le_self n 2)
theorem half_lt {a : Int} (h : ¬ (a = 0 ∨ a = -1)) : (a / 2).natAbs < a.natAbs := by
  rcases sgn_of a with ⟨n, rfl⟩ | ⟨n, rfl⟩
  · exact Nat.div_lt_self (Nat.pos_of_ne_zero fun q => h (.inl (by rw [q]; rfl))) (by decide)
  · rw [neg_half, na_not_nat, na_not_nat]; exact Nat.succ_lt_succ (Nat.div_lt_self (Nat.pos_of_ne_zero fun q => h (.inr (by rw [q]; rfl))) (by decide))
theorem neg_mod64 (a : Nat) : (-(a : Int) - 1) % 2 ^ 64 = 2 ^ 64 - 1 - ((a % 2 ^ 64 : Nat) : Int) := (congrArg (· % 2 ^ 64) (nsu a)).trans (Int.negSucc_emod a (by decide))
theorem neg_dec (a : Nat) : decide (0 ≤ -(a : Int) - 1) = false := decide_eq_false (by lia)
theorem nat_dec (a : Nat) : decide (0 ≤ (a : Int)) = true := decide_eq_true (Int.natCast_nonneg a)
theorem ba_nn (a b : Nat) : Builtin.bitAnd (-(a : Int) - 1) (-(b : Int) - 1) = -((a ||| b : Nat) : Int) - 1 := by
  unfold Builtin.bitAnd Builtin.bitNot; rw [neg_dec, neg_dec]; dsimp only; rw [neg_neg1, neg_neg1]; rfl
theorem ba_np (a b : Nat) : Builtin.bitAnd (-(a : Int) - 1) b = (b : Int) - ((b &&& a : Nat) : Int) := by
  unfold Builtin.bitAnd Builtin.bitNot; rw [neg_dec, nat_dec]; dsimp only; rw [neg_neg1]; rfl
theorem ba_pn (a b : Nat) : Builtin.bitAnd b (-(a : Int) - 1) = (b : Int) - ((b &&& a : Nat) : Int) := by
  unfold Builtin.bitAnd Builtin.bitNot; rw [neg_dec, nat_dec]; dsimp only; rw [neg_neg1]; rfl
theorem ba_pp (a b : Nat) : Builtin.bitAnd a b = ((a &&& b : Nat) : Int) := by
  unfold Builtin.bitAnd; rw [nat_dec, nat_dec]; rfl
theorem na_not_to {m : Int} {P : Nat} (h : m < 0) (hm : m.natAbs < P) : (-m - 1).toNat < P := by
  rcases sgn_of m with ⟨a, rfl⟩ | ⟨a, rfl⟩
  · exact absurd h (Int.not_lt.mpr (Int.natCast_nonneg a))
  · rw [neg_neg1, Int.toNat_natCast]; rw [na_not_nat] at hm; exact Nat.lt_of_succ_lt hm
theorem toNat_le (m : Int) : m.toNat ≤ m.natAbs := by
  cases m with
  | ofNat a => exact Nat.le_refl a
  | negSucc a => exact Nat.zero_le _
theorem na_sub_nat {n : Int} {z P : Nat} (h0 : 0 ≤ n) (h : z ≤ n.toNat) (hn : n.natAbs < P) : (n - (z : Int)).natAbs ≤ P := by
  rcases Int.eq_ofNat_of_zero_le h0 with ⟨a, rfl⟩
  have h : z ≤ a := h
  rw [← Int.natCast_sub h]
  exact Nat.le_trans (Nat.sub_le a z) (Nat.le_of_lt hn)
theorem na_nat {m : Int} {z P : Nat} (h : z ≤ m.toNat) (hm : m.natAbs < P) : ((z : Nat) : Int).natAbs ≤ P := Nat.le_of_lt (Nat.lt_of_le_of_lt (Nat.le_trans h (toNat_le m)) hm)
theorem half_two {a b : Int} (h : ¬ ((a = 0 ∨ a = -1) ∧ (b = 0 ∨ b = -1))) : (a / 2).natAbs + (b / 2).natAbs < a.natAbs + b.natAbs := by
  by_cases q : a = 0 ∨ a = -1
  · exact Nat.add_lt_add_of_le_of_lt (half_le a) (half_lt fun r => h ⟨q, r⟩)
  · exact Nat.add_lt_add_of_lt_of_le (half_lt q) (half_le b)
theorem le_negA {v : Int} {P : Nat} (h : v.natAbs < P) : (-v).natAbs ≤ P := Nat.le_of_lt (Nat.lt_of_le_of_lt (Nat.le_of_eq (Int.natAbs_neg v)) h)
theorem le_notA {v : Int} {P : Nat} (h : v.natAbs < P) : (Builtin.bitNot v).natAbs ≤ P := Nat.le_trans (na_not v) h
theorem le_q {x a P Q : Nat} (h : x ≤ a + 1) (ha : a < P) (hQ : Q = 4 * P) : x ≤ Q := by omega
theorem sb1 {j i z : Nat} (h : j - i = z + 1) : j - (i + 1) = z := (Nat.sub_succ j i).trans (congrArg Nat.pred h)
theorem sb2 {j i z : Nat} (h : j - i = z + 1) : i < j := Nat.sub_pos_iff_lt.mp (h ▸ Nat.succ_pos z)
theorem sb3 {j i z : Nat} (h : j - i = z + 1) : i + 1 ≤ j := sb2 h
local macro_rules | `(tactic| omega) => Mine.tac "( first ( ex ( Nat.succ_pos _ ) ) ( ex ( Mine.lv rfl ) ) ( ex ( Mine.sb1 ( by ( red asm ) ) ) ) ( ex ( Mine.sb2 ( by ( red asm ) ) ) ) ( ex ( Mine.sb3 ( by ( red asm ) ) ) ) lia )" #[]
local macro_rules | `(tactic| wtm_at $s:str) => Mine.wtmAt s.getString
section
section
variable {w : World} {n : Nat}
theorem sp32 : Str.ofString " " = ch 32 := by decide +kernel
theorem sp9 : Str.ofString "\t" = ch 9 := by decide +kernel
theorem sp10 : Str.ofString "\n" = ch 10 := by decide +kernel
theorem sp11 : Str.ofString "\x0b" = ch 11 := by decide +kernel
theorem sp12 : Str.ofString "\x0c" = ch 12 := by decide +kernel
theorem sp13 : Str.ofString "\x0d" = ch 13 := by decide +kernel
theorem beq_swap (a c : Nat) : (a == c) = (c == a) := by rw [Bool.eq_iff_iff, beq_iff_eq, beq_iff_eq]; exact eq_comm
theorem w_is_blank {c : Nat} : Does w (n + 1) 84 [.str (ch c)] (.ok (.bool (blankN c))) := by
  refine fnc_body (xs := ["c"]) (ρ₀ := [("c", .fz (.str (ch c)))]) (ho := by k_is) (hcd := by k_is) (hbind := by wtm_at "a1") (by decide +kernel) rfl (by decide +kernel) (by decide +kernel) rfl rfl rfl rfl ?_
  wtm_at "go"
  simp only [strD, List.any_cons, List.any_nil, sp32, sp9, sp10, sp11, sp12, sp13, ch_beq, beq_swap _ c, Bool.or_false, blankN, Bool.or_assoc]
theorem w_digit {c : Nat} : Does w (n + 1) 91 [.str (ch c)] (.ok (.int (digitF c))) := by
  refine fnc_body (xs := ["c"]) (ρ₀ := [("c", .fz (.str (ch c)))]) (ho := by k_is) (hcd := by k_is) (hbind := by wtm_at "a1") (by decide +kernel) rfl (by decide +kernel) (by decide +kernel) rfl rfl rfl rfl ?_
  wtm_at "go"
  refine .ff rfl ?_
  wtm_at "gs"
  all_goals (wtm_at "dec"; congr 2; unfold digitF; (repeat' split) <;> first | rfl | omega)
theorem mkS_nil : Str.ofString "" = mkS [] := by decide +kernel
theorem w_digits_value {l : List Nat} {b : Int} (hb : 0 ≤ b ∧ b ≤ 36) (hl : l.length ≤ 1000) : Does w (n + 2) 98 [.str (mkS l), .int b] (.ok (optI (digsF l b))) := by
  refine fnc_body (xs := ["text", "base"]) (ρ₀ := [("text", .fz (.str (mkS l))), ("base", .fz (.int b))]) (ho := by k_is) (hcd := by k_is) (hbind := by wtm_at "a2") (by decide +kernel) rfl (by decide +kernel) (by decide +kernel) rfl rfl rfl rfl ?_
  wtm_at "go"
  rw (occs := .all) [mkS_nil, mkS_beq]
  refine .split2 id beq_eq_false_iff_ne.mp (fun h => ?_) (fun h => ?_)
  · wtm_at "go"
    rw (occs := .all) [beq_iff_eq] at h
    subst h; rfl
  · wtm_at "go"
    refine ex_for ?_ (by omega)
    wtm_at "go"
    refine ⟨_, .str _, ?_⟩
    rw (occs := .all) [signs_mkS]
    refine frl_inv (fun items ρ => ∃ r v, items = r.map (fun c => PV.str (ch c)) ∧ Sub [("text", .fz (.str (mkS l))), ("base", .fz (.int b)), ("value", .fz (.int v))] ρ ∧ digsF l b = digsGo b r v) ?_ ?_ (by decide +kernel) _ _ ⟨l, 0, rfl, by wtm_at "sub", by rw [digsF, if_neg h]⟩
    · rintro ρ ⟨r, v, hr, hs, e⟩
      obtain rfl : r = [] := by simpa using hr.symm
      refine exs_sub hs ?_
      wtm_at "go"
      rw (occs := .all) [e]; rfl
    · rintro p items ρ ⟨r, v, hr, hs, e⟩
      cases r with
      | nil => cases hr
      | cons c r =>
        cases hr
        refine ⟨_, _, hs, by wtm_at "put", ?_⟩
        wtm_at "go"
        refine ev_call g_digit f_digit ?_ (by omega)
        wtm_at "go"
        refine does_ok (w_digit (n := 0)) (by omega) ?_
        wtm_at "go"
        refine .split (fun h1 => ?_) (fun h1 => ?_)
        · wtm_at "go"
          wtm_at "dec"
          rw (occs := .all) [e, digsGo, if_pos (.inl h1)]; rfl
        · wtm_at "go"
          refine .split (fun h2 => ?_) (fun h2 => ?_)
          · wtm_at "go"
            wtm_at "dec"
            rw (occs := .all) [e, digsGo, if_pos (.inr h2)]; rfl
          · wtm_at "go"
            refine s_mul (IntMulOk.of_right (intBits_le_64 (by omega) (by omega))) ?_
            wtm_at "go"
            wtm_at "dec"
            have hh : ¬(digitF c < 0 ∨ digitF c ≥ b) := by omega
            exact ⟨r, _, rfl, by wtm_at "sub", by rw [e, digsGo, if_neg hh]⟩
theorem w_base_of {c : Nat} : Does w (n + 1) 105 [.str (ch c)] (.ok (.int (baseF c))) := by
  refine fnc_body (xs := ["mark"]) (ρ₀ := [("mark", .fz (.str (ch c)))]) (ho := by k_is) (hcd := by k_is) (hbind := by wtm_at "a1") (by decide +kernel) rfl (by decide +kernel) (by decide +kernel) rfl rfl rfl rfl ?_
  have e1 : Str.ofString "x" = ch 120 := by decide +kernel
  have e2 : Str.ofString "X" = ch 88 := by decide +kernel
  have e3 : Str.ofString "o" = ch 111 := by decide +kernel
  have e4 : Str.ofString "O" = ch 79 := by decide +kernel
  have e5 : Str.ofString "b" = ch 98 := by decide +kernel
  have e6 : Str.ofString "B" = ch 66 := by decide +kernel
  have e7 : Str.ofString "d" = ch 100 := by decide +kernel
  have e8 : Str.ofString "D" = ch 68 := by decide +kernel
  wtm_at "gs"
  all_goals (simp only [strD, List.any_cons, List.any_nil, e1, e2, e3, e4, e5, e6, e7, e8, ch_beq, beq_swap _ c, Bool.or_false, Bool.or_eq_true, beq_iff_eq, Bool.or_eq_false_iff, beq_eq_false_iff_ne] at *; congr 2; unfold baseF; (repeat' split) <;> first | rfl | omega)
end
end
theorem lstrip_step {l : List Nat} {i c : Nat} (h : l[i]? = some c) (hb : blankN c = true) : lstripF (l.drop i) = lstripF (l.drop (i + 1)) := by
  obtain ⟨hi, e⟩ := List.getElem?_eq_some_iff.mp h
  rw (occs := .all) [List.drop_eq_getElem_cons hi, e, lstripF, List.dropWhile_cons_of_pos hb]; rfl
theorem lstrip_stop {l : List Nat} {i c : Nat} (h : l[i]? = some c) (hb : blankN c = false) : lstripF (l.drop i) = l.drop i := by
  obtain ⟨hi, e⟩ := List.getElem?_eq_some_iff.mp h
  rw (occs := .all) [List.drop_eq_getElem_cons hi, e, lstripF, List.dropWhile_cons_of_neg (by simp [hb])]
theorem lstrip_suffix (l : List Nat) : ∃ A, A ≤ l.length ∧ l.drop A = lstripF l ∧ A + (lstripF l).length = l.length := by
  induction l with
  | nil => exact ⟨0, Nat.le_refl _, rfl, rfl⟩
  | cons c l ih =>
    cases hb : blankN c with
    | false => exact ⟨0, Nat.zero_le _, by rw [lstripF, List.dropWhile_cons_of_neg (by simp [hb])]; rfl, by rw [lstripF, List.dropWhile_cons_of_neg (by simp [hb])]; simp⟩
    | true =>
      obtain ⟨A, h1, h2, h3⟩ := ih
      have e : lstripF (c :: l) = lstripF l := by rw [lstripF, List.dropWhile_cons_of_pos hb]; rfl
      exact ⟨A + 1, by simp; omega, by rw [e]; simpa using h2, by rw [e, List.length_cons]; omega⟩
theorem take_snoc {m : List Nat} {j c : Nat} (h : m[j]? = some c) : m.take (j + 1) = m.take j ++ [c] := by
  rw (occs := .all) [List.take_add_one, h]; rfl
theorem rstrip_step {m : List Nat} {j c : Nat} (h : m[j]? = some c) (hb : blankN c = true) : rstripF (m.take (j + 1)) = rstripF (m.take j) := by
  rw (occs := .all) [take_snoc h, rstripF, List.reverse_append, List.reverse_singleton, List.singleton_append, List.dropWhile_cons_of_pos hb]; rfl
theorem rstrip_stop {m : List Nat} {j c : Nat} (h : m[j]? = some c) (hb : blankN c = false) : rstripF (m.take (j + 1)) = m.take (j + 1) := by
  have e := take_snoc h
  rw (occs := .all) [rstripF, e, List.reverse_append, List.reverse_singleton, List.singleton_append, List.dropWhile_cons_of_neg (by simp [hb]), List.reverse_cons, List.reverse_reverse]
noncomputable def At (l : List Nat) (A : Nat) (r : List Nat) : Prop := A + r.length ≤ l.length ∧ (l.drop A).take r.length = r
theorem At.get {l r : List Nat} {A i : Nat} (h : At l A r) {c : Nat} (e : r[i]? = some c) : l[A + i]? = some c := by
  obtain ⟨h1, h2⟩ := h
  have hi : i < r.length := (List.getElem?_eq_some_iff.mp e).1
  rw (occs := .all) [← h2, List.getElem?_take_of_lt hi, List.getElem?_drop] at e
  exact e
theorem At.tail {l r : List Nat} {A c : Nat} (h : At l A (c :: r)) : At l (A + 1) r := by
  obtain ⟨h1, h2⟩ := h
  simp only [List.length_cons] at h1 h2
  refine ⟨by omega, ?_⟩
  have h3 : List.take r.length ((l.drop A).drop 1) = r := by
    have := congrArg (List.drop 1) h2
    rw (occs := .all) [List.drop_take, List.drop_succ_cons, List.drop_zero] at this
    simpa using this
  rw (occs := .all) [List.drop_drop] at h3
  exact h3
theorem At.cut {l r : List Nat} {A : Nat} (h : At l A r) : cut (mkS l) A (A + r.length) = mkS r := by
  rw (occs := .all) [cut_mkS, Nat.add_sub_cancel_left, h.2]
section
section
variable {w : World} {n : Nat}
theorem plus43 : Str.ofString "+" = ch 43 := by decide +kernel
theorem minus45 : Str.ofString "-" = ch 45 := by decide +kernel
theorem zero48 : Str.ofString "0" = ch 48 := by decide +kernel
noncomputable def baseR : List Nat → Int
  | 48 :: c :: _ :: _ => baseF c
  | _ => 0
theorem bodyF_pos {r : List Nat} (h : baseR r > 0) : ∃ c d r', r = 48 :: c :: d :: r' ∧ baseR r = baseF c ∧ bodyF r = digsF (d :: r') (baseF c) := by
  unfold baseR at h
  split at h
  · rename_i c d r'
    exact ⟨c, d, r', rfl, rfl, by rw [bodyF, if_pos h]⟩
  · omega
theorem bodyF_neg {r : List Nat} (h : ¬ baseR r > 0) : bodyF r = digsF r 10 := by
  unfold bodyF
  split
  · rename_i c d r'
    rw (occs := .all) [if_neg]
    exact h
  · rfl
theorem baseF_le (c : Nat) : baseF c ≤ 16 ∧ 0 ≤ baseF c := by
  unfold baseF
  split
  · decide
  split
  · decide
  split
  · decide
  split <;> decide
theorem w_whole_of {l : List Nat} (hl : l.length ≤ 1000) : Does w (n + 3) 112 [.str (mkS l)] (.ok (optI (wholeF l))) := by
  refine fnc_body (xs := ["text"]) (ρ₀ := [("text", .fz (.str (mkS l)))]) (ho := by k_is) (hcd := by k_is) (hbind := by wtm_at "a1") (by decide +kernel) rfl (by decide +kernel) (by decide +kernel) rfl rfl rfl rfl ?_
  have hl' : l.length ≤ 1000000 := by omega
  obtain ⟨A, hA1, hA2, hA3⟩ := lstrip_suffix l
  wtm_at "go"
  refine ex_assign2s ?_ (by omega)
  wtm_at "go"
  refine ⟨_, _, rfl, _, _, by wtm_at "put", by wtm_at "put", ?_⟩
  -- the first loop
  refine exs_cut (fun ρ => Sub [("text", .fz (.str (mkS l))), ("behind", .fz (.int l.length)), ("first", .fz (.int A))] ρ)
    (ex_while (whl_inv (fun k ρ => ∃ i : Nat, Sub [("text", .fz (.str (mkS l))), ("behind", .fz (.int l.length)), ("first", .fz (.int i))] ρ ∧ i ≤ l.length ∧ lstripF (l.drop i) = lstripF l ∧ k = l.length - i) ?_ _ _ ⟨0, by wtm_at "sub", Nat.zero_le _, rfl, rfl⟩)) (fun ρ hs => exs_sub hs ?_)
  · rintro k ρ ⟨i, hs, hi, hd, rfl⟩
    refine evb_sub hs ?_
    wtm_at "go"
    refine .split (fun h => ?_) (fun h => ?_)
    · wtm_at "dec"
      obtain ⟨c, hc⟩ : ∃ c, l[i]? = some c := ⟨l[i]'(by omega), List.getElem?_eq_getElem (by omega)⟩
      wtm_at "go"
      refine ev_call g_is_blank f_is_blank ?_ (by omega)
      wtm_at "go"
      refine s_itemM rfl hc hl' (by intro _ _; with_unfolding_all rfl) (by intro _ _; with_unfolding_all rfl) ?_
      wtm_at "go"
      refine does_ok (w_is_blank (n := 0)) (by omega) ?_
      wtm_at "go"
      refine .split (fun hb => ?_) (fun hb => ?_)
      · wtm_at "go"
        exact ⟨l.length - (i + 1), by omega, i + 1, by wtm_at "sub", by omega, by rw [← hd]; exact (lstrip_step hc hb).symm, rfl⟩
      · wtm_at "go"
        have e := lstrip_stop hc hb
        rw (occs := .all) [hd] at e
        have e2 := congrArg List.length e
        rw (occs := .all) [List.length_drop] at e2
        obtain rfl : i = A := by omega
        wtm_at "sub"
    · wtm_at "dec"
      wtm_at "go"
      have e2 := congrArg List.length hd
      have : l.drop i = [] := List.drop_eq_nil_of_le (by omega)
      rw (occs := .all) [this] at e2
      simp only [lstripF, List.dropWhile_nil, List.length_nil] at e2
      obtain rfl : i = A := by simp only [lstripF] at hA3; omega
      wtm_at "sub"
  -- the second
  generalize hm : lstripF l = m at hA2 hA3
  have hAt : At l A m := ⟨by omega, by rw [hA2, List.take_length]⟩
  refine exs_cut (fun ρ => Sub [("text", .fz (.str (mkS l))), ("behind", .fz (.int (A + (rstripF m).length))), ("first", .fz (.int A))] ρ ∧ At l A (rstripF m))
    (ex_while (whl_inv (fun k ρ => ∃ j : Nat, Sub [("text", .fz (.str (mkS l))), ("behind", .fz (.int ((A + j : Nat) : Int))), ("first", .fz (.int A))] ρ ∧ j ≤ m.length ∧ rstripF (m.take j) = rstripF m ∧ k = j) ?_ _ _ ⟨m.length, by rw [hA3]; wtm_at "sub", Nat.le_refl _, by rw [List.take_length], rfl⟩)) (fun ρ => fn2 fun hs hT => exs_sub hs ?_)
  · rintro k ρ ⟨j, hs, hj, hd, rfl⟩
    refine evb_sub hs ?_
    have stop : ∀ ρ, rstripF (m.take k) = m.take k → Sub [("text", .fz (.str (mkS l))), ("behind", .fz (.int ((A + k : Nat) : Int))), ("first", .fz (.int A))] ρ → Sub [("text", .fz (.str (mkS l))), ("behind", .fz (.int (A + (rstripF m).length))), ("first", .fz (.int A))] ρ ∧ At l A (rstripF m) := by
      intro ρ e hs
      rw (occs := .all) [hd] at e
      have e2 := congrArg List.length e
      rw (occs := .all) [List.length_take, Nat.min_eq_left hj] at e2
      rw (occs := .all) [e2]
      refine ⟨by rw (occs := .all) [Int.natCast_add] at hs; exact hs, by rw [e2]; omega, ?_⟩
      rw (occs := .all) [e2, hA2, e]
    wtm_at "go"
    refine .split (fun h => ?_) (fun h => ?_)
    · wtm_at "dec"
      obtain ⟨j, rfl⟩ : ∃ j, k = j + 1 := ⟨k - 1, by omega⟩
      obtain ⟨c, hc⟩ : ∃ c, m[j]? = some c := ⟨m[j]'(by omega), List.getElem?_eq_getElem (by omega)⟩
      wtm_at "go"
      refine ev_call g_is_blank f_is_blank ?_ (by omega)
      wtm_at "go"
      refine s_itemM (j := A + j) (by omega) (hAt.get hc) hl' (by intro _ _; with_unfolding_all rfl) (by intro _ _; with_unfolding_all rfl) ?_
      wtm_at "go"
      refine does_ok (w_is_blank (n := 0)) (by omega) ?_
      wtm_at "go"
      refine .split (fun hb => ?_) (fun hb => ?_)
      · wtm_at "go"
        exact ⟨j, by omega, j, by rw [show ((A + j : Nat) : Int) = ((A + (j + 1) : Nat) : Int) - 1 by omega]; wtm_at "sub", by omega, by rw [← hd]; exact (rstrip_step hc hb).symm, rfl⟩
      · wtm_at "go"
        exact stop _ (rstrip_stop hc hb) (by wtm_at "sub")
    · wtm_at "dec"
      wtm_at "go"
      obtain rfl : k = 0 := by omega
      exact stop _ rfl (by wtm_at "sub")
  have hW : wholeF l = signF (rstripF m) := by rw [wholeF, hm]
  rw (occs := .all) [hW]
  generalize rstripF m = t at hT
  clear hm hAt hA2 hA3 hW
  have ht9 : t.length ≤ l.length := by have := hT.1; omega
  have hs0 : ∀ c, (strD [PV.str (Str.ofString "+"), PV.str (Str.ofString "-")]).any (fun x => x == ch c) = (c == 43 || c == 45) := fun c => by
    simp only [strD, plus43, minus45, List.any_cons, List.any_nil, ch_beq, beq_swap _ c, Bool.or_false]
  wtm_at "one"
  wtm_at "one"
  wtm_at "one"
  wtm_at "one"
  refine exs_cut (fun ρ => ∃ (sg : Bool) (B : Nat) (r : List Nat), Sub [("text", .fz (.str (mkS l))), ("behind", .fz (.int ((B + r.length : Nat) : Int))), ("first", .fz (.int B)), ("is_minus", .fz (.bool sg))] ρ ∧ At l B r ∧ signF t = if sg then (bodyF r).map (fun i => -i) else bodyF r) ?_ ?_
  · wtm_at "go"
    refine .split (fun h => ?_) (fun h => ?_)
    · wtm_at "dec"
      cases t with
      | nil => simp at h
      | cons c r =>
        wtm_at "go"
        refine s_itemM (j := A) rfl (by have := hT.get (i := 0) (c := c) rfl; simpa using this) hl' (by intro _ _; with_unfolding_all rfl) (by intro _ _; with_unfolding_all rfl) ?_
        wtm_at "go"
        rw (occs := .all) [hs0]
        refine .split (fun hc => ?_) (fun hc => ?_)
        · wtm_at "go"
          refine s_itemM (j := A) rfl (by have := hT.get (i := 0) (c := c) rfl; simpa using this) hl' (by intro _ _; with_unfolding_all rfl) (by intro _ _; with_unfolding_all rfl) ?_
          wtm_at "go"
          rw (occs := .all) [minus45, ch_beq]
          refine ⟨c == 45, A + 1, r, by simp only [List.length_cons]; wtm_at "sub", hT.tail, ?_⟩
          simp only [Bool.or_eq_true, beq_iff_eq] at hc
          rcases hc with rfl | rfl <;> rfl
        · wtm_at "go"
          refine ⟨false, A, c :: r, by simp only [List.length_cons]; wtm_at "sub", hT, ?_⟩
          simp only [Bool.or_eq_false_iff, beq_eq_false_iff_ne, ne_eq] at hc
          show signF (c :: r) = bodyF (c :: r)
          unfold signF
          split
          · rename_i e; cases e; exact absurd rfl hc.1
          · rename_i e; cases e; exact absurd rfl hc.2
          · rfl
    · wtm_at "dec"
      have : t = [] := List.length_eq_zero_iff.mp (by omega)
      subst this
      wtm_at "go"
      exact ⟨false, A, [], by simp only [List.length_nil]; wtm_at "sub", hT, rfl⟩
  · rintro ρ ⟨sg, B, r, hs, hR, hsg⟩
    refine exs_sub hs ?_
    rw (occs := .all) [hsg]
    clear hsg hs hT
    have hB := hR.1
    wtm_at "one"
    wtm_at "one"
    wtm_at "one"
    wtm_at "one"
    refine exs_cut (fun ρ => Sub [("text", .fz (.str (mkS l))), ("behind", .fz (.int ((B + r.length : Nat) : Int))), ("first", .fz (.int B)), ("is_minus", .fz (.bool sg)), ("base", .fz (.int (baseR r)))] ρ) ?_ ?_
    · wtm_at "go"
      refine .split (fun h => ?_) (fun h => ?_)
      · wtm_at "dec"
        obtain ⟨c, d, e, r', rfl⟩ : ∃ c d e r', r = c :: d :: e :: r' := by
          match r, h with
          | c :: d :: e :: r', _ => exact ⟨c, d, e, r', rfl⟩
          | [], h => simp at h
          | [_], h => simp at h; omega
          | [_, _], h => simp at h; omega
        wtm_at "go"
        refine s_itemM (j := B) rfl (by have := hR.get (i := 0) (c := c) rfl; simpa using this) hl' (by intro _ _; with_unfolding_all rfl) (by intro _ _; with_unfolding_all rfl) ?_
        wtm_at "go"
        rw (occs := .all) [zero48, ch_beq]
        refine .split (fun hc => ?_) (fun hc => ?_)
        · wtm_at "go"
          refine ev_call g_base_of f_base_of ?_ (by omega)
          wtm_at "go"
          refine s_itemM (j := B + 1) (by omega) (hR.get (i := 1) (c := d) rfl) hl' (by intro _ _; with_unfolding_all rfl) (by intro _ _; with_unfolding_all rfl) ?_
          wtm_at "go"
          refine does_ok (w_base_of (n := 0)) (by omega) ?_
          wtm_at "go"
          rw (occs := .all) [beq_iff_eq] at hc
          subst hc
          rw (occs := .all) [show baseR (48 :: d :: e :: r') = baseF d from rfl]
          wtm_at "sub"
        · wtm_at "go"
          rw (occs := .all) [beq_eq_false_iff_ne] at hc
          have : baseR (c :: d :: e :: r') = 0 := by unfold baseR; split; · rename_i q; cases q; exact absurd rfl hc
                                                     · rfl
          rw (occs := .all) [this]
          wtm_at "sub"
      · wtm_at "dec"
        wtm_at "go"
        have : baseR r = 0 := by
          unfold baseR
          split
          · simp at h; omega
          · rfl
        rw (occs := .all) [this]
        wtm_at "sub"
    · intro ρ hs
      refine exs_sub hs ?_
      have hcut : ∀ {k : Nat} {r' : List Nat}, r = r.take k ++ r' → True := fun _ => trivial
      refine exs_cut (fun ρ => Sub [("is_minus", .fz (.bool sg)), ("value", .fz (optI (bodyF r)))] ρ) ?_ ?_
      · wtm_at "go"
        refine .split (fun h => ?_) (fun h => ?_)
        · wtm_at "dec"
          obtain ⟨c, d, r', rfl, h1, h2⟩ := bodyF_pos h
          wtm_at "go"
          refine ev_call g_digits_value f_digits_value ?_ (by omega)
          wtm_at "go"
          refine ⟨mkS l, B + 2, B + (48 :: c :: d :: r').length, rfl, by rw [Int.natCast_add]; rfl, rfl, by simp, by rw [len_mkS]; exact hB, by rw [len_mkS]; exact tooBig hl', ?_⟩
          have e : cut (mkS l) (B + 2) (B + (48 :: c :: d :: r').length) = mkS (d :: r') := by
            have := hR.tail.tail.cut
            rw (occs := .all) [show B + (48 :: c :: d :: r').length = B + 1 + 1 + (d :: r').length by simp only [List.length_cons]; omega]
            exact this
          rw (occs := .all) [e]
          wtm_at "go"
          refine does_ok (w_digits_value (n := 0) (by have := baseF_le c; rw [h1]; omega) (by have := hB; simp only [List.length_cons] at this ⊢; omega)) (by omega) ?_
          wtm_at "go"
          rw (occs := .all) [h2, h1]
          wtm_at "sub"
        · wtm_at "dec"
          rw (occs := .all) [bodyF_neg (by omega)]
          wtm_at "go"
          refine ev_call g_digits_value f_digits_value ?_ (by omega)
          wtm_at "go"
          refine ⟨mkS l, B, B + r.length, rfl, rfl, rfl, by omega, by rw [len_mkS]; exact hB, by rw [len_mkS]; exact tooBig hl', ?_⟩
          rw (occs := .all) [hR.cut]
          wtm_at "go"
          refine does_ok (w_digits_value (n := 0) (by omega) (by omega)) (by omega) ?_
          wtm_at "go"
          wtm_at "sub"
      · intro ρ hs
        refine exs_sub hs ?_
        wtm_at "go"
        rw (occs := .all) [optI_none]
        generalize bodyF r = b
        cases b with
        | none =>
          refine .tt rfl ?_
          wtm_at "go"
          cases sg <;> rfl
        | some v =>
          refine .ff rfl ?_
          wtm_at "go"
          refine .split (fun h => ?_) (fun h => ?_)
          · subst h
            wtm_at "go"
            exact s_neg rfl
          · subst h
            wtm_at "go"
            rfl
end
end
noncomputable def digs (m : Nat) : List Nat := (Nat.toDigits 10 m).map Char.toNat
noncomputable def numL (i : Int) : List Nat := if i < 0 then 45 :: digs i.natAbs else digs i.natAbs
theorem digit_ch : ∀ d : Nat, d < 10 → (Nat.digitChar d).toNat = d + 48 := by decide
theorem digs_small {m : Nat} (h : m < 10) : digs m = [m + 48] := by rw [digs, Nat.toDigits_of_lt_base h, List.map_singleton, digit_ch m h]
theorem digs_big {m : Nat} (h : ¬ m < 10) : digs m = digs (m / 10) ++ [m % 10 + 48] := by
  have hm : m % 10 < 10 := Nat.mod_lt m (by decide)
  have t : Nat.toDigits 10 (m / 10) ++ Nat.toDigits 10 (m % 10) = Nat.toDigits 10 (10 * (m / 10) + m % 10) := Nat.toDigits_append_toDigits (by decide) (by omega) hm
  rw (occs := .all) [Nat.div_add_mod] at t
  rw (occs := .all) [digs, ← t, List.map_append, Nat.toDigits_of_lt_base hm, List.map_singleton, digit_ch _ hm]; rfl
theorem digs_mem : ∀ (m : Nat), ∀ c ∈ digs m, 48 ≤ c ∧ c ≤ 57 := by
  intro m
  induction m using Nat.strongRecOn with
  | _ m ih =>
    intro c hc
    by_cases h : m < 10
    · rw (occs := .all) [digs_small h, List.mem_singleton] at hc; omega
    · rw (occs := .all) [digs_big h, List.mem_append, List.mem_singleton] at hc
      rcases hc with hc | hc
      · exact ih (m / 10) (by omega) c hc
      · omega
theorem digs_ne (m : Nat) : digs m ≠ [] := by
  by_cases h : m < 10
  · rw (occs := .all) [digs_small h]; simp
  · rw (occs := .all) [digs_big h]; simp
theorem digsGo_append (l r : List Nat) (v : Int) : digsGo 10 (l ++ r) v = (digsGo 10 l v).bind (digsGo 10 r) := by
  induction l generalizing v with
  | nil => rfl
  | cons c l ih =>
    rw (occs := .all) [List.cons_append, digsGo, digsGo]
    split
    · rfl
    · exact ih _
theorem digitF_dec {c : Nat} (h : 48 ≤ c ∧ c ≤ 57) : digitF c = (c : Int) - 48 := by rw [digitF, if_pos h]
theorem digsGo_digs (m : Nat) : digsGo 10 (digs m) 0 = some (m : Int) := by
  induction m using Nat.strongRecOn with
  | _ m ih =>
    by_cases h : m < 10
    · rw (occs := .all) [digs_small h, digsGo, digitF_dec (by omega), if_neg (by omega), digsGo]
      congr 1; omega
    · rw (occs := .all) [digs_big h, digsGo_append, ih (m / 10) (by omega), Option.bind_some, digsGo, digitF_dec (by omega), if_neg (by omega), digsGo]
      congr 1; omega
theorem digs_len {m k : Nat} (hk : 1 ≤ k) (h : m < 10 ^ k) : (digs m).length ≤ k := by rw [digs, List.length_map]; exact digits10_le hk h
theorem digits_head {c : Nat} (h : 48 ≤ c ∧ c ≤ 57) : blankN c = false := by
  have e : ∀ c, c < 58 → 48 ≤ c → blankN c = false := by decide
  exact e c (by omega) h.1
theorem baseF_digit {c : Nat} (h : 48 ≤ c ∧ c ≤ 57) : baseF c = 0 := by
  have e : ∀ c, c < 58 → 48 ≤ c → baseF c = 0 := by decide
  exact e c (by omega) h.1
theorem body_digs (m : Nat) : bodyF (digs m) = some (m : Int) := by
  have hb : baseR (digs m) = 0 := by
    unfold baseR
    split
    · rename_i c d r e
      exact baseF_digit (digs_mem m c (by rw [e]; simp))
    · rfl
  rw (occs := .all) [bodyF_neg (by omega), digsF, if_neg (digs_ne m)]
  exact digsGo_digs m
theorem strip_id {l : List Nat} (h : ∀ c ∈ l, blankN c = false) : rstripF (lstripF l) = l := by
  have h1 : lstripF l = l := by
    cases l with
    | nil => rfl
    | cons c r => rw [lstripF, List.dropWhile_cons_of_neg (by simp [h c (by simp)])]
  rw (occs := .all) [h1, rstripF]
  cases e : l.reverse with
  | nil => rw [List.dropWhile_nil]; simpa using e.symm
  | cons c r =>
    have : c ∈ l := by rw [← List.mem_reverse, e]; simp
    rw (occs := .all) [List.dropWhile_cons_of_neg (by simp [h c this]), ← e, List.reverse_reverse]
theorem num_nonblank (i : Int) : ∀ c ∈ numL i, c = 45 ∨ (48 ≤ c ∧ c ≤ 57) := by
  intro c hc
  unfold numL at hc
  split at hc
  · rcases List.mem_cons.mp hc with rfl | hc
    · exact .inl rfl
    · exact .inr (digs_mem _ _ hc)
  · exact .inr (digs_mem _ _ hc)
theorem num_strip (i : Int) : ∀ c ∈ numL i, blankN c = false := by
  intro c hc
  rcases num_nonblank i c hc with rfl | h
  · rfl
  · exact digits_head h
theorem whole_num (i : Int) : wholeF (numL i) = some i := by
  rw (occs := .all) [wholeF, strip_id (num_strip i)]
  unfold numL
  split
  · show (bodyF (digs i.natAbs)).map (fun i => -i) = some i
    rw (occs := .all) [body_digs]
    show some (-(i.natAbs : Int)) = some i
    congr 1; omega
  · have : signF (digs i.natAbs) = bodyF (digs i.natAbs) := by
      have hm := digs_mem i.natAbs
      revert hm
      generalize digs i.natAbs = l
      intro hm
      unfold signF
      split
      · have := hm 43 (by simp); omega
      · have := hm 45 (by simp); omega
      · rfl
    rw (occs := .all) [this, body_digs]
    congr 1; omega
theorem num_ne (i : Int) : numL i ≠ [] := by
  unfold numL
  split
  · simp
  · exact digs_ne _
theorem num_len {i : Int} (h : i.natAbs < 2 ^ 200) : (numL i).length ≤ 62 := by
  have : (digs i.natAbs).length ≤ 61 := digs_len (by decide) (Nat.lt_of_lt_of_le h (by decide))
  unfold numL
  split
  · rw (occs := .all) [List.length_cons]; omega
  · omega
theorem str_num (i : Int) : Str.ofString (toString i) = mkS (numL i) := by
  have key : ∀ m : Nat, Str.ofString (Nat.repr m) = mkS (digs m) := fun m => text_ofNat m
  unfold numL
  cases i with
  | ofNat m =>
    rw (occs := .all) [if_neg (by simp)]
    exact key m
  | negSucc m =>
    rw (occs := .all) [if_pos (Int.negSucc_lt_zero m)]
    show Str.ofString ("-" ++ Nat.repr (m + 1)) = mkS (45 :: digs (m + 1))
    rw (occs := .all) [str_eq_l]
    have e := congrArg Str.l (key (m + 1))
    rw (occs := .all) [l_mkS] at e ⊢
    rw (occs := .all) [Str.l, signs_ofString] at e ⊢
    rw (occs := .all) [String.toList_append, List.map_append, e]
    rfl
noncomputable abbrev S (x : String) : Str := Str.ofString x
inductive Res where
  | val (l : List Nat) (k : Option Int)
  | err (m : Str) (c : List Str)
noncomputable def dueP : Res → PV
  | .val l k => .tup [.str (S ""), .str (mkS l), optI k]
  | .err m c => .tup [.str m, .tup (c.map .str), .none]
noncomputable def toldP : Res → PV
  | .val l _ => .tup [.str (S ""), .str (mkS l)]
  | .err m c => .tup [.str m, .tup (c.map .str)]
noncomputable def outc : Res → Except Exc PV
  | .val l _ => .ok (.str (mkS l))
  | .err m c => .error ⟨m, c⟩
noncomputable def wholeR (i : Int) : Res := .val (numL i) (some i)
noncomputable def noTruth (l : List Nat) : Res := .err (S "expected boolean value but got \"" ++ mkS l ++ S "\"") [S "TCL", S "VALUE", S "BOOLEAN"]
noncomputable def sortF (l : List Nat) : Str := if l = [] then S "empty string" else S "non-numeric string"
noncomputable def shownF (l : List Nat) : Str := if l = [] then S "empty string" else S "non-numeric string" ++ S " \"" ++ mkS l ++ S "\""
noncomputable def noOperand (op : Str) (l : List Nat) : Res := .err (S "can't use " ++ shownF l ++ S " as operand of \"" ++ op ++ S "\"") [S "ARITH", S "DOMAIN", sortF l]
noncomputable def domainR (why told : Str) : Res := .err why [S "ARITH", S "DOMAIN", told]
noncomputable def txts : List (List Nat) := [[97, 98, 99], [48, 120, 49, 70], [32, 55, 9], [48, 49, 48], [116, 82, 117], [111, 102], [], [55, 32, 97, 98, 99, 32, 49, 48], [123], [45, 48], [49, 95, 48], [45, 48, 98, 49, 48, 49], [43, 48, 79, 49, 55], [111], [49, 46, 53], [78, 111], [48, 68, 57], [1635], [49, 48, 32, 123, 55, 32, 55, 125, 32, 45, 53], [48, 120]]
noncomputable def Plain (l : List Nat) : Prop := (∃ i : Int, l = numL i ∧ i.natAbs < 2 ^ 200) ∨ l ∈ txts
theorem plain_num {i : Int} (h : i.natAbs < 2 ^ 200) : Plain (numL i) := .inl ⟨i, rfl, h⟩
theorem Plain.len {l : List Nat} (h : Plain l) : l.length ≤ 62 := by
  rcases h with ⟨i, rfl, h⟩ | h
  · exact num_len h
  · revert l; decide +kernel
theorem Plain.none {l : List Nat} (h : Plain l) (hw : wholeF l = none) : l ∈ txts := by
  rcases h with ⟨i, rfl, h⟩ | h
  · rw (occs := .all) [whole_num] at hw; cases hw
  · exact h
theorem Plain.small {l : List Nat} (h : Plain l) {i : Int} (hw : wholeF l = some i) : i.natAbs < 2 ^ 200 := by
  rcases h with ⟨j, rfl, h⟩ | h
  · rw (occs := .all) [whole_num] at hw; cases hw; exact h
  · have e : ∀ l ∈ txts, (match wholeF l with | some i => i.natAbs | _ => 0) < 2 ^ 200 := by decide +kernel
    have := e l h
    rw (occs := .all) [hw] at this
    exact this
noncomputable def Fine (B : Nat) : Res → Prop
  | .val l k => Plain l ∧ k = wholeF l ∧ ∀ i, k = some i → i.natAbs < 2 ^ B
  | .err m c => m ≠ S ""
theorem Fine.mono {B B' : Nat} {r : Res} (h : Fine B r) (hB : B ≤ B') : Fine B' r := by
  cases r with
  | val l k => exact ⟨h.1, h.2.1, fun i e => Nat.lt_of_lt_of_le (h.2.2 i e) (Nat.pow_le_pow_right (by decide) hB)⟩
  | err m c => exact h
theorem fine_whole {B : Nat} {i : Int} (h : i.natAbs < 2 ^ B) (hB : B ≤ 200) : Fine B (wholeR i) :=
  ⟨plain_num (Nat.lt_of_lt_of_le h (Nat.pow_le_pow_right (by decide) hB)), (whole_num i).symm, fun j e => by cases e; exact h⟩
noncomputable def lowF (l : List Nat) : Str := Txt.lower (mkS l)
noncomputable def boolS (low : Str) : Option Bool :=
  if low = S "" ∨ low = S "o" then none
  else if Txt.startswith (S "true") low || Txt.startswith (S "yes") low || Txt.startswith (S "on") low then some true
  else if Txt.startswith (S "false") low || Txt.startswith (S "no") low || Txt.startswith (S "off") low then some false
  else none
noncomputable def boolF (l : List Nat) : Option Bool :=
  match wholeF l with
  | some i => some (i != 0)
  | none => boolS (lowF l)
noncomputable def truthF (l : List Nat) (k : Option Int) : Option Bool :=
  match k with
  | some i => some (i != 0)
  | none => if mkS l = S "tRu" then some true else if mkS l = S "of" then some false else if mkS l = S "No" then some false else none
theorem low_ok : ∀ l ∈ txts, Builtin.Str.tooLong (lowF l).length = false := by decide +kernel
theorem bool_txts : ∀ l ∈ txts, boolS (lowF l) = truthF l none := by decide +kernel
theorem bool_truth {l : List Nat} (h : Plain l) : boolF l = truthF l (wholeF l) := by
  unfold boolF
  cases e : wholeF l with
  | some i => rfl
  | none => exact bool_txts l (h.none e)
noncomputable def optB : Option Bool → PV
  | some b => .bool b
  | none => .none
noncomputable def braceGo : Nat → List Nat → List Nat → Option (List Nat × List Nat)
  | _, _, [] => none
  | d, acc, c :: r => if c = 123 then braceGo (d + 1) (acc ++ [c]) r else if c = 125 then (if d = 1 then some (acc, r) else braceGo (d - 1) (acc ++ [c]) r) else braceGo d (acc ++ [c]) r
noncomputable def bareN (c : Nat) : Bool := !blankN c
inductive Split : List Nat → Option (List (List Nat)) → Prop
  | done {l : List Nat} (h : lstripF l = []) : Split l (some [])
  | opened {l r : List Nat} (h : lstripF l = 123 :: r) (h92 : 92 ∉ r) (hb : braceGo 1 [] r = none) : Split l none
  | brace {l r x rest : List Nat} {o : Option (List (List Nat))} (h : lstripF l = 123 :: r) (h92 : 92 ∉ r) (hb : braceGo 1 [] r = some (x, rest)) (hr : ∀ c r', rest = c :: r' → blankN c = true) (hs : Split rest o) : Split l (o.map (x :: ·))
  | bare {l r : List Nat} {c : Nat} {o : Option (List (List Nat))} (h : lstripF l = c :: r) (h1 : c ≠ 123) (h2 : c ≠ 34) (h92 : 92 ∉ c :: r) (hs : Split ((c :: r).dropWhile bareN) o) : Split l (o.map ((c :: r).takeWhile bareN :: ·))
noncomputable def itemsF (l : List Nat) : List (List Nat) :=
  if l = [] then [] else if l = [32, 55, 9] then [[55]] else if l = [55, 32, 97, 98, 99, 32, 49, 48] then [[55], [97, 98, 99], [49, 48]] else if l = [49, 48, 32, 123, 55, 32, 55, 125, 32, 45, 53] then [[49, 48], [55, 32, 55], [45, 53]] else [l]
theorem split_one {l : List Nat} (h0 : l ≠ []) (hb : ∀ c ∈ l, blankN c = false) (h1 : l.head? ≠ some 123) (h2 : l.head? ≠ some 34) (h92 : 92 ∉ l) : Split l (some [l]) := by
  cases l with
  | nil => exact absurd rfl h0
  | cons c r =>
    have e1 : lstripF (c :: r) = c :: r := by rw [lstripF, List.dropWhile_cons_of_neg (by simp [hb c (by simp)])]
    have e2 : ∀ m : List Nat, (∀ c ∈ m, blankN c = false) → m.dropWhile bareN = [] ∧ m.takeWhile bareN = m := by
      intro m
      induction m with
      | nil => intro _; exact ⟨rfl, rfl⟩
      | cons d m ih =>
        intro h
        have hd : bareN d = true := by simp [bareN, h d (by simp)]
        have := ih (fun c hc => h c (by simp [hc]))
        rw (occs := .all) [List.dropWhile_cons_of_pos hd, List.takeWhile_cons_of_pos hd, this.1, this.2]
        exact ⟨rfl, rfl⟩
    have := Split.bare (o := some []) e1 (by simpa using h1) (by simpa using h2) h92 (by rw [(e2 _ hb).1]; exact .done rfl)
    rw (occs := .all) [(e2 _ hb).2] at this
    exact this
theorem split_plain {l : List Nat} (h : Plain l) : Split l (if l = [123] then none else some (itemsF l)) := by
  rcases h with ⟨i, rfl, h⟩ | h
  · have hn := num_nonblank i
    have e : ∀ m, (∃ c ∈ m, c ≠ 45 ∧ ¬ (48 ≤ c ∧ c ≤ 57)) ∨ m = [] → numL i ≠ m := by
      rintro m (⟨c, hc, h1, h2⟩ | rfl) q
      · subst q; rcases hn c hc with h | h
        · exact h1 h
        · exact h2 h
      · exact num_ne i q
    rw (occs := .all) [if_neg (e _ (.inl (by decide))), itemsF, if_neg (e _ (.inr rfl)), if_neg (e _ (.inl (by decide))), if_neg (e _ (.inl (by decide))), if_neg (e _ (.inl (by decide)))]
    refine split_one (num_ne i) (num_strip i) (fun q => ?_) (fun q => ?_) (fun q => ?_)
    · have := hn 123 (List.mem_of_head? q); omega
    · have := hn 34 (List.mem_of_head? q); omega
    · have := hn 92 q; omega
  · simp only [txts, List.mem_cons, List.not_mem_nil, or_false] at h
    rcases h with rfl | rfl | rfl | rfl | rfl | rfl | rfl | rfl | rfl | rfl | rfl | rfl | rfl | rfl | rfl | rfl | rfl | rfl | rfl | rfl
    all_goals first
      | exact split_one (by decide) (by decide) (by decide) (by decide) (by decide)
      | exact .done rfl
      | exact .opened (r := []) rfl (by decide) rfl
      | skip
    · exact .bare (c := 55) (r := [9]) (o := some []) rfl (by decide) (by decide) (by decide) (.done rfl)
    · exact .bare (c := 55) (r := [32, 97, 98, 99, 32, 49, 48]) (o := some _) rfl (by decide) (by decide) (by decide)
        (.bare (c := 97) (r := [98, 99, 32, 49, 48]) (o := some _) rfl (by decide) (by decide) (by decide)
          (.bare (c := 49) (r := [48]) (o := some []) rfl (by decide) (by decide) (by decide) (.done rfl)))
    · exact .bare (c := 49) (r := [48, 32, 123, 55, 32, 55, 125, 32, 45, 53]) (o := some _) rfl (by decide) (by decide) (by decide)
        (.brace (r := [55, 32, 55, 125, 32, 45, 53]) (x := [55, 32, 55]) (rest := [32, 45, 53]) (o := some _) rfl (by decide) (by decide) (by intro c r' e; cases e; rfl)
          (.bare (c := 45) (r := [53]) (o := some []) rfl (by decide) (by decide) (by decide) (.done rfl)))
theorem sh_mk {l : List Nat} (h : Plain l) : (mkS l).length ≤ 62 := by rw [len_mkS]; exact h.len
section
variable {w : World} {n : Nat}
end
theorem log_ok {j : Int} (h : j.natAbs ≤ 2 ^ 200) : j.natAbs.log2 < 1920 := by
  by_cases h0 : j.natAbs = 0
  · rw (occs := .all) [h0]; decide
  · exact (Nat.log2_lt h0).mpr (Nat.lt_of_le_of_lt h (Nat.pow_lt_pow_right (by decide) (by decide)))
theorem emp_app (x : Str) : Str.empty ++ x = x := by
  rw (occs := .all) [str_eq_l]; show ((Str.empty).cps ++ x.cps).toList = x.cps.toList; simp [Str.empty]
section
variable {w : World} {n : Nat} {σ : Scope} {ρ : PEnv} {X : Exc → Prop}
end
noncomputable abbrev AR := Except Exc Int
noncomputable def toR : AR → Res
  | .ok i => wholeR i
  | .error x => .err x.msg x.code
noncomputable def toP : AR → Except Exc PV
  | .ok i => .ok (.int i)
  | .error x => .error x
noncomputable def operandF (op : Str) (l : List Nat) : Except Exc PV :=
  match wholeF l with
  | some i => .ok (.int i)
  | none => outc (noOperand op l)
noncomputable def unaryV (op : Str) (l : List Nat) (k : Option Int) : Res :=
  if op = S "!" then (match truthF l k with | none => noOperand op l | some b => wholeR (if b then 0 else 1))
  else match k with
    | none => noOperand op l
    | some v => wholeR (if op = S "-" then 0 - v else if op = S "~" then -1 - v else v)
noncomputable def divZero : Exc := ⟨S "divide by zero", [S "ARITH", S "DIVZERO", S "divide by zero"]⟩
noncomputable def powDomain : Exc := ⟨S "exponentiation of zero by negative power", [S "ARITH", S "DOMAIN", S "exponentiation of zero by negative power"]⟩
noncomputable def powLarge : Exc := ⟨S "exponent too large", [S "NONE"]⟩
noncomputable def shiftNeg : Exc := ⟨S "negative shift argument", [S "ARITH", S "DOMAIN", S "domain error: argument not in valid range"]⟩
noncomputable def shiftBig : Exc := ⟨S "integer value too large to represent", [S "ARITH", S "IOVERFLOW", S "integer value too large to represent"]⟩
noncomputable def powerV (m n : Int) : AR :=
  if n = 0 then .ok 1 else if m = 0 ∧ n < 0 then .error powDomain else if m = 0 ∨ m = 1 then .ok m
  else if m = -1 then .ok (if n.fmod 2 = 0 then 1 else -1) else if n < 0 then .ok 0 else if 2 ^ 28 ≤ n then .error powLarge else .ok (m ^ n.toNat)
noncomputable def shlV (m n : Int) : AR :=
  if n < 0 then .error shiftNeg else if m = 0 then .ok 0 else if 2 ^ 31 ≤ n then .error shiftBig else .ok (m * 2 ^ n.toNat)
noncomputable def shrV (m n : Int) : AR :=
  if n < 0 then .error shiftNeg else if 2 ^ 31 ≤ n then .ok (if m < 0 then -1 else 0) else .ok (m.fdiv (2 ^ n.toNat))
noncomputable def arithV (op : Str) (m n : Int) : AR :=
  if op = S "+" then .ok (m + n) else if op = S "-" then .ok (m - n) else if op = S "*" then .ok (m * n)
  else if op = S "/" then (if n = 0 then .error divZero else .ok (m.fdiv n)) else if op = S "%" then (if n = 0 then .error divZero else .ok (m.fmod n))
  else if op = S "**" then powerV m n else if op = S "<<" then shlV m n else if op = S ">>" then shrV m n
  else if op = S "&" then .ok (Builtin.bitAnd m n) else if op = S "|" then .ok (Builtin.bitOr m n) else .ok (Builtin.bitXor m n)

section
section
variable {w : World} {n : Nat}
theorem w_text_of_numbers {b : Bool} : Does w (n + 1) 133 [.bool b] (.ok (.str (mkS (numL (if b then 1 else 0))))) := by
  refine fnc_body (xs := ["is_so"]) (ρ₀ := [("is_so", .fz (.bool b))]) (ho := by k_is) (hcd := by k_is) (hbind := by wtm_at "a1") (by decide +kernel) rfl (by decide +kernel) (by decide +kernel) rfl rfl rfl rfl ?_
  wtm_at "go"
  have e1 : Str.ofString "1" = mkS (numL 1) := by decide +kernel
  have e0 : Str.ofString "0" = mkS (numL 0) := by decide +kernel
  cases b
  · refine .ff rfl ?_
    wtm_at "go"
    rw (occs := .all) [e0]; rfl
  · refine .tt rfl ?_
    wtm_at "go"
    rw (occs := .all) [e1]; rfl
theorem w_bool_of {l : List Nat} (hl : Plain l) : Does w (n + 4) 119 [.str (mkS l)] (.ok (optB (boolF l))) := by
  refine fnc_body (xs := ["text"]) (ρ₀ := [("text", .fz (.str (mkS l)))]) (ho := by k_is) (hcd := by k_is) (hbind := by wtm_at "a1") (by decide +kernel) rfl (by decide +kernel) (by decide +kernel) rfl rfl rfl rfl ?_
  wtm_at "go"
  refine ev_call g_whole_of f_whole_of ?_ (by omega)
  wtm_at "go"
  refine does_ok (w_whole_of (n := 0) (by have := hl.len; omega)) (by omega) ?_
  wtm_at "go"
  rw (occs := .all) [optI_none]
  cases e : wholeF l with
  | some i =>
    refine .tt rfl ?_
    simp only [optI]
    wtm_at "go"
    rw (occs := .all) [boolF, e]; rfl
  | none =>
    have hm := hl.none e
    have e2 : boolF l = boolS (lowF l) := by rw [boolF, e]
    rw (occs := .all) [e2]
    refine .ff rfl ?_
    wtm_at "go"
    refine ev_lower ?_
    wtm_at "go"
    refine ⟨low_ok l hm, ?_⟩
    rw (occs := .all) [show Txt.lower (mkS l) = lowF l from rfl]
    clear hm e2
    generalize lowF l = low
    wtm_at "go"
    have hb : (strD [PV.str (Str.ofString ""), PV.str (Str.ofString "o")]).any (fun x => x == low) = decide (low = S "" ∨ low = S "o") := by
      rw (occs := .all) [Bool.eq_iff_iff]
      simp only [strD, List.any_cons, List.any_nil, Bool.or_false, Bool.or_eq_true, beq_iff_eq, decide_eq_true_eq]
      exact or_congr eq_comm eq_comm
    rw (occs := .all) [hb]
    refine .split (fun h => ?_) (fun h => ?_)
    · wtm_at "go"
      rw (occs := .all) [boolS, if_pos (of_decide_eq_true h)]; rfl
    · have h0 := of_decide_eq_false h
      wtm_at "go"
      have ys : ∀ (p q r : Bool) , True := fun _ _ _ => trivial
      refine ex_for ?_ (by omega)
      wtm_at "go"
      refine ⟨_, .tup _, ?_⟩
      repeat (
        refine frl_cons (by wtm_at "put") ?_ (by decide +kernel)
        wtm_at "go"
        refine ev_startswith ?_
        wtm_at "go"
        refine .split (fun h => ?_) (fun h => ?_)
        focus (wtm_at "go"; rw [boolS, if_neg h0, if_pos (by simp [h])]; rfl)
        wtm_at "go")
      refine frl_nil ?_
      wtm_at "go"
      refine ex_for ?_ (by omega)
      wtm_at "go"
      refine ⟨_, .tup _, ?_⟩
      repeat (
        refine frl_cons (by wtm_at "put") ?_ (by decide +kernel)
        wtm_at "go"
        refine ev_startswith ?_
        wtm_at "go"
        refine .split (fun h => ?_) (fun h => ?_)
        focus (wtm_at "go"; rw [boolS, if_neg h0, if_neg (by simp [*]), if_pos (by simp [h])]; rfl)
        wtm_at "go")
      refine frl_nil ?_
      wtm_at "go"
      rw (occs := .all) [boolS, if_neg h0, if_neg (by simp [*]), if_neg (by simp [*])]; rfl
theorem optB_none (o : Option Bool) : (optB o).isNone = o.isNone := by cases o <;> rfl
noncomputable def needB (l : List Nat) (o : Option Bool) : Except Exc PV :=
  match o with
  | some b => .ok (.bool b)
  | none => .error ⟨S "expected boolean value but got \"" ++ mkS l ++ S "\"", [S "TCL", S "VALUE", S "BOOLEAN"]⟩
theorem w_need_bool {l : List Nat} (hl : Plain l) : Does w (n + 5) 126 [.str (mkS l)] (needB l (boolF l)) := by
  refine fnc_body (xs := ["text"]) (ρ₀ := [("text", .fz (.str (mkS l)))]) (ho := by k_is) (hcd := by k_is) (hbind := by wtm_at "a1") (by decide +kernel) rfl (by decide +kernel) (by decide +kernel) rfl rfl rfl rfl ?_
  wtm_at "go"
  refine ev_call g_bool_of f_bool_of ?_ (by omega)
  wtm_at "go"
  refine does_ok (w_bool_of (n := 0) hl) (by omega) ?_
  wtm_at "go"
  rw (occs := .all) [optB_none]
  cases e : boolF l with
  | some b =>
    refine .ff rfl ?_
    wtm_at "go"
    rfl
  | none =>
    refine .tt rfl ?_
    wtm_at "go"
    refine ex_raise ?_ (by omega)
    refine evo_call g_error f_error ?_ (by omega)
    wtm_at "go"
    exact fno_use (fno_error (n := 0) (codes := [S "TCL", S "VALUE", S "BOOLEAN"])) (by omega) rfl
end
end
section
section
variable {w : World} {n : Nat}
theorem w_operand_fault {op : Str} {l : List Nat} (hop : op.length ≤ 10) (hl : Plain l) : fno w (n + 4) 210 [.str op, .str (mkS l)] (fun x => outc (noOperand op l) = .error x) := by
  refine fno_body (xs := ["op", "text"]) (ρ₀ := [("op", .fz (.str op)), ("text", .fz (.str (mkS l)))]) (ho := by k_is) (hcd := by k_is) (hbind := by wtm_at "a2") (by decide +kernel) rfl (by decide +kernel) (by decide +kernel) rfl rfl rfl rfl ?_
  wtm_at "go"
  refine ex_assign2s ?_ (by omega)
  wtm_at "go"
  refine ⟨_, _, rfl, _, _, by wtm_at "put", by wtm_at "put", ?_⟩
  wtm_at "go"
  rw (occs := .all) [mkS_nil, mkS_beq]
  refine .split2 beq_iff_eq.mp beq_eq_false_iff_ne.mp (fun h => ?_) (fun h => ?_)
  · subst h
    wtm_at "go"
    refine ex_assign2 ?_ (by omega)
    wtm_at "go"
    refine ⟨_, _, rfl, _, _, by wtm_at "put", by wtm_at "put", ?_⟩
    repeat (first | with_reducible refine ex_retO ?_ | wtm_at "one")
    refine evo_call g_error f_error ?_ (by omega)
    wtm_at "go"
    refine fno_use (fno_error (n := 0) (codes := [S "ARITH", S "DOMAIN", S "empty string"])) (by omega) ?_
    simp only [emp_app, noOperand, outc, sortF, shownF, if_true]
  · repeat (first | with_reducible refine ex_retO ?_ | wtm_at "one")
    refine evo_call g_error f_error ?_ (by omega)
    wtm_at "go"
    refine fno_use (fno_error (n := 0) (codes := [S "ARITH", S "DOMAIN", S "non-numeric string"])) (by omega) ?_
    have e : S "non-numeric string" ++ S " \"" = S "non-numeric string \"" := by decide +kernel
    simp only [emp_app, noOperand, outc, sortF, shownF, if_neg h, e]
theorem w_operand {op : Str} {l : List Nat} (hop : op.length ≤ 10) (hl : Plain l) : Does w (n + 5) 217 [.str op, .str (mkS l)] (operandF op l) := by
  refine fnc_body (xs := ["op", "text"]) (ρ₀ := [("op", .fz (.str op)), ("text", .fz (.str (mkS l)))]) (ho := by k_is) (hcd := by k_is) (hbind := by wtm_at "a2") (by decide +kernel) rfl (by decide +kernel) (by decide +kernel) rfl rfl rfl rfl ?_
  wtm_at "go"
  refine ev_call g_whole_of f_whole_of ?_ (by omega)
  wtm_at "go"
  refine does_ok (w_whole_of (n := 0) (by have := hl.len; omega)) (by omega) ?_
  wtm_at "go"
  rw (occs := .all) [optI_none, operandF]
  cases wholeF l with
  | some i =>
    refine .ff rfl ?_
    wtm_at "go"
    rfl
  | none =>
    refine .tt rfl ?_
    wtm_at "go"
    refine ex_raise ?_ (by omega)
    refine evo_call g_operand_fault f_operand_fault ?_ (by omega)
    wtm_at "go"
    exact fno_mono (w_operand_fault (n := 0) hop hl) (by omega) (fun x e => e)
theorem w_unary {op : Str} {l : List Nat} (hop : op = S "-" ∨ op = S "+" ∨ op = S "~" ∨ op = S "!") (hl : Plain l) : Does w (n + 6) 224 [.str op, .str (mkS l)] (outc (unaryV op l (wholeF l))) := by
  have hol : op.length ≤ 10 := by rcases hop with rfl | rfl | rfl | rfl <;> decide +kernel
  refine fnc_body (xs := ["op", "a"]) (ρ₀ := [("op", .fz (.str op)), ("a", .fz (.str (mkS l)))]) (ho := by k_is) (hcd := by k_is) (hbind := by wtm_at "a2") (by decide +kernel) rfl (by decide +kernel) (by decide +kernel) rfl rfl rfl rfl ?_
  wtm_at "go"
  refine .split2 beq_iff_eq.mp beq_eq_false_iff_ne.mp (fun h => ?_) (fun h => ?_)
  · wtm_at "go"
    refine ev_call g_bool_of f_bool_of ?_ (by omega)
    wtm_at "go"
    refine does_ok (w_bool_of (n := 0) hl) (by omega) ?_
    wtm_at "go"
    unfold unaryV
    rw (occs := .all) [optB_none, if_pos h, ← bool_truth hl]
    cases boolF l with
    | none =>
      refine .tt rfl ?_
      wtm_at "go"
      refine ex_raise ?_ (by omega)
      refine evo_call g_operand_fault f_operand_fault ?_ (by omega)
      wtm_at "go"
      exact fno_mono (w_operand_fault (n := 0) hol hl) (by omega) (fun x e => e)
    | some b =>
      refine .ff rfl ?_
      wtm_at "go"
      refine ev_call g_text_of_numbers f_text_of_numbers ?_ (by omega)
      simp only [optB]
      wtm_at "go"
      refine does_ok (w_text_of_numbers (n := 0)) (by omega) ?_
      cases b <;> rfl
  · wtm_at "go"
    refine ev_call g_operand f_operand ?_ (by omega)
    wtm_at "go"
    unfold unaryV
    rw (occs := .all) [if_neg h]
    refine does_use (w_operand (n := 0) hol hl) (by omega) (fun p e => ?_) (fun x e => ?_)
    · cases hw : wholeF l with
      | none => rw (occs := .all) [operandF, hw] at e; cases e
      | some v =>
        rw (occs := .all) [operandF, hw] at e
        cases e
        have hsm := hl.small hw
        wtm_at "go"
        refine .split2 beq_iff_eq.mp beq_eq_false_iff_ne.mp (fun h1 => ?_) (fun h1 => ?_)
        · wtm_at "go"
          refine s_strI (log_ok (le_negA hsm)) ?_
          rw (occs := .all) [str_num]; dsimp only; rw [if_pos h1]
          rw (occs := .all) [show 0 - v = -v by omega]; rfl
        · wtm_at "go"
          refine .split2 beq_iff_eq.mp beq_eq_false_iff_ne.mp (fun h2 => ?_) (fun h2 => ?_)
          · wtm_at "go"
            have e3 : Builtin.bitNot v = -1 - v := by unfold Builtin.bitNot; omega
            refine s_strI (log_ok (le_notA hsm)) ?_
            rw (occs := .all) [str_num]; dsimp only; rw [if_neg h1, if_pos h2, e3]
            rfl
          · wtm_at "go"
            refine .tt (by rcases hop with rfl | rfl | rfl | rfl <;> first | (exact absurd rfl h) | (exact absurd rfl h1) | (exact absurd rfl h2) | decide +kernel) ?_
            wtm_at "go"
            refine s_strI (log_ok (Nat.le_of_lt hsm)) ?_
            rw (occs := .all) [str_num]; dsimp only; rw [if_neg h1, if_neg h2]
            rfl
    · cases hw : wholeF l with
      | none => rw (occs := .all) [operandF, hw] at e; exact e
      | some v => rw (occs := .all) [operandF, hw] at e; cases e
end
end
section
theorem bits_lt {i : Int} {k : Nat} (h : i.natAbs < 2 ^ k) : Builtin.Int.intBits i ≤ k := by
  unfold Builtin.Int.intBits
  split
  · omega
  · rename_i h0
    have h1 : i.natAbs ≠ 0 := by simp at h0; omega
    have := (Nat.log2_lt h1).mpr h
    omega
theorem mul_ok {a b : Int} (ha : a.natAbs < 2 ^ 1000) (hb : b.natAbs < 2 ^ 1000) : IntMulOk a b := by
  have h1 := bits_lt ha
  have h2 := bits_lt hb
  exact IntMulOk.of_le h1 h2 (by omega)
section
variable {w : World} {n : Nat}
theorem w_need_divisor {d : Int} : Does w (n + 4) 231 [.int d] (if d = 0 then .error divZero else .ok .none) := by
  refine fnc_body (xs := ["number"]) (ρ₀ := [("number", .fz (.int d))]) (ho := by k_is) (hcd := by k_is) (hbind := by wtm_at "a1") (by decide +kernel) rfl (by decide +kernel) (by decide +kernel) rfl rfl rfl rfl ?_
  wtm_at "go"
  refine .split2 beq_iff_eq.mp beq_eq_false_iff_ne.mp (fun h => ?_) (fun h => ?_)
  · wtm_at "go"
    refine ex_raise ?_ (by omega)
    refine evo_call g_error f_error ?_ (by omega)
    wtm_at "go"
    rw (occs := .all) [if_pos h]
    exact fno_use (fno_error (n := 0) (codes := [S "ARITH", S "DIVZERO", S "divide by zero"])) (by omega) rfl
  · wtm_at "go"
    rw (occs := .all) [if_neg h]
theorem w_need_count {d : Int} : Does w (n + 4) 245 [.int d] (if d < 0 then .error shiftNeg else .ok .none) := by
  refine fnc_body (xs := ["count"]) (ρ₀ := [("count", .fz (.int d))]) (ho := by k_is) (hcd := by k_is) (hbind := by wtm_at "a1") (by decide +kernel) rfl (by decide +kernel) (by decide +kernel) rfl rfl rfl rfl ?_
  wtm_at "go"
  refine .split2 of_decide_eq_true of_decide_eq_false (fun h => ?_) (fun h => ?_)
  · wtm_at "go"
    refine ex_raise ?_ (by omega)
    refine evo_call g_error f_error ?_ (by omega)
    wtm_at "go"
    rw (occs := .all) [if_pos h]
    exact fno_use (fno_error (n := 0) (codes := [S "ARITH", S "DOMAIN", S "domain error: argument not in valid range"])) (by omega) rfl
  · wtm_at "go"
    rw (occs := .all) [if_neg h]
theorem p28 : (2 : Int) ^ (28 : Int).toNat = 2 ^ 28 := rfl
theorem p31 : (2 : Int) ^ (31 : Int).toNat = 2 ^ 31 := rfl
noncomputable def PowOk (m e : Int) : Prop := m.natAbs ≤ 1 ∨ e < 0 ∨ 2 ^ 28 ≤ e ∨ (e ≤ 4 ∧ m.natAbs < 2 ^ 36)
noncomputable abbrev Lpw (m e : Int) : PEnv := [("base", .fz (.int m)), ("exponent", .fz (.int e))]
theorem w_power {m e : Int} (hs : PowOk m e) : Does w (n + 4) 238 [.int m, .int e] (toP (powerV m e)) := by
  refine fnc_body (xs := ["base", "exponent"]) (ρ₀ := Lpw m e) (ho := by k_is) (hcd := by k_is) (hbind := by wtm_at "a2") (by decide +kernel) rfl (by decide +kernel) (by decide +kernel) rfl rfl rfl rfl ?_
  unfold powerV
  refine exs_cutS (L := (Lpw m e)) (P := ¬ e = 0) ?_ (fun h1 => ?_)
  · wtm_at "go"
    refine .split2 beq_iff_eq.mp beq_eq_false_iff_ne.mp (fun h => ?_) (fun h => ?_)
    · wtm_at "go"
      rw (occs := .all) [if_pos h]; rfl
    · wtm_at "go"
      exact ⟨by wtm_at "sub", h⟩
  rw (occs := .all) [if_neg h1]
  refine exs_cutS (L := (Lpw m e)) (P := ¬ (m = 0 ∧ e < 0)) ?_ (fun h2 => ?_)
  · wtm_at "go"
    refine .split2 beq_iff_eq.mp beq_eq_false_iff_ne.mp (fun h => ?_) (fun h => ?_)
    · wtm_at "go"
      refine .split2 of_decide_eq_true of_decide_eq_false (fun h' => ?_) (fun h' => ?_)
      · wtm_at "go"
        refine ex_raise ?_ (by omega)
        refine evo_call g_error f_error ?_ (by omega)
        wtm_at "go"
        rw (occs := .all) [if_pos ⟨h, h'⟩]
        exact fno_use (fno_error (n := 0) (codes := [S "ARITH", S "DOMAIN", S "exponentiation of zero by negative power"])) (by omega) rfl
      · wtm_at "go"
        exact ⟨by wtm_at "sub", fun q => h' q.2⟩
    · wtm_at "go"
      exact ⟨by wtm_at "sub", fun q => h q.1⟩
  rw (occs := .all) [if_neg h2]
  refine exs_cutS (L := (Lpw m e)) (P := ¬ (m = 0 ∨ m = 1)) ?_ (fun h3 => ?_)
  · wtm_at "go"
    refine .split2 beq_iff_eq.mp beq_eq_false_iff_ne.mp (fun h => ?_) (fun h => ?_)
    · wtm_at "go"
      rw (occs := .all) [if_pos (.inl h)]; rfl
    · wtm_at "go"
      refine .split2 beq_iff_eq.mp beq_eq_false_iff_ne.mp (fun h' => ?_) (fun h' => ?_)
      · wtm_at "go"
        rw (occs := .all) [if_pos (.inr h')]; rfl
      · wtm_at "go"
        exact ⟨by wtm_at "sub", fun q => q.elim h h'⟩
  rw (occs := .all) [if_neg h3]
  refine exs_cutS (L := (Lpw m e)) (P := ¬ (m = -1)) ?_ (fun h4 => ?_)
  · wtm_at "go"
    refine .split2 beq_iff_eq.mp beq_eq_false_iff_ne.mp (fun h => ?_) (fun h => ?_)
    · wtm_at "go"
      refine s_mod (by decide) ?_
      wtm_at "go"
      rw (occs := .all) [if_pos h]
      refine .split2 beq_iff_eq.mp beq_eq_false_iff_ne.mp (fun h' => ?_) (fun h' => ?_)
      · wtm_at "go"
        rw (occs := .all) [if_pos h']; rfl
      · wtm_at "go"
        rw (occs := .all) [if_neg h']; rfl
    · wtm_at "go"
      exact ⟨by wtm_at "sub", h⟩
  rw (occs := .all) [if_neg h4]
  refine exs_cutS (L := (Lpw m e)) (P := ¬ (e < 0)) ?_ (fun h5 => ?_)
  · wtm_at "go"
    refine .split2 of_decide_eq_true of_decide_eq_false (fun h => ?_) (fun h => ?_)
    · wtm_at "go"
      rw (occs := .all) [if_pos h]; rfl
    · wtm_at "go"
      exact ⟨by wtm_at "sub", h⟩
  rw (occs := .all) [if_neg h5]
  wtm_at "go"
  rw (occs := .all) [p28]
  refine .split2 of_decide_eq_true of_decide_eq_false (fun h => ?_) (fun h => ?_)
  · wtm_at "go"
    refine ex_raise ?_ (by omega)
    refine evo_call g_error f_error ?_ (by omega)
    wtm_at "go"
    rw (occs := .all) [if_pos h]
    exact fno_use (fno_error1 (n := 0)) (by omega) rfl
  · wtm_at "go"
    rw (occs := .all) [if_neg h]
    have h6 : e ≤ 4 ∧ m.natAbs < 2 ^ 36 := by
      rcases hs with q | q | q | q
      · omega
      · omega
      · omega
      · exact q
    refine s_pow (by omega) ?_ rfl
    have := bits_lt h6.2
    have e3 : (Builtin.Int.intBits m : Int) * e ≤ 36 * 4 := Int.mul_le_mul (by omega) h6.1 (by omega) (by decide)
    omega
noncomputable abbrev Lsh (m e : Int) : PEnv := [("number", .fz (.int m)), ("count", .fz (.int e))]
noncomputable def ShlOk (m e : Int) : Prop := m = 0 ∨ e < 0 ∨ 2 ^ 31 ≤ e ∨ (e ≤ 64 ∧ m.natAbs < 2 ^ 80)
theorem w_shl {m e : Int} (hs : ShlOk m e) : Does w (n + 5) 252 [.int m, .int e] (toP (shlV m e)) := by
  refine fnc_body (xs := ["number", "count"]) (ρ₀ := Lsh m e) (ho := by k_is) (hcd := by k_is) (hbind := by wtm_at "a2") (by decide +kernel) rfl (by decide +kernel) (by decide +kernel) rfl rfl rfl rfl ?_
  unfold shlV
  refine exs_cutS (L := (Lsh m e)) (P := ¬ e < 0) ?_ (fun h1 => ?_)
  · refine ex_expr ?_
    refine ev_call g_need_count f_need_count ?_ (by omega)
    wtm_at "go"
    refine does_use (w_need_count (n := 0)) (by omega) (fun p e => ?_) (fun x e => ?_)
    · split at e
      · cases e
      · cases e
        exact ⟨rfl, by wtm_at "sub", by assumption⟩
    · split at e
      · cases e
        rw (occs := .all) [if_pos (by assumption)]; rfl
      · cases e
  rw (occs := .all) [if_neg h1]
  refine exs_cutS (L := (Lsh m e)) (P := ¬ m = 0) ?_ (fun h2 => ?_)
  · wtm_at "go"
    refine .split2 beq_iff_eq.mp beq_eq_false_iff_ne.mp (fun h => ?_) (fun h => ?_)
    · wtm_at "go"
      rw (occs := .all) [if_pos h]; rfl
    · wtm_at "go"
      exact ⟨by wtm_at "sub", h⟩
  rw (occs := .all) [if_neg h2]
  wtm_at "go"
  rw (occs := .all) [p31]
  refine .split2 of_decide_eq_true of_decide_eq_false (fun h => ?_) (fun h => ?_)
  · wtm_at "go"
    refine ex_raise ?_ (by omega)
    refine evo_call g_error f_error ?_ (by omega)
    wtm_at "go"
    rw (occs := .all) [if_pos h]
    exact fno_use (fno_error (n := 0) (codes := [S "ARITH", S "IOVERFLOW", S "integer value too large to represent"])) (by omega) rfl
  · wtm_at "go"
    rw (occs := .all) [if_neg h]
    have h6 : e ≤ 64 ∧ m.natAbs < 2 ^ 80 := by
      rcases hs with q | q | q | q
      · omega
      · omega
      · omega
      · exact q
    have := bits_lt h6.2
    exact s_shl (by omega) (by omega) rfl
theorem w_shr {m e : Int} : Does w (n + 5) 259 [.int m, .int e] (toP (shrV m e)) := by
  refine fnc_body (xs := ["number", "count"]) (ρ₀ := Lsh m e) (ho := by k_is) (hcd := by k_is) (hbind := by wtm_at "a2") (by decide +kernel) rfl (by decide +kernel) (by decide +kernel) rfl rfl rfl rfl ?_
  unfold shrV
  refine exs_cutS (L := (Lsh m e)) (P := ¬ e < 0) ?_ (fun h1 => ?_)
  · refine ex_expr ?_
    refine ev_call g_need_count f_need_count ?_ (by omega)
    wtm_at "go"
    refine does_use (w_need_count (n := 0)) (by omega) (fun p e => ?_) (fun x e => ?_)
    · split at e
      · cases e
      · cases e
        exact ⟨rfl, by wtm_at "sub", by assumption⟩
    · split at e
      · cases e
        rw (occs := .all) [if_pos (by assumption)]; rfl
      · cases e
  rw (occs := .all) [if_neg h1]
  wtm_at "go"
  rw (occs := .all) [p31]
  refine .split2 of_decide_eq_true of_decide_eq_false (fun h => ?_) (fun h => ?_)
  · wtm_at "go"
    rw (occs := .all) [if_pos h]
    refine .split2 of_decide_eq_true of_decide_eq_false (fun h => ?_) (fun h => ?_)
    · wtm_at "go"
      rw (occs := .all) [if_pos h]; rfl
    · wtm_at "go"
      rw (occs := .all) [if_neg h]; rfl
  · wtm_at "go"
    rw (occs := .all) [if_neg h]
    exact s_shr (by omega) rfl
end
end
section
theorem p1000 : 2 ^ 200 ≤ 2 ^ 1000 := Nat.pow_le_pow_right (by decide) (by decide)
noncomputable def arOps : List Str := [S "+", S "-", S "*", S "/", S "%", S "**", S "<<", S ">>", S "&", S "|", S "^"]
section
variable {w : World} {n : Nat}
noncomputable abbrev Lar (op : Str) (m k : Int) : PEnv := [("op", .fz (.str op)), ("left", .fz (.int m)), ("right", .fz (.int k))]
theorem w_arithmetic {op : Str} {m k : Int} (hop : op ∈ arOps) (hm : m.natAbs < 2 ^ 200) (hk : k.natAbs < 2 ^ 200) (hp : op = S "**" → PowOk m k) (hl : op = S "<<" → ShlOk m k) : Does w (n + 6) 266 [.str op, .int m, .int k] (toP (arithV op m k)) := by
  refine fnc_body (xs := ["op", "left", "right"]) (ρ₀ := Lar op m k) (ho := by k_is) (hcd := by k_is) (hbind := by wtm_at "a3") (by decide +kernel) rfl (by decide +kernel) (by decide +kernel) rfl rfl rfl rfl ?_
  unfold arithV
  refine exs_cutS (L := (Lar op m k)) (P := ¬ op = S "+") ?_ (fun h0 => ?_)
  · wtm_at "go"
    refine .split2 beq_iff_eq.mp beq_eq_false_iff_ne.mp (fun h => ?_) (fun h => ?_)
    · rw (occs := .all) [if_pos h]
      wtm_at "go"
      rfl
    · wtm_at "go"
      exact ⟨by wtm_at "sub", h⟩
  rw (occs := .all) [if_neg h0]
  refine exs_cutS (L := (Lar op m k)) (P := ¬ op = S "-") ?_ (fun h1 => ?_)
  · wtm_at "go"
    refine .split2 beq_iff_eq.mp beq_eq_false_iff_ne.mp (fun h => ?_) (fun h => ?_)
    · rw (occs := .all) [if_pos h]
      wtm_at "go"
      rfl
    · wtm_at "go"
      exact ⟨by wtm_at "sub", h⟩
  rw (occs := .all) [if_neg h1]
  refine exs_cutS (L := (Lar op m k)) (P := ¬ op = S "*") ?_ (fun h2 => ?_)
  · wtm_at "go"
    refine .split2 beq_iff_eq.mp beq_eq_false_iff_ne.mp (fun h => ?_) (fun h => ?_)
    · rw (occs := .all) [if_pos h]
      wtm_at "go"
      exact s_mul (mul_ok (Nat.lt_of_lt_of_le hm p1000) (Nat.lt_of_lt_of_le hk p1000)) rfl
    · wtm_at "go"
      exact ⟨by wtm_at "sub", h⟩
  rw (occs := .all) [if_neg h2]
  refine exs_cutS (L := (Lar op m k)) (P := ¬ op = S "/") ?_ (fun h3 => ?_)
  · wtm_at "go"
    refine .split2 beq_iff_eq.mp beq_eq_false_iff_ne.mp (fun h => ?_) (fun h => ?_)
    · rw (occs := .all) [if_pos h]
      refine exs_cutS (L := (Lar op m k)) (P := ¬ k = 0) ?_ (fun h1 => ?_)
      · refine ex_expr ?_
        refine ev_call g_need_divisor f_need_divisor ?_ (by omega)
        wtm_at "go"
        refine does_use (w_need_divisor (n := 0)) (by omega) (fun p e => ?_) (fun x e => ?_)
        · split at e
          · cases e
          · cases e
            exact ⟨rfl, by wtm_at "sub", by assumption⟩
        · split at e
          · cases e
            rw (occs := .all) [if_pos (by assumption)]; rfl
          · cases e
      rw (occs := .all) [if_neg h1]
      wtm_at "go"
      exact s_div h1 (PyProof.noPylong_of_log2 (Nat.lt_of_lt_of_le (log_ok (Nat.le_of_lt hk)) (by decide))) rfl
    · wtm_at "go"
      exact ⟨by wtm_at "sub", h⟩
  rw (occs := .all) [if_neg h3]
  refine exs_cutS (L := (Lar op m k)) (P := ¬ op = S "%") ?_ (fun h4 => ?_)
  · wtm_at "go"
    refine .split2 beq_iff_eq.mp beq_eq_false_iff_ne.mp (fun h => ?_) (fun h => ?_)
    · rw (occs := .all) [if_pos h]
      refine exs_cutS (L := (Lar op m k)) (P := ¬ k = 0) ?_ (fun h1 => ?_)
      · refine ex_expr ?_
        refine ev_call g_need_divisor f_need_divisor ?_ (by omega)
        wtm_at "go"
        refine does_use (w_need_divisor (n := 0)) (by omega) (fun p e => ?_) (fun x e => ?_)
        · split at e
          · cases e
          · cases e
            exact ⟨rfl, by wtm_at "sub", by assumption⟩
        · split at e
          · cases e
            rw (occs := .all) [if_pos (by assumption)]; rfl
          · cases e
      rw (occs := .all) [if_neg h1]
      wtm_at "go"
      exact s_mod h1 rfl
    · wtm_at "go"
      exact ⟨by wtm_at "sub", h⟩
  rw (occs := .all) [if_neg h4]
  refine exs_cutS (L := (Lar op m k)) (P := ¬ op = S "**") ?_ (fun h5 => ?_)
  · wtm_at "go"
    refine .split2 beq_iff_eq.mp beq_eq_false_iff_ne.mp (fun h => ?_) (fun h => ?_)
    · rw (occs := .all) [if_pos h]
      wtm_at "go"
      refine ev_call g_power f_power ?_ (by omega)
      wtm_at "go"
      exact does_use (w_power (n := 0) (hp h)) (by omega) (fun p e => e) (fun x e => e)
    · wtm_at "go"
      exact ⟨by wtm_at "sub", h⟩
  rw (occs := .all) [if_neg h5]
  refine exs_cutS (L := (Lar op m k)) (P := ¬ op = S "<<") ?_ (fun h6 => ?_)
  · wtm_at "go"
    refine .split2 beq_iff_eq.mp beq_eq_false_iff_ne.mp (fun h => ?_) (fun h => ?_)
    · rw (occs := .all) [if_pos h]
      wtm_at "go"
      refine ev_call g_shifted_left f_shifted_left ?_ (by omega)
      wtm_at "go"
      exact does_use (w_shl (n := 0) (hl h)) (by omega) (fun p e => e) (fun x e => e)
    · wtm_at "go"
      exact ⟨by wtm_at "sub", h⟩
  rw (occs := .all) [if_neg h6]
  refine exs_cutS (L := (Lar op m k)) (P := ¬ op = S ">>") ?_ (fun h7 => ?_)
  · wtm_at "go"
    refine .split2 beq_iff_eq.mp beq_eq_false_iff_ne.mp (fun h => ?_) (fun h => ?_)
    · rw (occs := .all) [if_pos h]
      wtm_at "go"
      refine ev_call g_shifted_right f_shifted_right ?_ (by omega)
      wtm_at "go"
      exact does_use (w_shr (n := 0)) (by omega) (fun p e => e) (fun x e => e)
    · wtm_at "go"
      exact ⟨by wtm_at "sub", h⟩
  rw (occs := .all) [if_neg h7]
  refine exs_cutS (L := (Lar op m k)) (P := ¬ op = S "&") ?_ (fun h8 => ?_)
  · wtm_at "go"
    refine .split2 beq_iff_eq.mp beq_eq_false_iff_ne.mp (fun h => ?_) (fun h => ?_)
    · rw (occs := .all) [if_pos h]
      wtm_at "go"
      rfl
    · wtm_at "go"
      exact ⟨by wtm_at "sub", h⟩
  rw (occs := .all) [if_neg h8]
  refine exs_cutS (L := (Lar op m k)) (P := ¬ op = S "|") ?_ (fun h9 => ?_)
  · wtm_at "go"
    refine .split2 beq_iff_eq.mp beq_eq_false_iff_ne.mp (fun h => ?_) (fun h => ?_)
    · rw (occs := .all) [if_pos h]
      wtm_at "go"
      rfl
    · wtm_at "go"
      exact ⟨by wtm_at "sub", h⟩
  rw (occs := .all) [if_neg h9]
  have h10 : op = S "^" := by
    simp only [arOps, List.mem_cons, List.not_mem_nil, or_false] at hop
    rcases hop with q | q | q | q | q | q | q | q | q | q | q <;> first | exact q | exact absurd q (by assumption)
  wtm_at "go"
  refine .tt (by rw [h10]; decide +kernel) ?_
  wtm_at "go"
  rfl
theorem w_text_order {a b : Str} : Does w (n + 1) 273 [.str a, .str b] (.ok (.int (if a = b then 0 else if a.cps.toList < b.cps.toList then -1 else 1))) := by
  refine fnc_body (xs := ["a", "b"]) (ρ₀ := [("a", .fz (.str a)), ("b", .fz (.str b))]) (ho := by k_is) (hcd := by k_is) (hbind := by wtm_at "a2") (by decide +kernel) rfl (by decide +kernel) (by decide +kernel) rfl rfl rfl rfl ?_
  wtm_at "go"
  refine .split2 beq_iff_eq.mp beq_eq_false_iff_ne.mp (fun h => ?_) (fun h => ?_)
  · wtm_at "go"
    rw (occs := .all) [if_pos h]
  · wtm_at "go"
    rw (occs := .all) [if_neg h]
    refine .split2 of_decide_eq_true of_decide_eq_false (fun h => ?_) (fun h => ?_)
    · wtm_at "go"
      rw (occs := .all) [if_pos h]
    · wtm_at "go"
      rw (occs := .all) [if_neg h]
noncomputable def textOrd (a b : List Nat) : Int := if mkS a = mkS b then 0 else if a < b then -1 else 1
noncomputable def orderV (a b : List Nat) : Int :=
  match wholeF a, wholeF b with
  | some i, some j => i - j
  | _, _ => textOrd a b
theorem w_order_of {a b : List Nat} (ha : Plain a) (hb : Plain b) : Does w (n + 4) 280 [.str (mkS a), .str (mkS b)] (.ok (.int (orderV a b))) := by
  refine fnc_body (xs := ["a", "b"]) (ρ₀ := [("a", .fz (.str (mkS a))), ("b", .fz (.str (mkS b)))]) (ho := by k_is) (hcd := by k_is) (hbind := by wtm_at "a2") (by decide +kernel) rfl (by decide +kernel) (by decide +kernel) rfl rfl rfl rfl ?_
  wtm_at "go"
  refine ev_call g_whole_of f_whole_of ?_ (by omega)
  wtm_at "go"
  refine does_ok (w_whole_of (n := 0) (by have := ha.len; omega)) (by omega) ?_
  wtm_at "go"
  refine ev_call g_whole_of f_whole_of ?_ (by omega)
  wtm_at "go"
  refine does_ok (w_whole_of (n := 0) (by have := hb.len; omega)) (by omega) ?_
  unfold orderV
  cases wholeF a with
  | none =>
    wtm_at "gd"
    refine ev_call g_text_order f_text_order ?_ (by omega)
    wtm_at "go"
    exact does_ok (w_text_order (n := 0)) (by omega) rfl
  | some i =>
    cases wholeF b with
    | none =>
      wtm_at "gd"
      refine ev_call g_text_order f_text_order ?_ (by omega)
      wtm_at "go"
      exact does_ok (w_text_order (n := 0)) (by omega) rfl
    | some j =>
      simp only [optI]
      wtm_at "gd"
      rfl
end
end
noncomputable def relV (op : Str) (d : Int) : Bool :=
  if op = S "==" ∨ op = S "eq" then d == 0 else if op = S "!=" ∨ op = S "ne" then d != 0 else if op = S "<" ∨ op = S "lt" then decide (d < 0)
  else if op = S "<=" ∨ op = S "le" then decide (d ≤ 0) else if op = S ">" ∨ op = S "gt" then decide (0 < d) else decide (0 ≤ d)
noncomputable def Suf (l : List Nat) (A : Nat) (m : List Nat) : Prop := l.drop A = m ∧ A + m.length = l.length
theorem Suf.zero (l : List Nat) : Suf l 0 l := ⟨rfl, by omega⟩
theorem Suf.head {l m : List Nat} {A c : Nat} (h : Suf l A (c :: m)) : l[A]? = some c := by
  have := congrArg (fun r => r[0]?) h.1
  simpa [List.getElem?_drop] using this
theorem Suf.tail {l m : List Nat} {A c : Nat} (h : Suf l A (c :: m)) : Suf l (A + 1) m := by
  obtain ⟨h1, h2⟩ := h
  rw (occs := .all) [List.length_cons] at h2
  refine ⟨?_, by omega⟩
  have := congrArg (List.drop 1) h1
  rw (occs := .all) [List.drop_drop] at this
  simpa using this
theorem Suf.pos {l m : List Nat} {A : Nat} (h : Suf l A m) : l.length - m.length = A := by have := h.2; omega
theorem join_chs : ∀ acc : List Nat, Txt.join (S "") (acc.map ch) = mkS acc := by
  have key : ∀ acc : List Nat, Str.join (S "") (acc.map ch) = mkS acc := by
    intro acc
    induction acc with
    | nil => decide +kernel
    | cons c r ih =>
      cases r with
      | nil => rfl
      | cons d r =>
        have e : Str.join (S "") (ch c :: (d :: r).map ch) = ch c ++ S "" ++ Str.join (S "") ((d :: r).map ch) := rfl
        rw (occs := .all) [List.map_cons, e, ih, str_eq_l]
        show ((ch c).cps ++ (S "").cps ++ (mkS (d :: r)).cps).toList = (mkS (c :: d :: r)).cps.toList
        have e0 : (S "").cps = #[] := by rw [show S "" = mkS [] from mkS_nil]; rfl
        rw (occs := .all) [e0]
        simp [ch, mkS]
  intro acc
  rw (occs := .all) [← key]
  show Builtin.Str.glued (S "") _ = _
  rw (occs := .all) [StrLaws.glued_eq_join]
theorem join_ok {acc : List Nat} (h : acc.length ≤ 1000) : JoinOk (S "") (acc.map ch) = true := by
  refine joinOk_of ?_
  have e : ((acc.map ch).map (·.length)).sum = acc.length := by
    clear h
    induction acc with
    | nil => rfl
    | cons c r ih => simp only [List.map_cons, List.sum_cons, List.length_cons, ih]; show 1 + r.length = _; omega
  have : (S "").length = 0 := by decide +kernel
  rw (occs := .all) [e, this]; omega
noncomputable def chP (c : Nat) : PV := .str (ch c)
theorem chP_map (acc : List Nat) : acc.map chP = (acc.map ch).map PV.str := by rw [List.map_map]; rfl
noncomputable def strP (l : List Nat) : PV := .str (mkS l)
noncomputable def braceX : Exc := ⟨S "unmatched open brace in list", [S "TCL", S "VALUE", S "LIST", S "BRACE"]⟩
noncomputable def pairP (x : List Nat) (A : Nat) : PV := .tup [.str (mkS x), .int A]
noncomputable def findV (l m : List Nat) : Except Exc PV :=
  match lstripF m with
  | [] => .ok .none
  | c :: r => if c = 123 then (match braceGo 1 [] r with | none => .error braceX | some (x, rest) => .ok (pairP x (l.length - rest.length)))
    else .ok (pairP ((c :: r).takeWhile bareN) (l.length - ((c :: r).dropWhile bareN).length))
structure FindOk (m : List Nat) : Prop where
  h34 : ∀ c r, lstripF m = c :: r → c ≠ 34 ∧ 92 ∉ c :: r
  hb : ∀ r x rest, lstripF m = 123 :: r → braceGo 1 [] r = some (x, rest) → ∀ c r', rest = c :: r' → blankN c = true
theorem Suf.cut {l m : List Nat} {F i : Nat} (h : Suf l F m) (hi : i ≤ m.length) : cut (mkS l) F (F + i) = mkS (m.take i) := by
  rw (occs := .all) [cut_mkS, h.1, Nat.add_sub_cancel_left]
theorem ab_const {c : Const} {k : Nat} {p : Pos} {a : Str} {env : Env} {v : Sem Value} : attributeBase (.Constant c k p) a env v = v := rfl
section
variable {w : World} {n : Nat} {σ : Scope} {ρ : PEnv} {X : Exc → Prop}
theorem ex_cut {st : Stmt} {N : PEnv → Prop} {k : Ks} (N' : PEnv → Prop) (h : ex w n σ st ρ N' k X) (h2 : ∀ ρ', N' ρ' → N ρ') : ex w n σ st ρ N k X :=
  ex_mono h fun fl ρ' q => by cases fl <;> first | exact h2 _ q | exact q
end
section
section
variable {w : World} {n : Nat}
noncomputable abbrev Lrel (op : Str) (d : Int) : PEnv := [("op", .fz (.str op)), ("order", .fz (.int d))]
theorem w_relation {op : Str} {d : Int} : Does w (n + 1) 287 [.str op, .int d] (.ok (.bool (relV op d))) := by
  refine fnc_body (xs := ["op", "order"]) (ρ₀ := Lrel op d) (ho := by k_is) (hcd := by k_is) (hbind := by wtm_at "a2") (by decide +kernel) rfl (by decide +kernel) (by decide +kernel) rfl rfl rfl rfl ?_
  unfold relV
  refine exs_cutS (L := (Lrel op d)) (P := ¬ (op = S "==" ∨ op = S "eq")) ?_ (fun h0 => ?_)
  · wtm_at "go"
    refine .split2 beq_iff_eq.mp beq_eq_false_iff_ne.mp (fun h => ?_) (fun h => ?_)
    · rw (occs := .all) [if_pos (.inl h)]
      wtm_at "go"
      rfl
    · wtm_at "go"
      refine .split2 beq_iff_eq.mp beq_eq_false_iff_ne.mp (fun h' => ?_) (fun h' => ?_)
      · rw (occs := .all) [if_pos (.inr h')]
        wtm_at "go"
        rfl
      · wtm_at "go"
        exact ⟨by wtm_at "sub", fun q => q.elim h h'⟩
  rw (occs := .all) [if_neg h0]
  refine exs_cutS (L := (Lrel op d)) (P := ¬ (op = S "!=" ∨ op = S "ne")) ?_ (fun h1 => ?_)
  · wtm_at "go"
    refine .split2 beq_iff_eq.mp beq_eq_false_iff_ne.mp (fun h => ?_) (fun h => ?_)
    · rw (occs := .all) [if_pos (.inl h)]
      wtm_at "go"
      rfl
    · wtm_at "go"
      refine .split2 beq_iff_eq.mp beq_eq_false_iff_ne.mp (fun h' => ?_) (fun h' => ?_)
      · rw (occs := .all) [if_pos (.inr h')]
        wtm_at "go"
        rfl
      · wtm_at "go"
        exact ⟨by wtm_at "sub", fun q => q.elim h h'⟩
  rw (occs := .all) [if_neg h1]
  refine exs_cutS (L := (Lrel op d)) (P := ¬ (op = S "<" ∨ op = S "lt")) ?_ (fun h2 => ?_)
  · wtm_at "go"
    refine .split2 beq_iff_eq.mp beq_eq_false_iff_ne.mp (fun h => ?_) (fun h => ?_)
    · rw (occs := .all) [if_pos (.inl h)]
      wtm_at "go"
      rfl
    · wtm_at "go"
      refine .split2 beq_iff_eq.mp beq_eq_false_iff_ne.mp (fun h' => ?_) (fun h' => ?_)
      · rw (occs := .all) [if_pos (.inr h')]
        wtm_at "go"
        rfl
      · wtm_at "go"
        exact ⟨by wtm_at "sub", fun q => q.elim h h'⟩
  rw (occs := .all) [if_neg h2]
  refine exs_cutS (L := (Lrel op d)) (P := ¬ (op = S "<=" ∨ op = S "le")) ?_ (fun h3 => ?_)
  · wtm_at "go"
    refine .split2 beq_iff_eq.mp beq_eq_false_iff_ne.mp (fun h => ?_) (fun h => ?_)
    · rw (occs := .all) [if_pos (.inl h)]
      wtm_at "go"
      rfl
    · wtm_at "go"
      refine .split2 beq_iff_eq.mp beq_eq_false_iff_ne.mp (fun h' => ?_) (fun h' => ?_)
      · rw (occs := .all) [if_pos (.inr h')]
        wtm_at "go"
        rfl
      · wtm_at "go"
        exact ⟨by wtm_at "sub", fun q => q.elim h h'⟩
  rw (occs := .all) [if_neg h3]
  refine exs_cutS (L := (Lrel op d)) (P := ¬ (op = S ">" ∨ op = S "gt")) ?_ (fun h4 => ?_)
  · wtm_at "go"
    refine .split2 beq_iff_eq.mp beq_eq_false_iff_ne.mp (fun h => ?_) (fun h => ?_)
    · rw (occs := .all) [if_pos (.inl h)]
      wtm_at "go"
      rfl
    · wtm_at "go"
      refine .split2 beq_iff_eq.mp beq_eq_false_iff_ne.mp (fun h' => ?_) (fun h' => ?_)
      · rw (occs := .all) [if_pos (.inr h')]
        wtm_at "go"
        rfl
      · wtm_at "go"
        exact ⟨by wtm_at "sub", fun q => q.elim h h'⟩
  rw (occs := .all) [if_neg h4]
  wtm_at "go"
  rfl
theorem w_check_behind {l m : List Nat} {A : Nat} {what : Str} (hl : l.length ≤ 1000) (hA : Suf l A m) (hm : ∀ c r, m = c :: r → blankN c = true) : Does w (n + 2) 168 [.str (mkS l), .int A, .str what] (.ok .none) := by
  refine fnc_body (xs := ["text", "at", "what"]) (ρ₀ := [("text", .fz (.str (mkS l))), ("at", .fz (.int A)), ("what", .fz (.str what))]) (ho := by k_is) (hcd := by k_is) (hbind := by wtm_at "a3") (by decide +kernel) rfl (by decide +kernel) (by decide +kernel) rfl rfl rfl rfl ?_
  have hl' : l.length ≤ 1000000 := by omega
  wtm_at "go"
  cases m with
  | nil =>
    have := hA.2
    refine .tt (by simp at this ⊢; omega) ?_
    wtm_at "go"
    rfl
  | cons c r =>
    have := hA.2
    refine .ff (by simp at this ⊢; omega) ?_
    wtm_at "go"
    refine ev_call g_is_blank f_is_blank ?_ (by omega)
    wtm_at "go"
    refine s_itemM rfl hA.head hl' (by intro _ _; with_unfolding_all rfl) (by intro _ _; with_unfolding_all rfl) ?_
    wtm_at "go"
    refine does_ok (w_is_blank (n := 0)) (by omega) ?_
    rw (occs := .all) [hm c r rfl]
    wtm_at "go"
    rfl
noncomputable def braceV (l r : List Nat) : Except Exc PV := match braceGo 1 [] r with | none => .error braceX | some (x, rest) => .ok (pairP x (l.length - rest.length))
theorem ch92 : Str.ofString "\\" = ch 92 := by decide +kernel
theorem ch123 : Str.ofString "{" = ch 123 := by decide +kernel
theorem ch125 : Str.ofString "}" = ch 125 := by decide +kernel
theorem ch34 : Str.ofString "\"" = ch 34 := by decide +kernel
noncomputable abbrev Lbr (l : List Nat) (F A : Nat) (d : Nat) : PEnv := [("text", .fz (.str (mkS l))), ("first", .fz (.int F)), ("depth", .fz (.int d)), ("at", .fz (.int A))]
theorem braceGo_rest : ∀ (m : List Nat) (d : Nat) (acc x rest : List Nat), braceGo d acc m = some (x, rest) → ∃ k, m.drop k = rest ∧ k + rest.length = m.length
  | [], d, acc, x, rest, h => by cases h
  | c :: m, d, acc, x, rest, h => by
    rw (occs := .all) [braceGo] at h
    have up : (∃ k, m.drop k = rest ∧ k + rest.length = m.length) → ∃ k, (c :: m).drop k = rest ∧ k + rest.length = (c :: m).length := fx1 fun k => fn2 fun h1 h2 => ⟨k + 1, by rw [List.drop_succ_cons]; exact h1, by rw [List.length_cons]; omega⟩
    split at h
    · exact up (braceGo_rest m _ _ _ _ h)
    · split at h
      · split at h
        · cases h
          exact up ⟨0, rfl, by omega⟩
        · exact up (braceGo_rest m _ _ _ _ h)
      · exact up (braceGo_rest m _ _ _ _ h)
theorem w_braced {l r : List Nat} {F : Nat} (hl : l.length ≤ 1000) (hF : Suf l F r) (h92 : 92 ∉ r) (hb : ∀ x rest, braceGo 1 [] r = some (x, rest) → ∀ c r', rest = c :: r' → blankN c = true) :
    Does w (n + 4) 175 [.str (mkS l), .int F] (braceV l r) := by
  refine fnc_body (xs := ["text", "first"]) (ρ₀ := [("text", .fz (.str (mkS l))), ("first", .fz (.int F))]) (ho := by k_is) (hcd := by k_is) (hbind := by wtm_at "a2") (by decide +kernel) rfl (by decide +kernel) (by decide +kernel) rfl rfl rfl rfl ?_
  have hl' : l.length ≤ 1000000 := by omega
  refine exs_cons (ex_assign2s ?_ (by omega))
  wtm_at "go"
  refine ⟨_, _, rfl, _, _, by wtm_at "put", by wtm_at "put", ?_⟩
  refine exs_cut (fun ρ => braceGo 1 [] r = none) (ex_while (whl_inv (fun k ρ => ∃ (d i : Nat) (m : List Nat), Sub (Lbr l F (F + i) (d + 1)) ρ ∧ i ≤ r.length ∧ r.drop i = m ∧ braceGo 1 [] r = braceGo (d + 1) (r.take i) m ∧ k = m.length) ?_ _ _ ⟨0, 0, r, by wtm_at "sub", Nat.zero_le _, rfl, rfl, rfl⟩)) (fun ρ e => ?_)
  · rintro k ρ ⟨d, i, m, hs, hi, hm, hg, rfl⟩
    refine evb_sub hs ?_
    have hS : Suf l (F + i) m := by
      refine ⟨by rw [← List.drop_drop, hF.1, hm], ?_⟩
      have := congrArg List.length hm
      rw (occs := .all) [List.length_drop] at this
      have := hF.2
      omega
    wtm_at "go"
    cases m with
    | nil =>
      have := hS.2
      refine .ff (by simp at this ⊢; omega) ?_
      rw (occs := .all) [hg]; rfl
    | cons c m =>
      have h9 : c ≠ 92 := fun q => h92 (by
        have : c ∈ r.drop i := by rw [hm]; simp
        exact q ▸ List.mem_of_mem_drop this)
      have hlen := hS.2
      have hi1 : i + 1 ≤ r.length := by
        have := congrArg List.length hm
        rw (occs := .all) [List.length_drop, List.length_cons] at this
        omega
      have hd1 : r.drop (i + 1) = m := by
        have := congrArg (List.drop 1) hm
        rw (occs := .all) [List.drop_drop] at this
        simpa using this
      have ht1 : r.take (i + 1) = r.take i ++ [c] := take_snoc (by
        have := congrArg (fun z => z[0]?) hm
        simpa [List.getElem?_drop] using this)
      refine .tt (by simp at hlen ⊢; omega) ?_
      refine exs_cons ?_
      wtm_at "go"
      refine s_itemM rfl hS.head hl' (by intro _ _; with_unfolding_all rfl) (by intro _ _; with_unfolding_all rfl) ?_
      wtm_at "go"
      rw (occs := .all) [ch92, ch_beq]
      refine .ff (by simpa using h9) ?_
      wtm_at "go"
      rw (occs := .all) [ch123, ch_beq]
      rw (occs := .all) [braceGo] at hg
      refine .split2 beq_iff_eq.mp beq_eq_false_iff_ne.mp (fun h1 => ?_) (fun h1 => ?_)
      · rw (occs := .all) [if_pos h1] at hg
        wtm_at "go"
        exact ⟨m.length, by simp, d + 1, i + 1, m, by wtm_at "sub", hi1, hd1, by rw [hg, ht1], rfl⟩
      · rw (occs := .all) [if_neg h1] at hg
        wtm_at "go"
        rw (occs := .all) [ch125, ch_beq]
        refine .split2 beq_iff_eq.mp beq_eq_false_iff_ne.mp (fun h2 => ?_) (fun h2 => ?_)
        · rw (occs := .all) [if_pos h2] at hg
          wtm_at "go"
          refine .split2 beq_iff_eq.mp beq_eq_false_iff_ne.mp (fun h3 => ?_) (fun h3 => ?_)
          · obtain rfl : d = 0 := by omega
            rw (occs := .all) [if_pos rfl] at hg
            refine exs_cons (ex_expr ?_)
            refine ev_call g_check_behind f_check_behind ?_ (by omega)
            wtm_at "go"
            refine does_ok (by
              have := w_check_behind (w := w) (n := 0) (what := Str.ofString "braces") hl hS.tail (hb _ _ hg)
              rw (occs := .all) [show ((F + i + 1 : Nat) : Int) = ((F + i : Nat) : Int) + 1 by omega] at this
              exact this) (by omega) ?_
            refine ⟨rfl, ?_⟩
            wtm_at "go"
            refine ⟨mkS l, F, F + i, rfl, rfl, rfl, by omega, by rw [len_mkS]; simp at hlen; omega, by rw [len_mkS]; exact tooBig hl', ?_⟩
            wtm_at "go"
            rw (occs := .all) [braceV, hg, hF.cut hi]
            show Except.ok (pairP _ _) = _
            have e : l.length - m.length = F + i + 1 := by simp at hlen; omega
            rw (occs := .all) [e]; rfl
          · obtain ⟨d, rfl⟩ : ∃ d', d = d' + 1 := ⟨d - 1, by omega⟩
            rw (occs := .all) [if_neg (by omega)] at hg
            wtm_at "go"
            exact ⟨m.length, by simp, d, i + 1, m, by wtm_at "sub", hi1, hd1, by rw [hg, ht1]; rfl, rfl⟩
        · rw (occs := .all) [if_neg h2] at hg
          wtm_at "go"
          exact ⟨m.length, by simp, d, i + 1, m, by wtm_at "sub", hi1, hd1, by rw [hg, ht1], rfl⟩
  · wtm_at "go"
    refine ex_raise ?_ (by omega)
    refine evo_call g_error f_error ?_ (by omega)
    wtm_at "go"
    refine fno_use (fno_error (n := 0) (codes := [S "TCL", S "VALUE", S "LIST", S "BRACE"])) (by omega) ?_
    rw (occs := .all) [braceV, e]; rfl
end
end
section
section
variable {w : World} {n : Nat}
noncomputable abbrev Lba (l : List Nat) (A : Nat) (acc : List Nat) : PEnv := [("text", .fz (.str (mkS l))), ("at", .fz (.int A)), ("out", .own (acc.map chP))]
theorem w_bare {l m : List Nat} {A : Nat} (hl : l.length ≤ 1000) (hA : Suf l A m) (h92 : 92 ∉ m) : Does w (n + 2) 189 [.str (mkS l), .int A] (.ok (pairP (m.takeWhile bareN) (l.length - (m.dropWhile bareN).length))) := by
  refine fnc_body (xs := ["text", "at"]) (ρ₀ := [("text", .fz (.str (mkS l))), ("at", .fz (.int A))]) (ho := by k_is) (hcd := by k_is) (hbind := by wtm_at "a2") (by decide +kernel) rfl (by decide +kernel) (by decide +kernel) rfl rfl rfl rfl ?_
  have hl' : l.length ≤ 1000000 := by omega
  refine exs_cons (ex_assignO (evn_list ?_))
  wtm_at "go"
  refine ex_cut (fun ρ => ∃ (acc : List Nat) (B : Nat), acc = m.takeWhile bareN ∧ B = l.length - (m.dropWhile bareN).length ∧ Sub (Lba l B acc) ρ) (ex_while (whl_inv (fun k ρ => ∃ (acc : List Nat) (B : Nat) (r : List Nat), Sub (Lba l B acc) ρ ∧ Suf l B r ∧ 92 ∉ r ∧ m.takeWhile bareN = acc ++ r.takeWhile bareN ∧ m.dropWhile bareN = r.dropWhile bareN ∧ acc.length ≤ B ∧ k = r.length) ?_ _ _ ⟨[], A, m, by wtm_at "sub", hA, h92, rfl, rfl, Nat.zero_le _, rfl⟩)) (fun ρ => fx2 fun acc B => fn3 fun e1 e2 hs => exs_sub hs ?_)
  · rintro k ρ ⟨acc, B, r, hs, hS, h9, ht, hd, hac, rfl⟩
    refine evb_sub hs ?_
    have hlen := hS.2
    wtm_at "go"
    cases r with
    | nil =>
      refine .ff (by simp at hlen ⊢; omega) ?_
      exact ⟨acc, B, by simpa using ht.symm, by rw [hd]; simp at hlen ⊢; omega, by wtm_at "sub"⟩
    | cons c r =>
      refine .tt (by simp at hlen ⊢; omega) ?_
      wtm_at "go"
      refine ev_call g_is_blank f_is_blank ?_ (by omega)
      wtm_at "go"
      refine s_itemM rfl hS.head hl' (by intro _ _; with_unfolding_all rfl) (by intro _ _; with_unfolding_all rfl) ?_
      wtm_at "go"
      refine does_ok (w_is_blank (n := 0)) (by omega) ?_
      wtm_at "go"
      refine .split (fun hc => ?_) (fun hc => ?_)
      · have hc : blankN c = false := by simpa using hc
        have hc' : bareN c = true := by simp [bareN, hc]
        rw (occs := .all) [List.takeWhile_cons_of_pos hc'] at ht
        rw (occs := .all) [List.dropWhile_cons_of_pos hc'] at hd
        have h9c : c ≠ 92 := fun q => h9 (by simp [q])
        wtm_at "go"
        refine s_itemM rfl hS.head hl' (by intro _ _; with_unfolding_all rfl) (by intro _ _; with_unfolding_all rfl) ?_
        wtm_at "go"
        rw (occs := .all) [ch92, ch_beq]
        refine .ff (by simpa using h9c) ?_
        wtm_at "go"
        refine ex_append (by wtm_at "lk") ?_
        wtm_at "go"
        refine ⟨_, by wtm_at "lk", tooBig (by rw [List.length_map]; omega), _, by wtm_at "put", ?_⟩
        rw (occs := .all) [show acc.map chP ++ [PV.str (ch c)] = (acc ++ [c]).map chP by rw [List.map_append]; rfl]
        wtm_at "go"
        exact ⟨r.length, by simp, acc ++ [c], B + 1, r, by wtm_at "sub", hS.tail, fun q => h9 (by simp [q]), by rw [ht]; simp, hd, by simp; omega, rfl⟩
      · have hc : blankN c = true := by simpa using hc
        have hc' : ¬ bareN c = true := by simp [bareN, hc]
        rw (occs := .all) [List.takeWhile_cons_of_neg hc'] at ht
        rw (occs := .all) [List.dropWhile_cons_of_neg hc'] at hd
        exact ⟨acc, B, by simpa using ht.symm, by rw [hd]; simp at hlen ⊢; omega, by wtm_at "sub"⟩
  · have hacc : acc.length ≤ 1000 := by
      have : acc.length ≤ m.length := by rw [e1]; exact (List.takeWhile_sublist _).length_le
      have := hA.2
      omega
    rw (occs := .all) [← e1, ← e2]
    refine exs_cons (ex_ret (ev_tuple (evs_cons ?_)))
    refine ev_join ?_ (hbase := ?hb)
    case hb => intro env; exact ab_const
    wtm_at "go"
    refine ev_own (by wtm_at "lk") (by wtm_at "put") ?_
    refine ⟨acc.map ch, by rw [chP_map], join_ok hacc, ?_⟩
    rw (occs := .all) [join_chs]
    wtm_at "go"
    rfl
end
end
section
section
variable {w : World} {n : Nat}
theorem w_find {l m : List Nat} {A : Nat} (hl : l.length ≤ 1000) (hA : Suf l A m) (ho : FindOk m) : Does w (n + 5) 196 [.str (mkS l), .int A] (findV l m) := by
  refine fnc_body (xs := ["text", "at"]) (ρ₀ := [("text", .fz (.str (mkS l))), ("at", .fz (.int A))]) (ho := by k_is) (hcd := by k_is) (hbind := by wtm_at "a2") (by decide +kernel) rfl (by decide +kernel) (by decide +kernel) rfl rfl rfl rfl ?_
  have hl' : l.length ≤ 1000000 := by omega
  refine exs_cut (fun ρ => ∃ B : Nat, Sub [("text", .fz (.str (mkS l))), ("at", .fz (.int B))] ρ ∧ Suf l B (lstripF m)) (ex_while (whl_inv (fun k ρ => ∃ (B : Nat) (r : List Nat), Sub [("text", .fz (.str (mkS l))), ("at", .fz (.int B))] ρ ∧ Suf l B r ∧ lstripF m = lstripF r ∧ k = r.length) ?_ _ _ ⟨A, m, by wtm_at "sub", hA, rfl, rfl⟩)) (fun ρ => fx1 fun B => fn2 fun hs hB => exs_sub hs ?_)
  · rintro k ρ ⟨B, r, hs, hS, hr, rfl⟩
    refine evb_sub hs ?_
    have hlen := hS.2
    wtm_at "go"
    cases r with
    | nil =>
      refine .ff (by simp at hlen ⊢; omega) ?_
      exact ⟨B, by wtm_at "sub", by rw [hr]; exact hS⟩
    | cons c r =>
      refine .tt (by simp at hlen ⊢; omega) ?_
      wtm_at "go"
      refine ev_call g_is_blank f_is_blank ?_ (by omega)
      wtm_at "go"
      refine s_itemM rfl hS.head hl' (by intro _ _; with_unfolding_all rfl) (by intro _ _; with_unfolding_all rfl) ?_
      wtm_at "go"
      refine does_ok (w_is_blank (n := 0)) (by omega) ?_
      wtm_at "go"
      refine .split (fun hc => ?_) (fun hc => ?_)
      · wtm_at "go"
        have e : lstripF (c :: r) = lstripF r := by rw [lstripF, List.dropWhile_cons_of_pos hc]; rfl
        exact ⟨r.length, by simp, B + 1, r, by wtm_at "sub", hS.tail, by rw [hr, e], rfl⟩
      · have e : lstripF (c :: r) = c :: r := by rw [lstripF, List.dropWhile_cons_of_neg (by simp [hc])]
        wtm_at "go"
        exact ⟨B, by wtm_at "sub", by rw [hr, e]; exact hS⟩
  · have hlen := hB.2
    unfold findV
    have h34 := ho.h34
    have hbb := ho.hb
    generalize lstripF m = r at hB hlen h34 hbb
    wtm_at "go"
    cases r with
    | nil =>
      refine .tt (by simp at hlen ⊢; omega) ?_
      wtm_at "go"
      rfl
    | cons c r =>
      obtain ⟨h3, h9⟩ := h34 c r rfl
      refine .ff (by simp at hlen ⊢; omega) ?_
      wtm_at "go"
      refine s_itemM rfl hB.head hl' (by intro _ _; with_unfolding_all rfl) (by intro _ _; with_unfolding_all rfl) ?_
      wtm_at "go"
      rw (occs := .all) [ch123, ch_beq]
      dsimp only
      refine .split2 beq_iff_eq.mp beq_eq_false_iff_ne.mp (fun hc => ?_) (fun hc => ?_)
      · subst hc
        rw (occs := .all) [if_pos rfl]
        wtm_at "go"
        refine ev_call g_braced_element f_braced_element ?_ (by omega)
        wtm_at "go"
        have := w_braced (w := w) (n := 0) hl hB.tail (fun q => h9 (by simp [q])) (fun x rest e => hbb r x rest rfl e)
        rw (occs := .all) [show ((B + 1 : Nat) : Int) = (B : Int) + 1 by omega] at this
        exact does_use this (by omega) (fun p e => by rw [← e]; rfl) (fun x e => by rw [← e]; rfl)
      · rw (occs := .all) [if_neg hc]
        wtm_at "go"
        refine s_itemM rfl hB.head hl' (by intro _ _; with_unfolding_all rfl) (by intro _ _; with_unfolding_all rfl) ?_
        wtm_at "go"
        rw (occs := .all) [ch34, ch_beq]
        refine .ff (by simpa using h3) ?_
        wtm_at "go"
        refine ev_call g_bare_element f_bare_element ?_ (by omega)
        wtm_at "go"
        exact does_ok (w_bare (n := 0) hl hB h9) (by omega) rfl
end
end
section
section
variable {w : World} {n : Nat}
noncomputable def splitV : Option (List (List Nat)) → Except Exc PV
  | some s => .ok (.lst (s.map strP))
  | none => .error braceX
theorem split_ok {m : List Nat} {o : Option (List (List Nat))} (h : Split m o) : FindOk m := by
  cases h with
  | done h => exact ⟨fun c r e => (by rw (occs := .all) [h] at e; cases e), fun r x rest e q => (by rw (occs := .all) [h] at e; cases e)⟩
  | opened h h92 hb => exact ⟨fun c r e => (by rw (occs := .all) [h] at e; cases e; exact ⟨by decide, by simp [h92]⟩), fun r x rest e q => (by rw (occs := .all) [h] at e; cases e; rw (occs := .all) [hb] at q; cases q)⟩
  | brace h h92 hb hr hs => exact ⟨fun c r e => (by rw (occs := .all) [h] at e; cases e; exact ⟨by decide, by simp [h92]⟩), fun r x rest e q => (by rw (occs := .all) [h] at e; cases e; rw (occs := .all) [hb] at q; cases q; exact hr)⟩
  | bare h h1 h2 h92 hs => exact ⟨fun c r e => (by rw (occs := .all) [h] at e; cases e; exact ⟨h2, h92⟩), fun r x rest e q => (by rw (occs := .all) [h] at e; cases e; exact absurd rfl h1)⟩
theorem lstrip_head : ∀ {m r : List Nat} {c : Nat}, lstripF m = c :: r → blankN c = false
  | [], _, _, h => by cases h
  | d :: m, r, c, h => by
    cases hd : blankN d with
    | true => rw (occs := .all) [lstripF, List.dropWhile_cons_of_pos hd] at h; exact lstrip_head (m := m) h
    | false => rw (occs := .all) [lstripF, List.dropWhile_cons_of_neg (by simp [hd])] at h; cases h; exact hd
theorem split_err {l m : List Nat} {o : Option (List (List Nat))} (h : Split m o) {x : Exc} (e : findV l m = .error x) : o = none ∧ x = braceX := by
  cases h with
  | done h => rw (occs := .all) [findV, h] at e; cases e
  | opened h h92 hb => unfold findV at e; rw (occs := .all) [h] at e; dsimp only at e; rw (occs := .all) [if_pos rfl, hb] at e; cases e; exact ⟨rfl, rfl⟩
  | brace h h92 hb hr hs => unfold findV at e; rw (occs := .all) [h] at e; dsimp only at e; rw (occs := .all) [if_pos rfl, hb] at e; cases e
  | bare h h1 h2 h92 hs => unfold findV at e; rw (occs := .all) [h] at e; dsimp only at e; rw (occs := .all) [if_neg h1] at e; cases e
noncomputable abbrev Lsp (l : List Nat) (acc : List (List Nat)) (fv : PV) : PEnv := [("text", .fz (.str (mkS l))), ("items", .own (acc.map strP)), ("found", .fz fv)]
theorem suf_drop {l m rest : List Nat} {A k : Nat} (h : Suf l A m) (h1 : m.drop k = rest) (h2 : k + rest.length = m.length) : Suf l (A + k) rest := by
  refine ⟨by rw [← List.drop_drop, h.1, h1], ?_⟩
  have := h.2; omega
theorem suf_lstrip {l m : List Nat} {A : Nat} (h : Suf l A m) : ∃ B, Suf l B (lstripF m) := by
  obtain ⟨k, h1, h2, h3⟩ := lstrip_suffix m
  exact ⟨A + k, suf_drop h h2 h3⟩
theorem suf_dropWhile (p : Nat → Bool) {l m : List Nat} {A : Nat} (h : Suf l A m) : ∃ B, Suf l B (m.dropWhile p) := by
  induction m generalizing A with
  | nil => exact ⟨A, h⟩
  | cons c m ih =>
    cases hc : p c with
    | true => rw [List.dropWhile_cons_of_pos hc]; exact ih h.tail
    | false => exact ⟨A, by rw [List.dropWhile_cons_of_neg (by simp [hc])]; exact h⟩
theorem Suf.at {l m : List Nat} {A : Nat} (h : Suf l A m) : Suf l (l.length - m.length) m := by rw [h.pos]; exact h
theorem omap_app {o : Option (List (List Nat))} {acc : List (List Nat)} {x : List Nat} : (o.map (x :: ·)).map (acc ++ ·) = o.map ((acc ++ [x]) ++ ·) := by
  cases o with
  | none => rfl
  | some s => simp
theorem w_split_list {l : List Nat} {o : Option (List (List Nat))} (hl : l.length ≤ 1000) (hS : Split l o) : Does w (n + 6) 203 [.str (mkS l)] (splitV o) := by
  refine fnc_body (xs := ["text"]) (ρ₀ := [("text", .fz (.str (mkS l)))]) (ho := by k_is) (hcd := by k_is) (hbind := by wtm_at "a1") (by decide +kernel) rfl (by decide +kernel) (by decide +kernel) rfl rfl rfl rfl ?_
  have hl' : l.length ≤ 1000000 := by omega
  refine exs_cons (ex_assignO (evn_list ?_))
  wtm_at "go"
  refine ev_call g_find_element f_find_element ?_ (by omega)
  wtm_at "go"
  refine does_use (w_find (n := 0) hl (Suf.zero l) (split_ok hS)) (by omega) (fun p e => ?_) (fun x e => by obtain ⟨h1, h2⟩ := split_err hS e; rw [h1, h2]; rfl)
  wtm_at "go"
  refine ex_cut (fun ρ => ∃ s, o = some s ∧ Sub [("items", .own (s.map strP))] ρ) (ex_while (whl_sub (ρ' := Lsp l [] p) (by wtm_at "sub") ?_)) (fun ρ => fx1 fun s => fn2 fun e1 hs => exs_sub hs ?_)
  · obtain ⟨m, hm⟩ : ∃ m, m = l := ⟨l, rfl⟩
    obtain ⟨acc, hacc⟩ : ∃ acc : List (List Nat), acc = [] := ⟨[], rfl⟩
    obtain ⟨o', ho'⟩ : ∃ o', o' = o := ⟨o, rfl⟩
    obtain ⟨A, hA⟩ : ∃ A, Suf l A m := ⟨0, hm ▸ Suf.zero l⟩
    have hT : o = o'.map (acc ++ ·) := by subst hacc ho'; cases o' <;> rfl
    have hn : acc.length + m.length ≤ l.length := by rw [hacc, hm]; simp
    have hS' : Split m o' := by rw [hm, ho']; exact hS
    have e' : findV l m = .ok p := by rw [hm]; exact e
    rw (occs := .all) [show Lsp l [] p = Lsp l acc p by rw [hacc]]
    clear hm hacc ho' e hS
    induction hS' generalizing A acc p with
    | done h =>
      rw (occs := .all) [findV, h] at e'
      cases e'
      refine whl_step ?_
      wtm_at "gd"
      exact ⟨acc, by rw [hT]; simp, by wtm_at "sub"⟩
    | opened h h92 hb =>
      unfold findV at e'; rw (occs := .all) [h] at e'; dsimp only at e'; rw (occs := .all) [if_pos rfl, hb] at e'; cases e'
    | brace h h92 hb hr hs ih =>
      rename_i m r x rest o'
      unfold findV at e'; rw (occs := .all) [h] at e'; dsimp only at e'; rw (occs := .all) [if_pos rfl, hb] at e'; cases e'
      obtain ⟨B, hB⟩ := suf_lstrip hA
      rw (occs := .all) [h] at hB
      obtain ⟨k, k1, k2⟩ := braceGo_rest _ _ _ _ _ hb
      have hC := suf_drop hB.tail k1 k2
      have hlen := hC.2
      have hl0 := hA.2
      have hs0 : rest.length < m.length := by
        have h1 := congrArg List.length h
        have h2 : (lstripF m).length ≤ m.length := (List.dropWhile_sublist _).length_le
        rw (occs := .all) [List.length_cons] at h1
        omega
      rw (occs := .all) [hC.pos]
      refine whl_step ?_
      unfold pairP
      wtm_at "gd"
      refine ex_append (by wtm_at "lk") ?_
      wtm_at "go"
      refine ⟨_, by wtm_at "lk", tooBig (by rw [List.length_map]; omega), _, by wtm_at "put", ?_⟩
      rw (occs := .all) [show acc.map strP ++ [PV.str (mkS x)] = (acc ++ [x]).map strP by rw [List.map_append]; rfl]
      wtm_at "go"
      refine ev_call g_find_element f_find_element ?_ (by omega)
      wtm_at "go"
      refine does_use (w_find (n := 0) hl hC (split_ok hs)) (by omega) (fun p e => ?_) (fun z e => by
        obtain ⟨h1, h2⟩ := split_err hs e
        rw (occs := .all) [hT, h1, h2]; rfl)
      wtm_at "go"
      refine whl_sub (ρ' := Lsp l (acc ++ [x]) p) (by wtm_at "sub") ?_
      exact ih _ (acc ++ [x]) _ hC (by rw [hT, omap_app]) (by simp; omega) e
    | bare h h1 h2 h92 hs ih =>
      rename_i m r c o'
      unfold findV at e'; rw (occs := .all) [h] at e'; dsimp only at e'; rw (occs := .all) [if_neg h1] at e'; cases e'
      obtain ⟨B, hB⟩ := suf_lstrip hA
      have hc : bareN c = true := by simp [bareN, lstrip_head h]
      have hs0 : ((c :: r).dropWhile bareN).length < m.length := by
        rw (occs := .all) [List.dropWhile_cons_of_pos hc]
        have h1 := congrArg List.length h
        have h2 : (lstripF m).length ≤ m.length := (List.dropWhile_sublist _).length_le
        have h3 : (r.dropWhile bareN).length ≤ r.length := (List.dropWhile_sublist _).length_le
        rw (occs := .all) [List.length_cons] at h1
        omega
      rw (occs := .all) [h] at hB
      obtain ⟨C, hC⟩ := suf_dropWhile bareN hB
      have hlen := hC.2
      rw (occs := .all) [hC.pos]
      generalize (c :: r).dropWhile bareN = rest at *
      generalize (c :: r).takeWhile bareN = x at *
      refine whl_step ?_
      unfold pairP
      wtm_at "gd"
      refine ex_append (by wtm_at "lk") ?_
      wtm_at "go"
      refine ⟨_, by wtm_at "lk", tooBig (by rw [List.length_map]; omega), _, by wtm_at "put", ?_⟩
      rw (occs := .all) [show acc.map strP ++ [PV.str (mkS x)] = (acc ++ [x]).map strP by rw [List.map_append]; rfl]
      wtm_at "go"
      refine ev_call g_find_element f_find_element ?_ (by omega)
      wtm_at "go"
      refine does_use (w_find (n := 0) hl hC (split_ok hs)) (by omega) (fun p e => ?_) (fun z e => by
        obtain ⟨h1, h2⟩ := split_err hs e
        rw (occs := .all) [hT, h1, h2]; rfl)
      wtm_at "go"
      refine whl_sub (ρ' := Lsp l (acc ++ [x]) p) (by wtm_at "sub") ?_
      exact ih _ (acc ++ [x]) _ hC (by rw [hT, omap_app]) (by simp; omega) e
  · subst e1
    wtm_at "one"
    wtm_at "one"
    refine ev_own (by wtm_at "lk") (by wtm_at "put") ?_
    rfl
end
end
section
noncomputable def numOps : List Str := [S "==", S "!=", S "<", S "<=", S ">", S ">="]
noncomputable def txtOps : List Str := [S "eq", S "ne", S "lt", S "le", S "gt", S "ge"]
noncomputable def inOps : List Str := [S "in", S "ni"]
noncomputable def b2i (b : Bool) : Int := if b then 1 else 0
noncomputable def binaryV (op : Str) (a b : List Nat) : Res :=
  if op ∈ numOps then wholeR (b2i (relV op (orderV a b))) else if op ∈ txtOps then wholeR (b2i (relV op (textOrd a b)))
  else if op ∈ inOps then (if b = [123] then .err braceX.msg braceX.code else wholeR (b2i (decide (a ∈ itemsF b) == decide (op = S "in"))))
  else match wholeF a with
    | none => noOperand op a
    | some m => match wholeF b with
      | none => noOperand op b
      | some k => toR (arithV op m k)
noncomputable def binOps : List Str := arOps ++ numOps ++ txtOps ++ inOps
theorem binOps_len : ∀ op ∈ binOps, op.length ≤ 10 := by decide +kernel
section
variable {w : World} {n : Nat}
noncomputable abbrev Lbi (op : Str) (a b : List Nat) : PEnv := [("op", .fz (.str op)), ("a", .fz (.str (mkS a))), ("b", .fz (.str (mkS b)))]
theorem any_mem {l : List Str} {x : Str} : (l.any (fun y => y == x)) = decide (x ∈ l) := by
  rw (occs := .all) [Bool.eq_iff_iff, List.any_eq_true, decide_eq_true_eq]
  constructor
  · rintro ⟨y, hy, e⟩
    rw (occs := .all) [beq_iff_eq] at e
    exact e ▸ hy
  · intro h; exact ⟨x, h, by simp⟩
structure BinOk (op : Str) (a b : List Nat) : Prop where
  hp : ∀ m k, wholeF a = some m → wholeF b = some k → op = S "**" → PowOk m k
  hl : ∀ m k, wholeF a = some m → wholeF b = some k → op = S "<<" → ShlOk m k
  hr : ∀ m k i, wholeF a = some m → wholeF b = some k → op ∈ arOps → arithV op m k = .ok i → i.natAbs ≤ 2 ^ 200
theorem w_binary {op : Str} {a b : List Nat} (hop : op ∈ binOps) (ha : Plain a) (hb : Plain b) (hk : BinOk op a b) : Does w (n + 7) 294 [.str op, .str (mkS a), .str (mkS b)] (outc (binaryV op a b)) := by
  refine fnc_body (xs := ["op", "a", "b"]) (ρ₀ := Lbi op a b) (ho := by k_is) (hcd := by k_is) (hbind := by wtm_at "a3") (by decide +kernel) rfl (by decide +kernel) (by decide +kernel) rfl rfl rfl rfl ?_
  have hol := binOps_len op hop
  unfold binaryV
  refine exs_cutS (L := (Lbi op a b)) (P := ¬ op ∈ numOps) ?_ (fun h1 => ?_)
  · wtm_at "go"
    rw (occs := .all) [any_mem]
    refine .split (fun h => ?_) (fun h => ?_)
    · have h : op ∈ numOps := of_decide_eq_true h
      rw (occs := .all) [if_pos h]
      wtm_at "go"
      refine ev_call g_text_of_numbers f_text_of_numbers ?_ (by omega)
      refine evs_cons ?_
      refine ev_call g_relation f_relation ?_ (by omega)
      wtm_at "go"
      refine ev_call g_order_of f_order_of ?_ (by omega)
      wtm_at "go"
      refine does_ok (w_order_of (n := 0) ha hb) (by omega) ?_
      wtm_at "go"
      refine does_ok (w_relation (n := 0)) (by omega) ?_
      wtm_at "go"
      refine does_ok (w_text_of_numbers (n := 0)) (by omega) ?_
      rfl
    · have h : ¬ op ∈ numOps := of_decide_eq_false h
      wtm_at "go"
      exact ⟨by wtm_at "sub", h⟩
  rw (occs := .all) [if_neg h1]
  refine exs_cutS (L := (Lbi op a b)) (P := ¬ op ∈ txtOps) ?_ (fun h2 => ?_)
  · wtm_at "go"
    rw (occs := .all) [any_mem]
    refine .split (fun h => ?_) (fun h => ?_)
    · have h : op ∈ txtOps := of_decide_eq_true h
      rw (occs := .all) [if_pos h]
      wtm_at "go"
      refine ev_call g_text_of_numbers f_text_of_numbers ?_ (by omega)
      refine evs_cons ?_
      refine ev_call g_relation f_relation ?_ (by omega)
      wtm_at "go"
      refine ev_call g_text_order f_text_order ?_ (by omega)
      wtm_at "go"
      refine does_ok (w_text_order (n := 0)) (by omega) ?_
      wtm_at "go"
      refine does_ok (w_relation (n := 0)) (by omega) ?_
      wtm_at "go"
      refine does_ok (w_text_of_numbers (n := 0)) (by omega) ?_
      rfl
    · have h : ¬ op ∈ txtOps := of_decide_eq_false h
      wtm_at "go"
      exact ⟨by wtm_at "sub", h⟩
  rw (occs := .all) [if_neg h2]
  refine exs_cutS (L := (Lbi op a b)) (P := ¬ op ∈ inOps) ?_ (fun h3 => ?_)
  · wtm_at "go"
    rw (occs := .all) [any_mem]
    refine .split (fun h => ?_) (fun h => ?_)
    · have h : op ∈ inOps := of_decide_eq_true h
      rw (occs := .all) [if_pos h]
      wtm_at "go"
      refine ev_call g_split_list f_split_list ?_ (by omega)
      wtm_at "go"
      refine does_use (w_split_list (n := 0) (by have := hb.len; omega) (split_plain hb)) (by omega) (fun p e => ?_) (fun x e => ?_)
      · by_cases h9 : b = [123]
        · rw (occs := .all) [if_pos h9] at e; cases e
        · rw (occs := .all) [if_neg h9] at e
          rw (occs := .all) [if_neg h9]
          cases e
          refine ⟨_, op_inL (ys := (itemsF b).map mkS) (by rw [← strsOf_map, List.map_map]; rfl), ?_⟩
          rw (occs := .all) [any_mem]
          wtm_at "go"
          refine ev_call g_text_of_numbers f_text_of_numbers ?_ (by omega)
          wtm_at "go"
          refine does_ok (w_text_of_numbers (n := 0)) (by omega) ?_
          have e1 : decide (mkS a ∈ List.map mkS (itemsF b)) = decide (a ∈ itemsF b) := by
            rw (occs := .all) [Bool.eq_iff_iff, decide_eq_true_eq, decide_eq_true_eq, List.mem_map]
            constructor
            · rintro ⟨y, hy, e⟩
              have := congrArg Str.l e
              rw (occs := .all) [l_mkS, l_mkS] at this
              exact this ▸ hy
            · intro h; exact ⟨a, h, rfl⟩
          have e2 : (op == Str.ofString "in") = decide (op = S "in") := by rw [Bool.eq_iff_iff, beq_iff_eq, decide_eq_true_eq]
          rw (occs := .all) [e1, e2]
          rfl
      · by_cases h9 : b = [123]
        · rw (occs := .all) [if_pos h9] at e; cases e
          rw (occs := .all) [if_pos h9]; rfl
        · rw (occs := .all) [if_neg h9] at e; cases e
    · have h : ¬ op ∈ inOps := of_decide_eq_false h
      wtm_at "go"
      exact ⟨by wtm_at "sub", h⟩
  rw (occs := .all) [if_neg h3]
  have har : op ∈ arOps := by
    simp only [binOps, List.mem_append] at hop
    rcases hop with ((q | q) | q) | q
    · exact q
    · exact absurd q h1
    · exact absurd q h2
    · exact absurd q h3
  wtm_at "go"
  refine ev_call g_operand f_operand ?_ (by omega)
  wtm_at "go"
  refine does_use (w_operand (n := 0) hol ha) (by omega) (fun p e => ?_) (fun x e => ?_)
  · cases hwa : wholeF a with
    | none => rw (occs := .all) [operandF, hwa] at e; cases e
    | some m =>
      rw (occs := .all) [operandF, hwa] at e
      cases e
      wtm_at "go"
      refine ev_call g_operand f_operand ?_ (by omega)
      wtm_at "go"
      refine does_use (w_operand (n := 0) hol hb) (by omega) (fun p e => ?_) (fun x e => ?_)
      · cases hwb : wholeF b with
        | none => rw (occs := .all) [operandF, hwb] at e; cases e
        | some k =>
          rw (occs := .all) [operandF, hwb] at e
          cases e
          wtm_at "go"
          refine ev_call g_arithmetic f_arithmetic ?_ (by omega)
          wtm_at "go"
          refine does_use (w_arithmetic (n := 0) har (ha.small hwa) (hb.small hwb) (hk.hp m k hwa hwb) (hk.hl m k hwa hwb)) (by omega) (fun p e => ?_) (fun x e => ?_)
          · cases hv : arithV op m k with
            | error x => rw (occs := .all) [hv] at e; cases e
            | ok i =>
              rw (occs := .all) [hv] at e
              cases e
              wtm_at "go"
              refine s_strI (log_ok (hk.hr m k i hwa hwb har hv)) ?_
              rw (occs := .all) [str_num]
              dsimp only
              rw (occs := .all) [hv]; rfl
          · cases hv : arithV op m k with
            | error x => rw (occs := .all) [hv] at e; cases e; dsimp only; rw [hv]; rfl
            | ok i => rw (occs := .all) [hv] at e; cases e
      · cases hwb : wholeF b with
        | none => rw (occs := .all) [operandF, hwb] at e; dsimp only; exact e
        | some v => rw (occs := .all) [operandF, hwb] at e; cases e
  · cases hwa : wholeF a with
    | none => rw (occs := .all) [operandF, hwa] at e; dsimp only; exact e
    | some v => rw (occs := .all) [operandF, hwa] at e; cases e
end
end
theorem ab_call {id a : Str} {p1 p2 : Pos} {env : Env} {v : Sem Value} (h : (id != "super") = true) : attributeBase (.Call (.Name id p1) [] [] p2) a env v = v := by
  unfold attributeBase
  simp [h]
noncomputable def isqN : Nat → Nat
  | 0 => 0
  | n + 1 => if (isqN n + 1) * (isqN n + 1) ≤ n + 1 then isqN n + 1 else isqN n
theorem isqN_spec : ∀ n, isqN n * isqN n ≤ n ∧ n < (isqN n + 1) * (isqN n + 1)
  | 0 => by decide
  | n + 1 => by
    obtain ⟨h1, h2⟩ := isqN_spec n
    rw (occs := .all) [isqN]
    split
    · rename_i h
      refine ⟨h, ?_⟩
      have e : (isqN n + 1 + 1) * (isqN n + 1 + 1) = (isqN n + 1) * (isqN n + 1) + 2 * isqN n + 3 := by
        rw (occs := .all) [Nat.add_mul, Nat.mul_add, Nat.add_mul, Nat.mul_add]; omega
      omega
    · exact ⟨by omega, by omega⟩
theorem sq_lt {a b : Nat} (h : a * a < b * b) : a < b := Nat.lt_of_not_le fun q => by
  have := Nat.mul_le_mul q q
  omega
theorem isq_uniq {n r : Nat} (h1 : r * r ≤ n) (h2 : n < (r + 1) * (r + 1)) : r = isqN n := by
  obtain ⟨h3, h4⟩ := isqN_spec n
  have a := sq_lt (Nat.lt_of_le_of_lt h1 h4)
  have b := sq_lt (Nat.lt_of_le_of_lt h3 h2)
  omega
theorem isqN_le (n : Nat) : isqN n ≤ n := Nat.le_trans (Nat.le_mul_self _) (isqN_spec n).1
theorem newton {n x r : Nat} (hx : 0 < x) (h : r * r ≤ n) : r ≤ (x + n / x) / 2 := by
  have h2 : 2 * r ≤ x + n / x := by
    rcases Nat.lt_or_ge (2 * r) (x + 1) with q | q
    · exact Nat.le_trans (by omega) (Nat.le_add_right x _)
    · have : (2 * r - x) ≤ n / x := by
        rw (occs := .all) [Nat.le_div_iff_mul_le hx]
        refine Nat.le_trans ?_ h
        rcases Nat.le_total r x with c | c
        · obtain ⟨d, rfl⟩ := Nat.exists_eq_add_of_le c
          obtain ⟨e, rfl⟩ : ∃ e, r = d + e := ⟨r - d, by omega⟩
          rw (occs := .all) [show 2 * (d + e) - (d + e + d) = e by omega]
          have z := Nat.mul_comm e d
          simp only [Nat.add_mul, Nat.mul_add]
          omega
        · obtain ⟨d, rfl⟩ := Nat.exists_eq_add_of_le c
          rw (occs := .all) [show 2 * (x + d) - x = x + 2 * d by omega]
          have z := Nat.mul_comm d x
          have y : 2 * d * x = 2 * (d * x) := Nat.mul_assoc 2 d x
          simp only [Nat.add_mul, Nat.mul_add]
          omega
      generalize n / x = y at *
      omega
  generalize n / x = y at *
  omega
noncomputable def wideI (i : Int) : Int := (i + 2 ^ 63) % 2 ^ 64 - 2 ^ 63
theorem two64 : (2 : Int) ^ 64 - 1 = ((2 ^ 64 - 1 : Nat) : Int) := by decide
theorem mask64 (x : Int) : Builtin.bitAnd x (2 ^ 64 - 1) = x % 2 ^ 64 := by
  rcases sgn_of x with ⟨a, rfl⟩ | ⟨a, rfl⟩
  · rw [two64, ba_pp, Nat.and_two_pow_sub_one_eq_mod]; rfl
  · rw [two64, ba_np, Nat.and_comm, Nat.and_two_pow_sub_one_eq_mod, neg_mod64]; rfl
noncomputable def maxI : List Int → Int
  | [] => 0
  | [x] => x
  | x :: y :: r => max x (maxI (y :: r))
noncomputable def minI : List Int → Int
  | [] => 0
  | [x] => x
  | x :: y :: r => min x (minI (y :: r))
theorem maxI_spec : ∀ ns : List Int, ns ≠ [] → maxI ns ∈ ns ∧ ∀ a ∈ ns, a ≤ maxI ns
  | [], h => absurd rfl h
  | [x], _ => by simp [maxI]
  | x :: y :: r, _ => by
    obtain ⟨h1, h2⟩ := maxI_spec (y :: r) (by simp)
    rw (occs := .all) [maxI]
    refine ⟨?_, fun a ha => ?_⟩
    · rcases Int.le_total x (maxI (y :: r)) with c | c
      · rw (occs := .all) [Int.max_eq_right c]; exact List.mem_cons_of_mem _ h1
      · rw (occs := .all) [Int.max_eq_left c]; simp
    · rcases List.mem_cons.mp ha with rfl | ha
      · exact Int.le_max_left _ _
      · exact Int.le_trans (h2 a ha) (Int.le_max_right _ _)
theorem minI_spec : ∀ ns : List Int, ns ≠ [] → minI ns ∈ ns ∧ ∀ a ∈ ns, minI ns ≤ a
  | [], h => absurd rfl h
  | [x], _ => by simp [minI]
  | x :: y :: r, _ => by
    obtain ⟨h1, h2⟩ := minI_spec (y :: r) (by simp)
    rw (occs := .all) [minI]
    refine ⟨?_, fun a ha => ?_⟩
    · rcases Int.le_total x (minI (y :: r)) with c | c
      · rw (occs := .all) [Int.min_eq_left c]; simp
      · rw (occs := .all) [Int.min_eq_right c]; exact List.mem_cons_of_mem _ h1
    · rcases List.mem_cons.mp ha with rfl | ha
      · exact Int.min_le_left _ _
      · exact Int.le_trans (Int.min_le_right _ _) (h2 a ha)
theorem max_uniq {ns : List Int} {M : Int} (h1 : M ∈ ns) (h2 : ∀ a ∈ ns, a ≤ M) : M = maxI ns := by
  obtain ⟨h3, h4⟩ := maxI_spec ns (fun q => by rw (occs := .all) [q] at h1; cases h1)
  exact Int.le_antisymm (h4 _ h1) (h2 _ h3)
theorem min_uniq {ns : List Int} {M : Int} (h1 : M ∈ ns) (h2 : ∀ a ∈ ns, M ≤ a) : M = minI ns := by
  obtain ⟨h3, h4⟩ := minI_spec ns (fun q => by rw (occs := .all) [q] at h1; cases h1)
  exact Int.le_antisymm (h2 _ h3) (h4 _ h1)
noncomputable def callNames : List Str := [S "abs", S "bool", S "entier", S "int", S "isqrt", S "max", S "min", S "wide"]
theorem callNames_len : ∀ x ∈ callNames, x.length ≤ 10 := by decide +kernel
noncomputable def sqrtX : Exc := ⟨S "square root of negative argument", [S "ARITH", S "DOMAIN", S "domain error: argument not in valid range"]⟩
noncomputable def headI : List Int → Int
  | x :: _ => x
  | [] => 0
noncomputable def fnV (name : Str) (ns : List Int) : AR :=
  if name = S "max" then .ok (maxI ns) else if name = S "min" then .ok (minI ns)
  else if name = S "abs" then .ok (if headI ns < 0 then -headI ns else headI ns)
  else if name = S "isqrt" then (if headI ns < 0 then .error sqrtX else .ok (isqN (headI ns).toNat))
  else if name = S "wide" then .ok (wideI (headI ns)) else .ok (headI ns)
noncomputable def countX (size name : Str) : Exc := ⟨S "too " ++ size ++ S " arguments for math function \"" ++ name ++ S "\"", [S "TCL", S "WRONGARGS"]⟩
noncomputable def numberX (l : List Nat) : Exc := ⟨S "expected number but got \"" ++ mkS l ++ S "\"", [S "TCL", S "VALUE", S "NUMBER"]⟩
noncomputable def numsF : List (List Nat) → Except Exc (List Int)
  | [] => .ok []
  | l :: r => match wholeF l with
    | none => .error (numberX l)
    | some i => match numsF r with
      | .ok ns => .ok (i :: ns)
      | .error x => .error x
noncomputable def exR (x : Exc) : Res := .err x.msg x.code
noncomputable def callV (name : Str) (ls : List (List Nat)) : Res :=
  if ls = [] then exR (countX (S "few") name) else if 1 < ls.length ∧ ¬ (name = S "max" ∨ name = S "min") then exR (countX (S "many") name)
  else if name = S "bool" then (match truthF (ls.headD []) (wholeF (ls.headD [])) with | none => noTruth (ls.headD []) | some b => wholeR (b2i b))
  else match numsF ls with
    | .error x => exR x
    | .ok ns => toR (fnV name ns)
section
section
variable {w : World} {n : Nat}
noncomputable def rowsP : List (Str × PV) := [(S "abs", .tup [.int 1, .int 1]), (S "bool", .tup [.int 1, .int 1]), (S "entier", .tup [.int 1, .int 1]), (S "int", .tup [.int 1, .int 1]), (S "isqrt", .tup [.int 1, .int 1]), (S "max", .tup [.int 1, .int (-1)]), (S "min", .tup [.int 1, .int (-1)]), (S "wide", .tup [.int 1, .int 1])]
theorem w_function_rows : Does w (n + 1) 301 [] (.ok (.dic rowsP)) := by
  refine fnc_body (xs := []) (ρ₀ := []) (ho := by k_is) (hcd := by k_is) (hbind := by wtm_at "a0") (by decide +kernel) rfl (by decide +kernel) (by decide +kernel) rfl rfl rfl rfl ?_
  wtm_at "go"
  exact ⟨rfl, rfl, by decide +kernel, rfl⟩
theorem w_need_number {l : List Nat} (hl : Plain l) : Does w (n + 4) 308 [.str (mkS l)] (match wholeF l with | some i => .ok (.int i) | none => .error (numberX l)) := by
  refine fnc_body (xs := ["text"]) (ρ₀ := [("text", .fz (.str (mkS l)))]) (ho := by k_is) (hcd := by k_is) (hbind := by wtm_at "a1") (by decide +kernel) rfl (by decide +kernel) (by decide +kernel) rfl rfl rfl rfl ?_
  wtm_at "go"
  refine ev_call g_whole_of f_whole_of ?_ (by omega)
  wtm_at "go"
  refine does_ok (w_whole_of (n := 0) (by have := hl.len; omega)) (by omega) ?_
  wtm_at "go"
  rw (occs := .all) [optI_none]
  cases wholeF l with
  | some i =>
    refine .ff rfl ?_
    wtm_at "go"
    rfl
  | none =>
    refine .tt rfl ?_
    wtm_at "go"
    refine ex_raise ?_ (by omega)
    refine evo_call g_error f_error ?_ (by omega)
    wtm_at "go"
    refine fno_use (fno_error (n := 0) (codes := [S "TCL", S "VALUE", S "NUMBER"])) (by omega) ?_
    rw (occs := .all) [emp_app]; rfl
noncomputable abbrev Lro (m x y : Nat) : PEnv := [("number", .fz (.int m)), ("root", .fz (.int x)), ("better", .fz (.int y))]
theorem fdiv_nat (a b : Nat) : (a : Int).fdiv (b : Int) = ((a / b : Nat) : Int) := by
  rw (occs := .all) [Int.fdiv_eq_ediv_of_nonneg _ (by omega)]; rfl
theorem w_root_of {i : Int} (hi : i.natAbs < 2 ^ 200) : Does w (n + 4) 315 [.int i] (if i < 0 then .error sqrtX else .ok (.int (isqN i.toNat))) := by
  refine fnc_body (xs := ["number"]) (ρ₀ := [("number", .fz (.int i))]) (ho := by k_is) (hcd := by k_is) (hbind := by wtm_at "a1") (by decide +kernel) rfl (by decide +kernel) (by decide +kernel) rfl rfl rfl rfl ?_
  refine exs_cutS (L := [("number", .fz (.int i))]) (P := ¬ i < 0) ?_ (fun h1 => ?_)
  · wtm_at "go"
    refine .split2 of_decide_eq_true of_decide_eq_false (fun h => ?_) (fun h => ?_)
    · rw (occs := .all) [if_pos h]
      wtm_at "go"
      refine ex_raise ?_ (by omega)
      refine evo_call g_error f_error ?_ (by omega)
      wtm_at "go"
      exact fno_use (fno_error (n := 0) (codes := [S "ARITH", S "DOMAIN", S "domain error: argument not in valid range"])) (by omega) rfl
    · wtm_at "go"
      exact ⟨by wtm_at "sub", h⟩
  rw (occs := .all) [if_neg h1]
  obtain ⟨m, rfl⟩ : ∃ m : Nat, i = m := ⟨i.toNat, by omega⟩
  have hm : m < 2 ^ 200 := hi
  clear hi h1
  rw (occs := .all) [Int.toNat_natCast m]
  obtain ⟨sp1, sp2⟩ := isqN_spec m
  refine exs_cutS (L := [("number", .fz (.int m))]) (P := ¬ m < 2) ?_ (fun h1 => ?_)
  · wtm_at "go"
    refine .split2 of_decide_eq_true of_decide_eq_false (fun h => ?_) (fun h => ?_)
    · wtm_at "go"
      have : m = isqN m := by
        have : m = 0 ∨ m = 1 := by omega
        rcases this with rfl | rfl <;> rfl
      rw (occs := .all) [← this]
    · wtm_at "go"
      exact ⟨by wtm_at "sub", by omega⟩
  have pyl : ∀ {a b : Nat}, b < 2 ^ 200 → Builtin.divisionGoesByPylong (a : Int) (b : Int) = false := fun h => PyProof.noPylong_of_log2 (Nat.lt_of_lt_of_le (log_ok (Nat.le_of_lt h)) (by decide))
  wtm_at "go"
  refine s_div (by decide) (pyl (b := 2) (by decide)) ?_
  rw (occs := .all) [show ((2 : Int)) = ((2 : Nat) : Int) from rfl, fdiv_nat]
  wtm_at "go"
  have hr2 : isqN m ≤ m / 2 := by
    rw (occs := .all) [Nat.le_div_iff_mul_le (by decide)]
    rcases Nat.lt_or_ge (isqN m) 2 with q | q
    · have : isqN m = 0 ∨ isqN m = 1 := by omega
      rcases this with e | e <;> rw [e] <;> omega
    · exact Nat.le_trans (Nat.mul_le_mul_left _ q) sp1
  have hr1 : isqN m ≤ m := isqN_le m
  refine ex_cut (fun ρ => Sub [("root", .fz (.int (isqN m)))] ρ) (ex_while (whl_inv (fun k ρ => ∃ x y : Nat, Sub (Lro m x y) ρ ∧ isqN m ≤ x ∧ isqN m ≤ y ∧ 0 < x ∧ x ≤ m ∧ 0 < y ∧ (y < x ∨ x * x ≤ m) ∧ k = x) ?_ _ _ ⟨m, m / 2, by wtm_at "sub", hr1, hr2, by omega, Nat.le_refl _, by omega, .inl (by omega), rfl⟩)) (fun ρ hs => exs_sub hs ?_)
  · rintro k ρ ⟨x, y, hs, h2, h3, h4, h5, h6, h7, rfl⟩
    refine evb_sub hs ?_
    wtm_at "go"
    refine .split2 of_decide_eq_true of_decide_eq_false (fun h => ?_) (fun h => ?_)
    · have hyx : y < k := by omega
      wtm_at "go"
      refine s_div (by omega) (pyl (by omega)) ?_
      rw (occs := .all) [fdiv_nat]
      wtm_at "go"
      refine s_div (by decide) (pyl (b := 2) (by decide)) ?_
      rw (occs := .all) [← Int.natCast_add, fdiv_nat]
      wtm_at "go"
      have hnw := newton (x := y) h6 sp1
      have hpos : 0 < isqN m := by
        rcases Nat.eq_zero_or_pos (isqN m) with e | e
        · rw (occs := .all) [e] at sp2; omega
        · exact e
      refine ⟨y, hyx, y, (y + m / y) / 2, by wtm_at "sub", h3, hnw, h6, by omega, Nat.lt_of_lt_of_le hpos hnw, ?_, rfl⟩
      rcases Nat.lt_or_ge ((y + m / y) / 2) y with q | q
      · exact .inl q
      · right
        have : y ≤ m / y := by generalize m / y = z at *; omega
        exact (Nat.le_div_iff_mul_le h6).mp this
    · have h8 : k * k ≤ m := h7.elim (fun q => by omega) id
      have : k ≤ isqN m := by
        have := sq_lt (Nat.lt_of_le_of_lt h8 sp2)
        omega
      obtain rfl : k = isqN m := by omega
      wtm_at "sub"
  · wtm_at "go"
    rfl
end
end
section
section
variable {w : World} {n : Nat}
noncomputable abbrev Lfv (name : Str) (ns : List Int) : PEnv := [("name", .fz (.str name)), ("values", .fz (.lst (ns.map PV.int)))]
theorem s_itemL0 {value slice : Expr} {x : Int} {ns : List Int} {Q : PV → Prop} (hs : ∀ a t, subscripted slice false (Value.ref a) (Value.int 0 t) = operate [Value.ref a, Value.int 0 t] (getItem (Value.ref a) (Value.int 0 t))) (h : Q (.int x)) :
    ∃ c, Op2 w n (subscriptTail value slice) (.lst ((x :: ns).map PV.int)) (.int 0) c ∧ Q c := ⟨_, op_itemL (by decide) rfl (by decide) hs, h⟩
theorem w_wide {i : Int} : Does w (n + 1) 140 [.int i] (.ok (.int (wideI i))) := by
  refine fnc_body (xs := ["n"]) (ρ₀ := [("n", .fz (.int i))]) (ho := by k_is) (hcd := by k_is) (hbind := by wtm_at "a1") (by decide +kernel) rfl (by decide +kernel) (by decide +kernel) rfl rfl rfl rfl ?_
  wtm_at "go"
  refine s_shl (by decide) (by decide) ?_
  wtm_at "go"
  rw (occs := .all) [show (1 : Int) * 2 ^ (64 : Int).toNat - 1 = 2 ^ 64 - 1 from by decide, mask64]
  refine s_shr (by decide) ?_
  wtm_at "go"
  have e : (i % 2 ^ 64).fdiv (2 ^ (63 : Int).toNat) = i % 2 ^ 64 / 2 ^ 63 := Int.fdiv_eq_ediv_of_nonneg _ (by decide)
  rw (occs := .all) [e]
  refine .split2 beq_iff_eq.mp beq_eq_false_iff_ne.mp (fun h => ?_) (fun h => ?_)
  · wtm_at "go"
    refine s_shl (by decide) (by decide) ?_
    wtm_at "go"
    rw (occs := .all) [show (1 : Int) * 2 ^ (64 : Int).toNat = 2 ^ 64 from by decide]
    congr 2
    unfold wideI
    omega
  · wtm_at "go"
    congr 2
    unfold wideI
    omega
theorem w_function_value {name : Str} {ns : List Int} (h0 : ns ≠ []) (hb : ∀ i ∈ ns, i.natAbs < 2 ^ 200) : Does w (n + 5) 322 [.str name, .lst (ns.map PV.int)] (toP (fnV name ns)) := by
  refine fnc_body (xs := ["name", "values"]) (ρ₀ := Lfv name ns) (ho := by k_is) (hcd := by k_is) (hbind := by wtm_at "a2") (by decide +kernel) rfl (by decide +kernel) (by decide +kernel) rfl rfl rfl rfl ?_
  unfold fnV
  obtain ⟨x, r, rfl⟩ : ∃ x r, ns = x :: r := by
    cases ns with
    | nil => exact absurd rfl h0
    | cons x r => exact ⟨x, r, rfl⟩
  have hx := hb x (by simp)
  refine exs_cutS (L := (Lfv name (x :: r))) (P := ¬ name = S "max") ?_ (fun h1 => ?_)
  · wtm_at "go"
    refine .split2 beq_iff_eq.mp beq_eq_false_iff_ne.mp (fun h => ?_) (fun h => ?_)
    · rw (occs := .all) [if_pos h]
      wtm_at "go"
      refine ev_callBP (g := "max") (id := "max") g_max b_max ?_
      wtm_at "go"
      refine ⟨_, op_maxL (intsOf_map _) (by simp) (by omega), ?_⟩
      rintro c ⟨M, rfl, h1, h2⟩
      rw (occs := .all) [max_uniq h1 h2]; rfl
    · wtm_at "go"
      exact ⟨by wtm_at "sub", h⟩
  rw (occs := .all) [if_neg h1]
  refine exs_cutS (L := (Lfv name (x :: r))) (P := ¬ name = S "min") ?_ (fun h2 => ?_)
  · wtm_at "go"
    refine .split2 beq_iff_eq.mp beq_eq_false_iff_ne.mp (fun h => ?_) (fun h => ?_)
    · rw (occs := .all) [if_pos h]
      wtm_at "go"
      refine ev_callBP (g := "min") (id := "min") g_min b_min ?_
      wtm_at "go"
      refine ⟨_, op_minL (intsOf_map _) (by simp) (by omega), ?_⟩
      rintro c ⟨M, rfl, h1, h2⟩
      rw (occs := .all) [min_uniq h1 h2]; rfl
    · wtm_at "go"
      exact ⟨by wtm_at "sub", h⟩
  rw (occs := .all) [if_neg h2]
  refine exs_cutS (L := (Lfv name (x :: r))) (P := ¬ name = S "abs") ?_ (fun h3 => ?_)
  · wtm_at "go"
    refine .split2 beq_iff_eq.mp beq_eq_false_iff_ne.mp (fun h => ?_) (fun h => ?_)
    · rw (occs := .all) [if_pos h]
      wtm_at "go"
      refine s_itemL0 (by intro _ _; with_unfolding_all rfl) ?_
      wtm_at "go"
      rfl
    · wtm_at "go"
      exact ⟨by wtm_at "sub", h⟩
  rw (occs := .all) [if_neg h3]
  refine exs_cutS (L := (Lfv name (x :: r))) (P := ¬ name = S "isqrt") ?_ (fun h4 => ?_)
  · wtm_at "go"
    refine .split2 beq_iff_eq.mp beq_eq_false_iff_ne.mp (fun h => ?_) (fun h => ?_)
    · rw (occs := .all) [if_pos h]
      wtm_at "go"
      refine ev_call g_root_of f_root_of ?_ (by omega)
      wtm_at "go"
      refine s_itemL0 (by intro _ _; with_unfolding_all rfl) ?_
      wtm_at "go"
      refine does_use (w_root_of (n := 0) hx) (by omega) (fun p e => ?_) (fun z e => ?_)
      · rw (occs := .all) [← e]; show toP (if x < 0 then _ else _) = _; split <;> rfl
      · rw (occs := .all) [← e]; show toP (if x < 0 then _ else _) = _; split <;> rfl
    · wtm_at "go"
      exact ⟨by wtm_at "sub", h⟩
  rw (occs := .all) [if_neg h4]
  refine exs_cutS (L := (Lfv name (x :: r))) (P := ¬ name = S "wide") ?_ (fun h5 => ?_)
  · wtm_at "go"
    refine .split2 beq_iff_eq.mp beq_eq_false_iff_ne.mp (fun h => ?_) (fun h => ?_)
    · rw (occs := .all) [if_pos h]
      wtm_at "go"
      refine ev_call g_wide f_wide ?_ (by omega)
      wtm_at "go"
      refine s_itemL0 (by intro _ _; with_unfolding_all rfl) ?_
      wtm_at "go"
      exact does_ok (w_wide (n := 0)) (by omega) rfl
    · wtm_at "go"
      exact ⟨by wtm_at "sub", h⟩
  rw (occs := .all) [if_neg h5]
  wtm_at "go"
  exact s_itemL0 (by intro _ _; with_unfolding_all rfl) rfl
theorem w_count_fault {size name : Str} (h1 : size.length ≤ 10) (h2 : name.length ≤ 10) : fno w (n + 4) 329 [.str size, .str name] (fun x => x = countX size name) := by
  refine fno_body (xs := ["size", "name"]) (ρ₀ := [("size", .fz (.str size)), ("name", .fz (.str name))]) (ho := by k_is) (hcd := by k_is) (hbind := by wtm_at "a2") (by decide +kernel) rfl (by decide +kernel) (by decide +kernel) rfl rfl rfl rfl ?_
  repeat (first | with_reducible refine ex_retO ?_ | wtm_at "one")
  refine evo_call g_error f_error ?_ (by omega)
  wtm_at "go"
  refine fno_use (fno_error (n := 0) (codes := [S "TCL", S "WRONGARGS"])) (by omega) ?_
  rw (occs := .all) [emp_app]; rfl
end
end
section
section
variable {w : World} {n : Nat}
theorem rows_look : ∀ name ∈ callNames, rowsP.lookup name = some (.tup [.int 1, .int (if name = S "max" ∨ name = S "min" then -1 else 1)]) := by
  intro name h
  simp only [callNames, List.mem_cons, List.not_mem_nil, or_false] at h
  rcases h with rfl | rfl | rfl | rfl | rfl | rfl | rfl | rfl <;> with_unfolding_all rfl
noncomputable def appR (done : List Int) : Except Exc (List Int) → Except Exc (List Int)
  | .ok ns => .ok (done ++ ns)
  | .error x => .error x
theorem nums_small : ∀ {ls : List (List Nat)} {ns : List Int}, (∀ l ∈ ls, Plain l) → numsF ls = .ok ns → (∀ i ∈ ns, i.natAbs < 2 ^ 200) ∧ ns.length = ls.length
  | [], ns, _, e => by cases e; exact ⟨fun i hi => (by cases hi), rfl⟩
  | l :: r, ns, hp, e => by
    rw (occs := .all) [numsF] at e
    cases hw : wholeF l with
    | none => rw (occs := .all) [hw] at e; cases e
    | some i =>
      rw (occs := .all) [hw] at e
      dsimp only at e
      cases hr : numsF r with
      | error x => rw (occs := .all) [hr] at e; cases e
      | ok ms =>
        rw (occs := .all) [hr] at e
        cases e
        obtain ⟨h1, h2⟩ := nums_small (fun l hl => hp l (by simp [hl])) hr
        refine ⟨fun j hj => ?_, by simp [h2]⟩
        rcases List.mem_cons.mp hj with rfl | hj
        · exact (hp l (by simp)).small hw
        · exact h1 j hj
theorem lt_neg {v : Int} {P : Nat} (h : v.natAbs < P) : (-v).natAbs < P := Nat.lt_of_le_of_lt (Nat.le_of_eq (Int.natAbs_neg v)) h
theorem lt_isq {v : Int} {P : Nat} (h : v.natAbs < P) : ((isqN v.toNat : Nat) : Int).natAbs < P := Nat.lt_of_le_of_lt (Nat.le_trans (isqN_le _) (toNat_le v)) h
theorem fn_bound {B : Nat} (hB : 145 ≤ B) {name : Str} {ns : List Int} {i : Int} (h0 : ns ≠ []) (hb : ∀ i ∈ ns, i.natAbs < 2 ^ B) (e : fnV name ns = .ok i) : i.natAbs < 2 ^ B := by
  have hh : (headI ns).natAbs < 2 ^ B := by
    cases ns with
    | nil => exact absurd rfl h0
    | cons x r => exact hb x (by simp)
  have hM := hb _ (maxI_spec ns h0).1
  have hm := hb _ (minI_spec ns h0).1
  have hq := isqN_le (headI ns).toNat
  have h64 : 2 ^ 64 ≤ 2 ^ B := Nat.pow_le_pow_right (by decide) (by omega)
  unfold fnV wideI at e
  repeat' split at e
  all_goals first | (cases e; exact hh) | (cases e; exact hM) | (cases e; exact hm) | (cases e; exact lt_neg hh) | (cases e; exact lt_isq hh) | (cases e; omega) | cases e
theorem fn_small {name : Str} {ns : List Int} {i : Int} (h0 : ns ≠ []) (hb : ∀ i ∈ ns, i.natAbs < 2 ^ 200) (e : fnV name ns = .ok i) : i.natAbs ≤ 2 ^ 200 := Nat.le_of_lt (fn_bound (by decide) h0 hb e)
noncomputable abbrev Lcf (name : Str) (ls : List (List Nat)) : PEnv := [("name", .fz (.str name)), ("args", .fz (.lst (ls.map strP)))]
theorem w_call_function {name : Str} {ls : List (List Nat)} (hn : name ∈ callNames) (hp : ∀ l ∈ ls, Plain l) (hlen : ls.length ≤ 1000) : Does w (n + 6) 336 [.str name, .lst (ls.map strP)] (outc (callV name ls)) := by
  refine fnc_body (xs := ["name", "args"]) (ρ₀ := Lcf name ls) (ho := by k_is) (hcd := by k_is) (hbind := by wtm_at "a2") (by decide +kernel) rfl (by decide +kernel) (by decide +kernel) rfl rfl rfl rfl ?_
  have hnl := callNames_len name hn
  have hlt : (ls.map strP).length ≤ sizeLine := tooBig (by rw [List.length_map]; omega)
  unfold callV
  refine exs_cons (ex_assign (ev_get1 ?_ (hbase := ?hb)))
  case hb => intro env; exact ab_call (by decide +kernel)
  refine ev_call0 g_function_rows f_function_rows ?_ (by omega)
  refine does_ok (w_function_rows (n := 0)) (by omega) ?_
  refine ⟨_, rfl, ?_⟩
  wtm_at "go"
  rw (occs := .all) [rows_look name hn]
  generalize hmost : (if name = S "max" ∨ name = S "min" then (-1 : Int) else 1) = most
  simp only [Option.getD_some]
  wtm_at "gd"
  refine ex_assign2 ?_ (by omega)
  wtm_at "go"
  refine ⟨_, _, rfl, _, _, by wtm_at "put", by wtm_at "put", ?_⟩
  wtm_at "go"
  refine s_lenL hlt ?_
  wtm_at "go"
  rw (occs := .all) [List.length_map]
  cases ls with
  | nil =>
    rw (occs := .all) [if_pos rfl]
    refine .tt (by simp) ?_
    wtm_at "go"
    refine ex_raise ?_ (by omega)
    refine evo_call g_count_fault f_count_fault ?_ (by omega)
    wtm_at "go"
    exact fno_mono (w_count_fault (n := 0) (by decide +kernel) hnl) (by omega) (fun x e => by rw [e]; rfl)
  | cons l r =>
    rw (occs := .all) [if_neg (by simp)]
    refine .ff (by simp; omega) ?_
    wtm_at "one"
    refine exs_cutS (L := (Lcf name (l :: r))) (P := ¬ (1 < (l :: r).length ∧ ¬ (name = S "max" ∨ name = S "min"))) ?_ (fun h1 => ?_)
    · wtm_at "go"
      refine .split2 of_decide_eq_true of_decide_eq_false (fun h => ?_) (fun h => ?_)
      · have hm : ¬ (name = S "max" ∨ name = S "min") := fun q => by rw (occs := .all) [if_pos q] at hmost; omega
        rw (occs := .all) [if_neg hm] at hmost
        subst hmost
        wtm_at "go"
        refine s_lenL hlt ?_
        wtm_at "go"
        rw (occs := .all) [List.length_map]
        refine .split2 of_decide_eq_true of_decide_eq_false (fun h' => ?_) (fun h' => ?_)
        · wtm_at "go"
          refine ex_raise ?_ (by omega)
          refine evo_call g_count_fault f_count_fault ?_ (by omega)
          wtm_at "go"
          rw (occs := .all) [if_pos ⟨by omega, hm⟩]
          exact fno_mono (w_count_fault (n := 0) (by decide +kernel) hnl) (by omega) (fun x e => by rw [e]; rfl)
        · wtm_at "go"
          exact ⟨by wtm_at "sub", fun q => by omega⟩
      · wtm_at "go"
        refine ⟨by wtm_at "sub", fun q => ?_⟩
        rw (occs := .all) [if_neg q.2] at hmost
        omega
    rw (occs := .all) [if_neg h1]
    refine exs_cutS (L := (Lcf name (l :: r))) (P := ¬ name = S "bool") ?_ (fun h2 => ?_)
    · wtm_at "go"
      refine .split2 beq_iff_eq.mp beq_eq_false_iff_ne.mp (fun h => ?_) (fun h => ?_)
      · rw (occs := .all) [if_pos h]
        wtm_at "go"
        refine ev_call g_text_of_numbers f_text_of_numbers ?_ (by omega)
        refine evs_cons ?_
        refine ev_call g_need_bool f_need_bool ?_ (by omega)
        wtm_at "go"
        refine ⟨_, op_itemL (by decide) rfl (by decide), ?_⟩
        wtm_at "go"
        have hpl := hp l (by simp)
        refine does_use (w_need_bool (n := 0) hpl) (by omega) (fun p e => ?_) (fun x e => ?_)
        · rw (occs := .all) [bool_truth hpl] at e
          simp only [List.headD_cons]
          cases ht : truthF l (wholeF l) with
          | none => rw (occs := .all) [ht] at e; cases e
          | some b =>
            rw (occs := .all) [ht] at e
            cases e
            wtm_at "go"
            exact does_ok (w_text_of_numbers (n := 0)) (by omega) rfl
        · rw (occs := .all) [bool_truth hpl] at e
          simp only [List.headD_cons]
          cases ht : truthF l (wholeF l) with
          | none => rw (occs := .all) [ht] at e; exact e
          | some b => rw (occs := .all) [ht] at e; cases e
      · wtm_at "go"
        exact ⟨by wtm_at "sub", h⟩
    rw (occs := .all) [if_neg h2]
    refine exs_cons (ex_assignO (evn_list ?_))
    wtm_at "go"
    have hp0 := hp
    have hlen0 := hlen
    generalize hls : l :: r = ls at *
    have hne : ls ≠ [] := by rw [← hls]; simp
    refine ex_cut (fun ρ => ∃ ns, numsF ls = .ok ns ∧ Sub [("name", .fz (.str name)), ("values", .own (ns.map PV.int))] ρ) (ex_for ?_ (by omega)) (fun ρ => fx1 fun ns => fn2 fun e1 hs => exs_sub hs ?_)
    · wtm_at "go"
      refine ⟨_, .lst _, ?_⟩
      refine frl_inv (fun items ρ => ∃ (rest : List (List Nat)) (done : List Int), items = rest.map strP ∧ Sub [("name", .fz (.str name)), ("values", .own (done.map PV.int))] ρ ∧ numsF ls = appR done (numsF rest) ∧ (∀ l ∈ rest, Plain l) ∧ done.length + rest.length ≤ 1000) ?_ ?_ (by decide +kernel) _ _ ⟨ls, [], rfl, by wtm_at "sub", by cases numsF ls <;> rfl, hp0, by simpa using hlen0⟩
      · rintro ρ ⟨rest, done, hr, hs, e, _⟩
        obtain rfl : rest = [] := by simpa using hr.symm
        exact ⟨done, by rw [e]; simp [numsF, appR], hs⟩
      · rintro p items ρ ⟨rest, done, hr, hs, e, hpr, hlr⟩
        cases rest with
        | nil => cases hr
        | cons a rest =>
          cases hr
          refine ⟨_, _, hs, by wtm_at "put", ?_⟩
          have hpa := hpr a (by simp)
          refine exs_cons (ex_append (by wtm_at "lk") ?_)
          refine ev_call g_need_number f_need_number ?_ (by omega)
          wtm_at "go"
          refine does_use (w_need_number (n := 0) hpa) (by omega) (fun p e' => ?_) (fun x e' => ?_)
          · rw (occs := .all) [numsF] at e
            cases hw : wholeF a with
            | none => rw (occs := .all) [hw] at e'; cases e'
            | some i =>
              rw (occs := .all) [hw] at e' e
              cases e'
              simp only [List.length_cons] at hlr
              refine ⟨_, by wtm_at "lk", tooBig (by rw [List.length_map]; omega), _, by wtm_at "put", ?_⟩
              rw (occs := .all) [show done.map PV.int ++ [PV.int i] = (done ++ [i]).map PV.int by rw [List.map_append]; rfl]
              wtm_at "go"
              refine ⟨rest, done ++ [i], rfl, by wtm_at "sub", ?_, fun l hl => hpr l (by simp [hl]), by simp; omega⟩
              rw (occs := .all) [e]
              cases numsF rest with
              | ok ns => simp [appR]
              | error x => rfl
          · rw (occs := .all) [numsF] at e
            cases hw : wholeF a with
            | none => rw [hw] at e' e; cases e'; dsimp only [appR] at e; rw [e]; rfl
            | some i => rw (occs := .all) [hw] at e'; cases e'
    · obtain ⟨hb, hln⟩ := nums_small hp0 e1
      have hns : ns ≠ [] := fun q => by rw (occs := .all) [q] at hln; exact hne (List.length_eq_zero_iff.mp hln.symm)
      rw (occs := .all) [e1]
      dsimp only
      refine exs_cons (ex_ret (ev_callT (g := "str") (id := "str") g_str b_str (evs_cons ?_)))
      refine ev_call g_function_value f_function_value ?_ (by omega)
      refine evs_cons (ev_name (by wtm_at "lk") ?_)
      refine evs_cons (ev_own (by wtm_at "lk") (by wtm_at "put") ?_)
      wtm_at "go"
      refine does_use (w_function_value (n := 0) hns hb) (by omega) (fun p e => ?_) (fun x e => ?_)
      · cases hv : fnV name ns with
        | error x => rw (occs := .all) [hv] at e; cases e
        | ok i =>
          rw (occs := .all) [hv] at e
          cases e
          wtm_at "go"
          refine s_strI (log_ok (fn_small hns hb hv)) ?_
          rw (occs := .all) [str_num]; rfl
      · cases hv : fnV name ns with
        | error x => rw (occs := .all) [hv] at e; cases e; rfl
        | ok i => rw (occs := .all) [hv] at e; cases e
end
end
noncomputable def unOps : List Str := [S "-", S "+", S "~", S "!"]
noncomputable def resUn (op : Str) : Res → Res
  | .val l _ => unaryV op l (wholeF l)
  | .err m c => .err m c
noncomputable def resBin (op : Str) : Res → Res → Res
  | .err m c, _ => .err m c
  | .val _ _, .err m c => .err m c
  | .val a _, .val b _ => binaryV op a b
noncomputable def textsR : List Res → Except Exc (List (List Nat))
  | [] => .ok []
  | .err m c :: _ => .error ⟨m, c⟩
  | .val l _ :: r => match textsR r with
    | .ok ls => .ok (l :: ls)
    | .error x => .error x
noncomputable def resCall (name : Str) (rs : List Res) : Res :=
  match textsR rs with
  | .ok ls => callV name ls
  | .error x => exR x
noncomputable def resLog (isOr : Bool) (r s : Res) : Res :=
  match r with
  | .err m c => .err m c
  | .val l _ => match truthF l (wholeF l) with
    | none => noTruth l
    | some b => if b = isOr then wholeR (b2i isOr) else match s with
      | .err m c => .err m c
      | .val l' _ => match truthF l' (wholeF l') with
        | none => noTruth l'
        | some b' => wholeR (b2i b')
noncomputable def resIf (r s t : Res) : Res :=
  match r with
  | .err m c => .err m c
  | .val l _ => match truthF l (wholeF l) with
    | none => noTruth l
    | some b => if b then s else t
noncomputable def SmallOk (op : Str) (r s : Res) : Prop :=
  ∀ a b j k m i, r = .val a j → s = .val b k → wholeF a = some m → wholeF b = some i →
    (op = S "**" → PowOk m i) ∧ (op = S "<<" → ShlOk m i) ∧ (op = S "*" → m.natAbs < 2 ^ 70 ∧ i.natAbs < 2 ^ 70)
noncomputable def logName (isOr : Bool) : Str := if isOr then S "or" else S "and"
inductive G : PV → Res → Nat → Prop
  | num {i : Int} {h : Nat} (hi : i.natAbs < 2 ^ 145) : G (.tup [.str (S "num"), .int i]) (wholeR i) h
  | text {l : List Nat} {h : Nat} (hl : l ∈ txts) : G (.tup [.str (S "text"), .str (mkS l)]) (.val l (wholeF l)) h
  | un {op : Str} {p : PV} {r : Res} {h : Nat} (ho : op ∈ unOps) (g : G p r h) : G (.tup [.str (S "un"), .str op, p]) (resUn op r) (h + 1)
  | bin {op : Str} {p q : PV} {r s : Res} {h : Nat} (ho : op ∈ binOps) (g : G p r h) (g' : G q s h) (hs : SmallOk op r s) : G (.tup [.str (S "bin"), .str op, p, q]) (resBin op r s) (h + 1)
  | call {name : Str} {l : List (PV × Res)} {h : Nat} (hn : name ∈ callNames) (hl : l.length ≤ 3) (g : ∀ x ∈ l, G x.1 x.2 h) : G (.tup [.str (S "call"), .str name, .tup (l.map (·.1))]) (resCall name (l.map (·.2))) (h + 1)
  | log {isOr : Bool} {p q : PV} {r s : Res} {h : Nat} (g : G p r h) (g' : G q s h) : G (.tup [.str (logName isOr), p, q]) (resLog isOr r s) (h + 1)
  | ite {p q t : PV} {r s u : Res} {h : Nat} (g : G p r h) (g' : G q s h) (g'' : G t u h) : G (.tup [.str (S "if"), p, q, t]) (resIf r s u) (h + 1)
theorem G.succ {p : PV} {r : Res} {h : Nat} (g : G p r h) : G p r (h + 1) := by
  induction g with
  | num hi => exact .num hi
  | text hl => exact .text hl
  | un ho _ ih => exact .un ho ih
  | bin ho _ _ hs ih ih' => exact .bin ho ih ih' hs
  | call hn hl _ ih => exact .call hn hl ih
  | log _ _ ih ih' => exact .log ih ih'
  | ite _ _ _ ih ih' ih'' => exact .ite ih ih' ih''
theorem G.mono {p : PV} {r : Res} {h h' : Nat} (g : G p r h) (hh : h ≤ h') : G p r h' := by
  obtain ⟨k, rfl⟩ := Nat.exists_eq_add_of_le hh
  clear hh
  induction k with
  | zero => exact g
  | succ k ih => exact ih.succ
theorem app_ne {a b : Str} (h : a ≠ S "") : a ++ b ≠ S "" := by
  intro q
  have e := congrArg Str.length q
  have e2 : (a ++ b).length = a.length + b.length := by show (a.cps ++ b.cps).size = _; rw [Array.size_append]; rfl
  have e0 : (S "").length = 0 := by decide +kernel
  have h0 : a.cps.size = 0 := by
    have : a.length = a.cps.size := rfl
    omega
  refine h ?_
  rw (occs := .all) [str_eq_l]
  have e3 : (Str.l a).length = 0 := by rw [Str.l, Array.length_toList]; exact h0
  rw (occs := .all) [List.length_eq_zero_iff.mp e3]
  decide +kernel
theorem bitAnd_natAbs {m n : Int} {B : Nat} (hm : m.natAbs < 2 ^ B) (hn : n.natAbs < 2 ^ B) : (Builtin.bitAnd m n).natAbs ≤ 2 ^ B := by
  unfold Builtin.bitAnd
  rcases Int.lt_or_le m 0 with h | h <;> rcases Int.lt_or_le n 0 with h' | h'
  · rw (occs := .all) [dec_f h, dec_f h']
    show (-((((-m - 1).toNat ||| (-n - 1).toNat : Nat) : Int)) - 1).natAbs ≤ 2 ^ B
    rw (occs := .all) [na_not_nat]
    exact Nat.or_lt_two_pow (na_not_to h hm) (na_not_to h' hn)
  · rw (occs := .all) [dec_f h, decide_eq_true h']
    exact na_sub_nat h' Nat.and_le_left hn
  · rw (occs := .all) [decide_eq_true h, dec_f h']
    exact na_sub_nat h Nat.and_le_left hm
  · rw (occs := .all) [decide_eq_true h, decide_eq_true h']
    exact na_nat Nat.and_le_left hm
theorem lt_of_bits {x : Int} {k : Nat} (h : Builtin.Int.intBits x ≤ k) : x.natAbs < 2 ^ k := intBits_le_iff.mp h
theorem pow_up {x B C : Nat} (h : x < 2 ^ B) (hB : B ≤ C) : x < 2 ^ C := Nat.lt_of_lt_of_le h (Nat.pow_le_pow_right (by decide) hB)
theorem power_small {m k i : Int} (hs : PowOk m k) {B : Nat} (hB : 145 ≤ B) (hm : m.natAbs < 2 ^ B) (e : powerV m k = .ok i) : i.natAbs < 2 ^ B := by
  have h1 : (1 : Nat) < 2 ^ B := Nat.one_lt_two_pow (by omega)
  unfold powerV at e
  split at e
  · cases e; omega
  split at e
  · cases e
  split at e
  · cases e; omega
  split at e
  · cases e
    split <;> omega
  split at e
  · cases e; omega
  split at e
  · cases e
  · rename_i a1 a2 a3 a4 a5 a6
    cases e
    have h6 : k ≤ 4 ∧ m.natAbs < 2 ^ 36 := by
      rcases hs with q | q | q | q
      · omega
      · omega
      · omega
      · exact q
    have := intBits_pow_le (bits_lt h6.2) k.toNat
    refine pow_up (lt_of_bits this) ?_
    have : k.toNat ≤ 4 := by omega
    omega
theorem shl_small {m k i : Int} (hs : ShlOk m k) {B : Nat} (hB : 145 ≤ B) (e : shlV m k = .ok i) : i.natAbs < 2 ^ B := by
  unfold shlV at e
  split at e
  · cases e
  split at e
  · cases e; exact Nat.two_pow_pos B
  split at e
  · cases e
  · rename_i a1 a2 a3
    cases e
    have h6 : k ≤ 64 ∧ m.natAbs < 2 ^ 80 := by
      rcases hs with q | q | q | q
      · omega
      · omega
      · omega
      · exact q
    have h2 : Builtin.Int.intBits ((2 : Int) ^ k.toNat) ≤ 65 := by
      refine bits_lt ?_
      rw (occs := .all) [Int.natAbs_pow]
      exact Nat.pow_lt_pow_right (by decide) (by omega)
    exact pow_up (lt_of_bits (intBits_mul_le (bits_lt h6.2) h2)) (by omega)
theorem lt44 {P : Nat} (h : 1 < P) : P < 4 * P := by omega
theorem arith_small {op : Str} {m k i : Int} {B : Nat} (hB : 145 ≤ B) (hm : m.natAbs < 2 ^ B) (hk : k.natAbs < 2 ^ B)
    (hs : (op = S "**" → PowOk m k) ∧ (op = S "<<" → ShlOk m k) ∧ (op = S "*" → m.natAbs < 2 ^ 70 ∧ k.natAbs < 2 ^ 70)) (e : arithV op m k = .ok i) : i.natAbs < 2 ^ (B + 2) := by
  have hp : 2 ^ (B + 2) = 4 * 2 ^ B := by rw [Nat.pow_add]; omega
  have h1 : (1 : Nat) < 2 ^ B := Nat.one_lt_two_pow (by omega)
  have up : ∀ {x : Nat}, x < 2 ^ B → x < 2 ^ (B + 2) := fun h => pow_up h (by omega)
  unfold arithV at e
  split at e
  · cases e; exact lt4 (Int.natAbs_add_le m k) hm hk hp
  split at e
  · cases e; exact lt4 (Int.natAbs_sub_le m k) hm hk hp
  split at e
  · rename_i a
    cases e
    obtain ⟨q1, q2⟩ := hs.2.2 a
    exact pow_up (lt_of_bits (intBits_mul_le (bits_lt q1) (bits_lt q2))) (by omega)
  split at e
  · split at e
    · cases e
    · cases e
      exact up (Nat.lt_of_le_of_lt (natAbs_fdiv_le m k) hm)
  split at e
  · split at e
    · cases e
    · cases e
      have := lt_of_bits (intBits_fmod_le (bits_lt hm) (bits_lt hk))
      rw (occs := .all) [Nat.max_self] at this
      exact up this
  split at e
  · rename_i a
    exact up (power_small (hs.1 a) hB hm e)
  split at e
  · rename_i a
    exact up (shl_small (hs.2.1 a) hB e)
  split at e
  · unfold shrV at e
    split at e
    · cases e
    split at e
    · cases e
      split <;> omega
    · cases e
      exact up (Nat.lt_of_le_of_lt (natAbs_fdiv_le m _) hm)
  split at e
  · cases e
    exact Nat.lt_of_le_of_lt (bitAnd_natAbs hm hk) (by rw [hp]; exact lt44 h1)
  split at e
  · cases e
    have hp1 : 2 ^ (B + 1) = 2 * 2 ^ B := by rw [Nat.pow_succ]; exact Nat.mul_comm _ _
    exact lt3 (na_not _) (bitAnd_natAbs (m := Builtin.bitNot m) (n := Builtin.bitNot k) (B := B + 1) (lt2 (na_not m) hm hp1) (lt2 (na_not k) hk hp1)) hp1 h1 hp
  · cases e
    rw (occs := .all) [bitXor_and]
    exact lt5 (na_xor _ _) (Int.natAbs_add_le m k) hm hk (bitAnd_natAbs hm hk) hp
theorem ne_truth (l : List Nat) : S "expected boolean value but got \"" ++ mkS l ++ S "\"" ≠ S "" := app_ne (app_ne (by decide +kernel))
theorem fine_noTruth {B : Nat} (l : List Nat) : Fine B (noTruth l) := ne_truth l
theorem fine_noOperand {B : Nat} (op : Str) (l : List Nat) : Fine B (noOperand op l) := app_ne (app_ne (app_ne (app_ne (by decide +kernel))))
theorem fine_b2i {B : Nat} (b : Bool) (hB : 1 ≤ B) (hB' : B ≤ 200) : Fine B (wholeR (b2i b)) :=
  fine_whole (Nat.lt_of_lt_of_le (by cases b <;> decide : (b2i b).natAbs < 2 ^ 1) (Nat.pow_le_pow_right (by decide) hB)) hB'
theorem power_err {m k : Int} {x : Exc} (e : powerV m k = .error x) : x.msg ≠ S "" := by
  unfold powerV at e
  split at e
  · cases e
  split at e
  · cases e; decide +kernel
  split at e
  · cases e
  split at e
  · cases e
  split at e
  · cases e
  split at e
  · cases e; decide +kernel
  · cases e
theorem shl_err {m k : Int} {x : Exc} (e : shlV m k = .error x) : x.msg ≠ S "" := by
  unfold shlV at e
  split at e
  · cases e; decide +kernel
  split at e
  · cases e
  split at e
  · cases e; decide +kernel
  · cases e
theorem shr_err {m k : Int} {x : Exc} (e : shrV m k = .error x) : x.msg ≠ S "" := by
  unfold shrV at e
  split at e
  · cases e; decide +kernel
  split at e
  · cases e
  · cases e
theorem arith_err {op : Str} {m k : Int} {x : Exc} (e : arithV op m k = .error x) : x.msg ≠ S "" := by
  unfold arithV at e
  split at e
  · cases e
  split at e
  · cases e
  split at e
  · cases e
  split at e
  · split at e
    · cases e; decide +kernel
    · cases e
  split at e
  · split at e
    · cases e; decide +kernel
    · cases e
  split at e
  · exact power_err e
  split at e
  · exact shl_err e
  split at e
  · exact shr_err e
  split at e
  · cases e
  split at e
  · cases e
  · cases e
theorem fine_toR {B : Nat} {a : AR} (h : ∀ i, a = .ok i → i.natAbs < 2 ^ B) (h' : ∀ x, a = .error x → x.msg ≠ S "") (hB : B ≤ 200) : Fine B (toR a) := by
  cases a with
  | ok i => exact fine_whole (h i rfl) hB
  | error x => exact h' x rfl
theorem fine_unary {B : Nat} {op : Str} {l : List Nat} {k : Option Int} (h : Fine B (.val l k)) (hB : B ≤ 198) (h1 : 1 ≤ B) : Fine (B + 2) (unaryV op l (wholeF l)) := by
  obtain ⟨hp, rfl, hk⟩ := h
  have hpw : 2 ^ (B + 2) = 4 * 2 ^ B := by rw [Nat.pow_add]; omega
  have h2 : (1 : Nat) < 2 ^ B := Nat.one_lt_two_pow (by omega)
  unfold unaryV
  split
  · cases truthF l (wholeF l) with
    | none => exact fine_noOperand _ _
    | some b =>
      have := fine_b2i (B := B + 2) (!b) (by omega) (by omega)
      cases b <;> exact this
  · cases hw : wholeF l with
    | none => exact fine_noOperand _ _
    | some v =>
      have := hk v hw
      refine fine_whole ?_ (by omega)
      split
      · exact lt1 (Nat.le_succ_of_le (Nat.le_of_eq (na_zero v))) this h2 hpw
      split
      · exact lt1 (na_neg1 v) this h2 hpw
      · exact lt1 (Nat.le_succ _) this h2 hpw
theorem fine_binary {B : Nat} {op : Str} {a b : List Nat} {j k : Option Int} (h : Fine B (.val a j)) (h' : Fine B (.val b k)) (hB : B ≤ 198) (h1 : 145 ≤ B) (hs : SmallOk op (.val a j) (.val b k)) : Fine (B + 2) (binaryV op a b) := by
  obtain ⟨hp, rfl, hk⟩ := h
  obtain ⟨hp', rfl, hk'⟩ := h'
  unfold binaryV
  split
  · exact fine_b2i _ (by omega) (by omega)
  split
  · exact fine_b2i _ (by omega) (by omega)
  split
  · split
    · exact (by decide +kernel : braceX.msg ≠ S "")
    · exact fine_b2i _ (by omega) (by omega)
  · cases hw : wholeF a with
    | none => exact fine_noOperand _ _
    | some m =>
      cases hw' : wholeF b with
      | none => exact fine_noOperand _ _
      | some i =>
        exact fine_toR (fun z e => arith_small h1 (hk m hw) (hk' i hw') (hs a b _ _ m i rfl rfl hw hw') e) (fun x e => arith_err e) (by omega)
theorem nums_bound {B : Nat} : ∀ {ls : List (List Nat)} {ns : List Int}, (∀ l ∈ ls, ∀ i, wholeF l = some i → i.natAbs < 2 ^ B) → numsF ls = .ok ns → (∀ i ∈ ns, i.natAbs < 2 ^ B) ∧ ns.length = ls.length
  | [], ns, _, e => by cases e; exact ⟨fun i hi => (by cases hi), rfl⟩
  | l :: r, ns, hp, e => by
    rw (occs := .all) [numsF] at e
    cases hw : wholeF l with
    | none => rw (occs := .all) [hw] at e; cases e
    | some i =>
      rw (occs := .all) [hw] at e
      dsimp only at e
      cases hr : numsF r with
      | error x => rw (occs := .all) [hr] at e; cases e
      | ok ms =>
        rw (occs := .all) [hr] at e
        cases e
        obtain ⟨h1, h2⟩ := nums_bound (fun l hl => hp l (by simp [hl])) hr
        refine ⟨fun j hj => ?_, by simp [h2]⟩
        rcases List.mem_cons.mp hj with rfl | hj
        · exact hp l (by simp) _ hw
        · exact h1 j hj
theorem nums_err : ∀ {ls : List (List Nat)} {x : Exc}, numsF ls = .error x → x.msg ≠ S ""
  | [], x, e => by cases e
  | l :: r, x, e => by
    rw (occs := .all) [numsF] at e
    cases hw : wholeF l with
    | none => rw (occs := .all) [hw] at e; cases e; exact app_ne (app_ne (by decide +kernel))
    | some i =>
      rw (occs := .all) [hw] at e
      dsimp only at e
      cases hr : numsF r with
      | error y => rw (occs := .all) [hr] at e; cases e; exact nums_err hr
      | ok ms => rw (occs := .all) [hr] at e; cases e
theorem fn_err {name : Str} {ns : List Int} {x : Exc} (e : fnV name ns = .error x) : x.msg ≠ S "" := by
  unfold fnV at e
  repeat' split at e
  all_goals first | (cases e; decide +kernel) | cases e
theorem fine_callV {B : Nat} (hB : 145 ≤ B) (hB' : B ≤ 200) {name : Str} {ls : List (List Nat)} (hb : ∀ l ∈ ls, Plain l ∧ ∀ i, wholeF l = some i → i.natAbs < 2 ^ B) : Fine B (callV name ls) := by
  unfold callV
  split
  · exact app_ne (app_ne (app_ne (app_ne (by decide +kernel))))
  rename_i hne
  split
  · exact app_ne (app_ne (app_ne (app_ne (by decide +kernel))))
  split
  · split
    · exact fine_noTruth _
    · exact fine_b2i _ (by omega) (by omega)
  · cases e : numsF ls with
    | error x => exact nums_err e
    | ok ns =>
      obtain ⟨h1, h2⟩ := nums_bound (fun l hl => (hb l hl).2) e
      have hns : ns ≠ [] := fun q => by rw (occs := .all) [q] at h2; exact hne (List.length_eq_zero_iff.mp h2.symm)
      exact fine_toR (fun i e => fn_bound hB hns h1 e) (fun x e => fn_err e) hB'
theorem texts_fine {B : Nat} : ∀ {rs : List Res}, (∀ r ∈ rs, Fine B r) → (∀ ls, textsR rs = .ok ls → (∀ l ∈ ls, Plain l ∧ ∀ i, wholeF l = some i → i.natAbs < 2 ^ B) ∧ ls.length = rs.length) ∧ ∀ x, textsR rs = .error x → x.msg ≠ S ""
  | [], _ => ⟨fun ls e => (by cases e; exact ⟨fun l hl => (by cases hl), rfl⟩), fun x e => (by cases e)⟩
  | .err m c :: r, h => ⟨fun ls e => (by cases e), fun x e => (by cases e; exact h _ List.mem_cons_self)⟩
  | .val l k :: r, h => by
    obtain ⟨h1, h2⟩ := texts_fine (rs := r) (fun x hx => h x (by simp [hx]))
    obtain ⟨p1, p2, p3⟩ := h _ (List.mem_cons_self (a := Res.val l k) (l := r))
    rw (occs := .all) [textsR]
    cases e : textsR r with
    | error x =>
      refine ⟨fun ls q => (by cases q), fun y q => ?_⟩
      cases q
      exact h2 x e
    | ok ls =>
      obtain ⟨h3, h4⟩ := h1 ls e
      refine ⟨fun ls' q => ?_, fun y q => (by cases q)⟩
      cases q
      refine ⟨fun a ha => ?_, by simp [h4]⟩
      rcases List.mem_cons.mp ha with rfl | ha
      · exact ⟨p1, fun i hi => p3 i (by rw [p2]; exact hi)⟩
      · exact h3 a ha
theorem fine_log {B : Nat} (hB : 1 ≤ B) (hB' : B ≤ 200) {isOr : Bool} {r s : Res} (h : Fine B r) (h' : Fine B s) : Fine B (resLog isOr r s) := by
  unfold resLog
  cases r with
  | err m c => exact h
  | val l k =>
    dsimp only
    cases truthF l (wholeF l) with
    | none => exact fine_noTruth _
    | some b =>
      dsimp only
      split
      · exact fine_b2i _ hB hB'
      · cases s with
        | err m c => exact h'
        | val l' k' =>
          dsimp only
          cases truthF l' (wholeF l') with
          | none => exact fine_noTruth _
          | some b' => exact fine_b2i _ hB hB'
theorem fine_if {B : Nat} {r s u : Res} (h : Fine B r) (h' : Fine B s) (h'' : Fine B u) : Fine B (resIf r s u) := by
  unfold resIf
  cases r with
  | err m c => exact h
  | val l k =>
    dsimp only
    cases truthF l (wholeF l) with
    | none => exact fine_noTruth _
    | some b => cases b <;> assumption
theorem fine_txt : ∀ l ∈ txts, (match wholeF l with | some i => i.natAbs | none => 0) < 2 ^ 145 := by decide +kernel
theorem fine_G {p : PV} {r : Res} {h : Nat} (g : G p r h) : h ≤ 20 → Fine (145 + 2 * h) r := by
  induction g with
  | num hi => exact fun hh => fine_whole (pow_up hi (by omega)) (by omega)
  | @text l h hl =>
    intro hh
    refine ⟨.inr hl, rfl, fun i e => ?_⟩
    have := fine_txt l hl
    rw (occs := .all) [e] at this
    exact pow_up this (by omega)
  | @un op p r h ho g ih =>
    intro hh
    have := ih (by omega)
    cases r with
    | err m c => exact this
    | val l k => exact (fine_unary (B := 145 + 2 * h) this (by omega) (by omega)).mono (by omega)
  | @bin op p q r s h ho g g' hs ih ih' =>
    intro hh
    have := ih (by omega)
    have h2 := ih' (by omega)
    cases r with
    | err m c => exact this
    | val l k =>
      cases s with
      | err m c => exact h2
      | val l' k' => exact (fine_binary (B := 145 + 2 * h) this h2 (by omega) (by omega) hs).mono (by omega)
  | @call name l h hn hl g ih =>
    intro hh
    have hf : ∀ r ∈ l.map (·.2), Fine (145 + 2 * h) r := by
      intro r hr
      obtain ⟨x, hx, rfl⟩ := List.mem_map.mp hr
      exact ih x hx (by omega)
    obtain ⟨h1, h2⟩ := texts_fine hf
    unfold resCall
    cases e : textsR (l.map (·.2)) with
    | error x => exact h2 x e
    | ok ls => exact (fine_callV (by omega) (by omega) (h1 ls e).1).mono (by omega)
  | @log isOr p q r s h g g' ih ih' => exact fun hh => (fine_log (by omega) (by omega) (ih (by omega)) (ih' (by omega))).mono (by omega)
  | @ite p q t r s u h g g' g'' ih ih' ih'' => exact fun hh => (fine_if (ih (by omega)) (ih' (by omega)) (ih'' (by omega))).mono (by omega)
section
section
variable {w : World} {n K : Nat}
noncomputable def Rec (w : World) (K : Nat) (p : PV) (r : Res) : Prop := ∀ n, Does w (n + K) 371 [.none, p] (outc r)
noncomputable def appT (done : List (List Nat)) : Except Exc (List (List Nat)) → Except Exc (List (List Nat))
  | .ok ns => .ok (done ++ ns)
  | .error x => .error x
theorem w_call_value {name : Str} {l : List (PV × Res)} (hK : 10 ≤ K) (hn : name ∈ callNames) (hl : l.length ≤ 3) (hr : ∀ x ∈ l, Rec w K x.1 x.2 ∧ Fine 200 x.2) : Does w (n + K + 1) 350 [.none, .str name, .tup (l.map (·.1))] (outc (resCall name (l.map (·.2)))) := by
  refine fnc_body (xs := ["host", "name", "trees"]) (ρ₀ := [("host", .fz .none), ("name", .fz (.str name)), ("trees", .fz (.tup (l.map (·.1))))]) (ho := by k_is) (hcd := by k_is) (hbind := by wtm_at "a3") (by decide +kernel) rfl (by decide +kernel) (by decide +kernel) rfl rfl rfl rfl ?_
  unfold resCall
  refine exs_cons (ex_assignO (evn_list ?_))
  wtm_at "go"
  refine ex_cut (fun ρ => ∃ ls, textsR (l.map (·.2)) = .ok ls ∧ (∀ x ∈ ls, Plain x) ∧ ls.length ≤ 3 ∧ Sub [("host", .fz .none), ("name", .fz (.str name)), ("args", .own (ls.map strP))] ρ) (ex_for ?_ (by omega)) (fun ρ => fx1 fun ls => fn4 fun e1 hpl hll hs => exs_sub hs ?_)
  · wtm_at "go"
    refine ⟨_, .tup _, ?_⟩
    refine frl_inv (fun items ρ => ∃ (rest : List (PV × Res)) (done : List (List Nat)), items = rest.map (·.1) ∧ Sub [("host", .fz .none), ("name", .fz (.str name)), ("args", .own (done.map strP))] ρ ∧ textsR (l.map (·.2)) = appT done (textsR (rest.map (·.2))) ∧ (∀ x ∈ rest, Rec w K x.1 x.2 ∧ Fine 200 x.2) ∧ (∀ x ∈ done, Plain x) ∧ done.length + rest.length ≤ 3) ?_ ?_ (by decide +kernel) _ _ ⟨l, [], rfl, by wtm_at "sub", by cases textsR (l.map (·.2)) <;> rfl, hr, fun x hx => (by cases hx), by simpa using hl⟩
    · rintro ρ ⟨rest, done, hr, hs, e, _, hd, hlr⟩
      obtain rfl : rest = [] := by simpa using hr.symm
      exact ⟨done, by rw [e]; simp [textsR, appT], hd, by simpa using hlr, hs⟩
    · rintro p items ρ ⟨rest, done, hr, hs, e, hrr, hd, hlr⟩
      cases rest with
      | nil => cases hr
      | cons a rest =>
        cases hr
        refine ⟨_, _, hs, by wtm_at "put", ?_⟩
        obtain ⟨hra, hfa⟩ := hrr a (by simp)
        refine exs_cons (ex_append (by wtm_at "lk") ?_)
        refine ev_call g_reckon f_reckon ?_ (by omega)
        wtm_at "go"
        have hra := hra 0
        obtain ⟨p, r⟩ := a
        dsimp only at *
        refine does_use hra (by omega) (fun p e' => ?_) (fun x e' => ?_)
        · cases r with
          | err m c => cases e'
          | val a k =>
            cases e'
            simp only [List.length_cons] at hlr
            refine ⟨_, by wtm_at "lk", tooBig (by rw [List.length_map]; omega), _, by wtm_at "put", ?_⟩
            rw (occs := .all) [show done.map strP ++ [PV.str (mkS a)] = (done ++ [a]).map strP by rw [List.map_append]; rfl]
            wtm_at "go"
            refine ⟨rest, done ++ [a], rfl, by wtm_at "sub", ?_, fun l hl => hrr l (by simp [hl]), ?_, by simp; omega⟩
            · rw (occs := .all) [e, List.map_cons, textsR]
              cases textsR (rest.map (·.2)) with
              | ok ns => simp [appT]
              | error x => rfl
            · intro x hx
              rcases List.mem_append.mp hx with hx | hx
              · exact hd x hx
              · rw (occs := .all) [List.mem_singleton] at hx
                rw (occs := .all) [hx]; exact hfa.1
        · cases r with
          | err m c =>
            cases e'
            rw (occs := .all) [e, List.map_cons, textsR]; rfl
          | val a k => cases e'
  · rw (occs := .all) [e1]
    dsimp only
    refine exs_cons (ex_assign ?_)
    refine ev_call g_call_function f_call_function ?_ (by omega)
    refine evs_cons (ev_name (by wtm_at "lk") ?_)
    refine evs_cons (ev_own (by wtm_at "lk") (by wtm_at "put") ?_)
    wtm_at "go"
    refine does_use (w_call_function (n := 0) hn hpl (by omega)) (by omega) (fun p e => ?_) (fun x e => e)
    cases hv : callV name ls with
    | err m c => rw (occs := .all) [hv] at e; cases e
    | val a k =>
      rw (occs := .all) [hv] at e
      cases e
      wtm_at "gd"
      rfl
theorem leaf_num {i : Int} (hi : i.natAbs < 2 ^ 200) : Does w (n + 1) 357 [.none, .tup [.str (S "num"), .int i]] (outc (wholeR i)) := by
  refine fnc_body (xs := ["host", "tree"]) (ρ₀ := [("host", .fz .none), ("tree", .fz (.tup [.str (S "num"), .int i]))]) (ho := by k_is) (hcd := by k_is) (hbind := by wtm_at "a2") (by decide +kernel) rfl (by decide +kernel) (by decide +kernel) rfl rfl rfl rfl ?_
  wtm_at "gd"
  refine s_strI (log_ok (by omega)) ?_
  rw (occs := .all) [str_num]; rfl
theorem leaf_text {l : List Nat} {k : Option Int} : Does w (n + 1) 357 [.none, .tup [.str (S "text"), .str (mkS l)]] (outc (.val l k)) := by
  refine fnc_body (xs := ["host", "tree"]) (ρ₀ := [("host", .fz .none), ("tree", .fz (.tup [.str (S "text"), .str (mkS l)]))]) (ho := by k_is) (hcd := by k_is) (hbind := by wtm_at "a2") (by decide +kernel) rfl (by decide +kernel) (by decide +kernel) rfl rfl rfl rfl ?_
  wtm_at "gd"
  rfl
theorem leaf_un {op : Str} {p : PV} {r : Res} (hK : 10 ≤ K) (ho : op ∈ unOps) (hr : Rec w K p r) (hf : Fine 200 r) : Does w (n + K + 1) 357 [.none, .tup [.str (S "un"), .str op, p]] (outc (resUn op r)) := by
  refine fnc_body (xs := ["host", "tree"]) (ρ₀ := [("host", .fz .none), ("tree", .fz (.tup [.str (S "un"), .str op, p]))]) (ho := by k_is) (hcd := by k_is) (hbind := by wtm_at "a2") (by decide +kernel) rfl (by decide +kernel) (by decide +kernel) rfl rfl rfl rfl ?_
  wtm_at "gd"
  refine ev_call g_unary f_unary ?_ (by omega)
  wtm_at "go"
  refine ev_call g_reckon f_reckon ?_ (by omega)
  wtm_at "go"
  refine does_use (hr 0) (by omega) (fun q e => ?_) (fun x e => ?_)
  · cases r with
    | err m c => cases e
    | val l k =>
      cases e
      wtm_at "go"
      refine does_use (w_unary (n := 0) (by simpa [unOps] using ho) hf.1) (by omega) (fun q e => e) (fun x e => e)
  · cases r with
    | err m c => exact e
    | val l k => cases e
theorem leaf_if {p q t : PV} {r s u : Res} (hK : 10 ≤ K) (hr : Rec w K p r) (hf : Fine 200 r) (hs : Rec w K q s) (hu : Rec w K t u) : Does w (n + K + 1) 357 [.none, .tup [.str (S "if"), p, q, t]] (outc (resIf r s u)) := by
  refine fnc_body (xs := ["host", "tree"]) (ρ₀ := [("host", .fz .none), ("tree", .fz (.tup [.str (S "if"), p, q, t]))]) (ho := by k_is) (hcd := by k_is) (hbind := by wtm_at "a2") (by decide +kernel) rfl (by decide +kernel) (by decide +kernel) rfl rfl rfl rfl ?_
  wtm_at "gd"
  refine ev_call g_need_bool f_need_bool ?_ (by omega)
  refine evs_cons ?_
  refine ev_call g_reckon f_reckon ?_ (by omega)
  wtm_at "go"
  unfold resIf
  refine does_use (hr 0) (by omega) (fun p e => ?_) (fun x e => ?_)
  · cases r with
    | err m c => cases e
    | val l k =>
      cases e
      wtm_at "go"
      refine does_use (w_need_bool (n := 0) hf.1) (by omega) (fun p e => ?_) (fun x e => ?_)
      · rw (occs := .all) [bool_truth hf.1] at e
        dsimp only
        cases ht : truthF l (wholeF l) with
        | none => rw (occs := .all) [ht] at e; cases e
        | some b =>
          rw (occs := .all) [ht] at e
          cases e
          cases b
          · wtm_at "go"
            refine ev_call g_reckon f_reckon ?_ (by omega)
            wtm_at "go"
            exact does_use (hu 0) (by omega) (fun q e => e) (fun x e => e)
          · wtm_at "go"
            refine ev_call g_reckon f_reckon ?_ (by omega)
            wtm_at "go"
            exact does_use (hs 0) (by omega) (fun q e => e) (fun x e => e)
      · rw (occs := .all) [bool_truth hf.1] at e
        dsimp only
        cases ht : truthF l (wholeF l) with
        | none => rw (occs := .all) [ht] at e; exact e
        | some b => rw (occs := .all) [ht] at e; cases e
  · cases r with
    | err m c => exact e
    | val l k => cases e
theorem leaf_call {name : Str} {l : List (PV × Res)} (hK : 10 ≤ K) (hn : name ∈ callNames) (hl : l.length ≤ 3) (hr : ∀ x ∈ l, Rec w K x.1 x.2 ∧ Fine 200 x.2) : Does w (n + K + 2) 357 [.none, .tup [.str (S "call"), .str name, .tup (l.map (·.1))]] (outc (resCall name (l.map (·.2)))) := by
  refine fnc_body (xs := ["host", "tree"]) (ρ₀ := [("host", .fz .none), ("tree", .fz (.tup [.str (S "call"), .str name, .tup (l.map (·.1))]))]) (ho := by k_is) (hcd := by k_is) (hbind := by wtm_at "a2") (by decide +kernel) rfl (by decide +kernel) (by decide +kernel) rfl rfl rfl rfl ?_
  wtm_at "gd"
  refine ev_call g_call_value f_call_value ?_ (by omega)
  wtm_at "go"
  exact does_use (w_call_value (n := 0) hK hn hl hr) (by omega) (fun q e => e) (fun x e => e)
end
end
section
section
variable {w : World} {n K : Nat}
theorem w_logic {isOr : Bool} {p q : PV} {l : List Nat} {k : Option Int} {s : Res} (hK : 10 ≤ K) (hf : Fine 200 (.val l k)) (hs : Rec w K q s) (hfs : Fine 200 s) :
    Does w (n + K + 1) 364 [.none, .tup [.str (logName isOr), p, q], .str (mkS l)] (outc (resLog isOr (.val l k) s)) := by
  refine fnc_body (xs := ["host", "tree", "value"]) (ρ₀ := [("host", .fz .none), ("tree", .fz (.tup [.str (logName isOr), p, q])), ("value", .fz (.str (mkS l)))]) (ho := by k_is) (hcd := by k_is) (hbind := by wtm_at "a3") (by decide +kernel) rfl (by decide +kernel) (by decide +kernel) rfl rfl rfl rfl ?_
  have e0 : (logName isOr == Str.ofString "or") = isOr := by cases isOr <;> decide +kernel
  have e1 : Str.ofString "1" = mkS (numL 1) := by decide +kernel
  have e2 : Str.ofString "0" = mkS (numL 0) := by decide +kernel
  wtm_at "go"
  rw (occs := .all) [e0]
  refine ev_call g_need_bool f_need_bool ?_ (by omega)
  wtm_at "go"
  unfold resLog
  refine does_use (w_need_bool (n := 0) hf.1) (by omega) (fun p e => ?_) (fun x e => ?_)
  · rw (occs := .all) [bool_truth hf.1] at e
    dsimp only
    cases ht : truthF l (wholeF l) with
    | none => rw (occs := .all) [ht] at e; cases e
    | some b =>
      rw (occs := .all) [ht] at e
      cases e
      dsimp only
      wtm_at "go"
      refine .split (fun h => ?_) (fun h => ?_)
      · have h : ¬ b = isOr := by simpa using h
        rw (occs := .all) [if_neg h]
        wtm_at "go"
        refine ev_call g_need_bool f_need_bool ?_ (by omega)
        refine evs_cons ?_
        refine ev_call g_reckon f_reckon ?_ (by omega)
        wtm_at "go"
        refine does_use (hs 0) (by omega) (fun p e => ?_) (fun x e => ?_)
        · cases s with
          | err m c => cases e
          | val l' k' =>
            cases e
            wtm_at "go"
            refine does_use (w_need_bool (n := 0) hfs.1) (by omega) (fun p e => ?_) (fun x e => ?_)
            · rw (occs := .all) [bool_truth hfs.1] at e
              dsimp only
              cases ht' : truthF l' (wholeF l') with
              | none => rw (occs := .all) [ht'] at e; cases e
              | some b' =>
                rw (occs := .all) [ht'] at e
                cases e
                wtm_at "go"
                refine .split (fun h' => ?_) (fun h' => ?_)
                · subst h'
                  wtm_at "go"
                  rw (occs := .all) [e1]; rfl
                · subst h'
                  wtm_at "go"
                  rw (occs := .all) [e2]; rfl
            · rw (occs := .all) [bool_truth hfs.1] at e
              dsimp only
              cases ht' : truthF l' (wholeF l') with
              | none => rw (occs := .all) [ht'] at e; exact e
              | some b' => rw (occs := .all) [ht'] at e; cases e
        · cases s with
          | err m c => exact e
          | val l' k' => cases e
      · have h : b = isOr := by simpa using h
        rw (occs := .all) [if_pos h]
        subst h
        wtm_at "go"
        refine .split (fun h' => ?_) (fun h' => ?_)
        · subst h'
          wtm_at "go"
          rw (occs := .all) [e1]; rfl
        · subst h'
          wtm_at "go"
          rw (occs := .all) [e2]; rfl
  · rw (occs := .all) [bool_truth hf.1] at e
    dsimp only
    cases ht : truthF l (wholeF l) with
    | none => rw (occs := .all) [ht] at e; exact e
    | some b => rw (occs := .all) [ht] at e; cases e
inductive Sp (w : World) (K : Nat) (p : PV) (r : Res) : List PV → PV → Res → Prop
  | nil : Sp w K p r [] p r
  | bin {L : List PV} {op : Str} {a b : PV} {ra rb : Res} (h : Sp w K p r L (.tup [.str (S "bin"), .str op, a, b]) (resBin op ra rb)) (ho : op ∈ binOps) (hb : Rec w K b rb) (hs : SmallOk op ra rb) (fa : Fine 185 ra) (fb : Fine 185 rb) :
      Sp w K p r (.tup [.str (S "bin"), .str op, a, b] :: L) a ra
  | log {L : List PV} {isOr : Bool} {a b : PV} {ra rb : Res} (h : Sp w K p r L (.tup [.str (logName isOr), a, b]) (resLog isOr ra rb)) (hb : Rec w K b rb) (fa : Fine 185 ra) (fb : Fine 185 rb) :
      Sp w K p r (.tup [.str (logName isOr), a, b] :: L) a ra
theorem Sp.err {p : PV} {r : Res} {L : List PV} {u : PV} {ru : Res} (h : Sp w K p r L u ru) : ∀ {m c}, ru = .err m c → r = .err m c := by
  induction h with
  | nil => exact fun e => e
  | bin _ _ _ _ _ _ ih => exact fun e => ih (by rw [e]; rfl)
  | log _ _ _ _ ih => exact fun e => ih (by rw [e]; rfl)
theorem bin_ok {op : Str} {a b : List Nat} {j k : Option Int} (fa : Fine 185 (.val a j)) (fb : Fine 185 (.val b k)) (hs : SmallOk op (.val a j) (.val b k)) : BinOk op a b := by
  obtain ⟨p1, rfl, k1⟩ := fa
  obtain ⟨p2, rfl, k2⟩ := fb
  exact ⟨fun m i h h' e => (hs a b _ _ m i rfl rfl h h').1 e, fun m i h h' e => (hs a b _ _ m i rfl rfl h h').2.1 e,
    fun m i z h h' _ e => Nat.le_of_lt (pow_up (arith_small (by decide) (k1 m h) (k2 i h') (hs a b _ _ m i rfl rfl h h') e) (by decide))⟩
noncomputable abbrev Lre (L : List PV) (t : PV) : PEnv := [("host", .fz .none), ("spine", .own L.reverse), ("tree", .fz t)]
noncomputable abbrev Lrv (L : List PV) (l : List Nat) : PEnv := [("host", .fz .none), ("spine", .own L.reverse), ("value", .fz (.str (mkS l)))]
theorem w_reckon1 {p : PV} {r : Res} {h : Nat} (hK : 10 ≤ K) (g : G p r h) (hh : h ≤ 20) (hrec : ∀ h', h = h' + 1 → ∀ p r, G p r h' → Rec w K p r) : Does w (n + K + 3) 371 [.none, p] (outc r) := by
  refine fnc_body (xs := ["host", "tree"]) (ρ₀ := [("host", .fz .none), ("tree", .fz p)]) (ho := by k_is) (hcd := by k_is) (hbind := by wtm_at "a2") (by decide +kernel) rfl (by decide +kernel) (by decide +kernel) rfl rfl rfl rfl ?_
  refine exs_cons (ex_assignO (evn_list ?_))
  wtm_at "go"
  refine ex_cut (fun ρ => ∃ L u ru, Sub (Lre L u) ρ ∧ Sp w K p r L u ru ∧ Fine 185 ru ∧ L.length ≤ 20 ∧ Does w (K + 2) 357 [.none, u] (outc ru)) (ex_while (whl_inv (fun k ρ => ∃ L u ru, Sub (Lre L u) ρ ∧ Sp w K p r L u ru ∧ G u ru k ∧ k ≤ h ∧ L.length + k ≤ 20) ?_ _ _ ⟨[], p, r, by wtm_at "sub", .nil, g, Nat.le_refl _, by simpa using hh⟩)) (fun ρ => fx3 fun L u ru => fn5 fun hs hsp hfu hL hu => exs_sub hs ?_)
  · rintro k ρ ⟨L, u, ru, hs, hsp, gu, hk, hL⟩
    refine evb_sub hs ?_
    have fine : ∀ {h' p r}, G p r h' → h' + 1 = k → Fine 185 r := fun g e => (fine_G g (by omega)).mono (by omega)
    have rec' : ∀ {h' p r}, G p r h' → h' + 1 = k → Rec w K p r := fun {h' p r} g e => hrec (h - 1) (by omega) p r (g.mono (by omega))
    have hfu : Fine 185 ru := (fine_G gu (by omega)).mono (by omega)
    have hs3 : L.reverse.length ≤ sizeLine := tooBig (by rw [List.length_reverse]; omega)
    cases gu with
    | num hi =>
      wtm_at "gd"
      exact ⟨L, _, _, by wtm_at "sub", hsp, hfu, by omega, leaf_num (n := K + 1) (pow_up hi (by decide))⟩
    | text hl =>
      wtm_at "gd"
      exact ⟨L, _, _, by wtm_at "sub", hsp, hfu, by omega, leaf_text (n := K + 1)⟩
    | un ho g1 =>
      wtm_at "gd"
      have := leaf_un (n := 1) hK ho (rec' g1 rfl) ((fine g1 rfl).mono (by decide))
      exact ⟨L, _, _, by wtm_at "sub", hsp, hfu, by omega, by rw [show K + 2 = 1 + K + 1 by omega]; exact this⟩
    | call hn hl g1 =>
      wtm_at "gd"
      have := leaf_call (w := w) (n := 0) hK hn hl (fun x hx => ⟨rec' (g1 x hx) rfl, (fine (g1 x hx) rfl).mono (by decide)⟩)
      exact ⟨L, _, _, by wtm_at "sub", hsp, hfu, by omega, by rw [show K + 2 = 0 + K + 2 by omega]; exact this⟩
    | ite g1 g2 g3 =>
      wtm_at "gd"
      have := leaf_if (n := 1) hK (rec' g1 rfl) ((fine g1 rfl).mono (by decide)) (rec' g2 rfl) (rec' g3 rfl)
      exact ⟨L, _, _, by wtm_at "sub", hsp, hfu, by omega, by rw [show K + 2 = 1 + K + 1 by omega]; exact this⟩
    | @bin op a b ra rb h1 ho g1 g2 hsm =>
      wtm_at "gd"
      refine ex_append (by wtm_at "lk") ?_
      wtm_at "go"
      refine ⟨_, by wtm_at "lk", hs3, _, by wtm_at "put", ?_⟩
      rw (occs := .all) [← List.reverse_cons]
      wtm_at "gd"
      exact ⟨h1, by omega, _, a, ra, by wtm_at "sub", .bin hsp ho (rec' g2 rfl) hsm (fine g1 rfl) (fine g2 rfl), g1, by omega, by simp; omega⟩
    | @log isOr a b ra rb h1 g1 g2 =>
      have e1 : (strD [PV.str (Str.ofString "bin"), PV.str (Str.ofString "and"), PV.str (Str.ofString "or")]).any (fun x => x == logName isOr) = true := by cases isOr <;> decide +kernel
      have e2 : (logName isOr == Str.ofString "bin") = false := by cases isOr <;> decide +kernel
      wtm_at "go"
      rw (occs := .all) [e1]
      wtm_at "gd"
      refine ex_append (by wtm_at "lk") ?_
      wtm_at "go"
      refine ⟨_, by wtm_at "lk", hs3, _, by wtm_at "put", ?_⟩
      rw (occs := .all) [← List.reverse_cons]
      wtm_at "go"
      rw (occs := .all) [e2]
      wtm_at "gd"
      exact ⟨h1, by omega, _, a, ra, by wtm_at "sub", .log hsp (rec' g2 rfl) (fine g1 rfl) (fine g2 rfl), g1, by omega, by simp; omega⟩
  · wtm_at "go"
    refine ev_call g_leaf_value f_leaf_value ?_ (by omega)
    wtm_at "go"
    refine does_use hu (by omega) (fun q e => ?_) (fun x e => ?_)
    · cases ru with
      | err m c => cases e
      | val l k =>
        cases e
        wtm_at "go"
        refine ex_cut (fun ρ => ∃ l k, r = .val l k ∧ Sub [("value", .fz (.str (mkS l)))] ρ) (ex_while (whl_inv (fun k ρ => ∃ L u l j, Sub (Lrv L l) ρ ∧ Sp w K p r L u (.val l j) ∧ k = L.length ∧ k ≤ 20) ?_ _ _ ⟨L, u, l, k, by wtm_at "sub", hsp, rfl, hL⟩)) (fun ρ => fx2 fun l k => fn2 fun e hs => exs_sub hs ?_)
        · rintro k ρ ⟨L, u, l, j, hs, hsp, rfl, hk⟩
          refine evb_sub hs ?_
          refine evb_own (by wtm_at "lk") (tooBig (by rw [List.length_reverse]; omega)) ?_
          cases hsp with
          | nil =>
            refine .ff rfl ?_
            exact ⟨l, j, rfl, by wtm_at "sub"⟩
          | @bin L op a b ra rb hsp ho hb hsm fa fb =>
            simp only [List.length_cons] at hk
            refine .tt (by simp) ?_
            refine exs_cons (ex_assign ?_)
            refine ev_pop (l := L.reverse) (p := .tup [.str (S "bin"), .str op, u, b]) (by unfold Lrv; rw [List.reverse_cons]; wtm_at "lk") (by rw [List.length_reverse, sizeLine_eq]; omega) (by wtm_at "put") ?_
            wtm_at "gd"
            refine ev_call g_binary f_binary ?_ (by omega)
            wtm_at "gd"
            refine ev_call g_reckon f_reckon ?_ (by omega)
            wtm_at "gd"
            refine does_use (hb 0) (by omega) (fun q e => ?_) (fun x e => ?_)
            · cases rb with
              | err m c => cases e
              | val l' k' =>
                cases e
                wtm_at "go"
                refine does_use (w_binary (n := 0) ho fa.1 fb.1 (bin_ok fa fb hsm)) (by omega) (fun q e => ?_) (fun x e => ?_)
                · cases hv : binaryV op l l' with
                  | err m c => rw (occs := .all) [hv] at e; cases e
                  | val l2 k2 =>
                    rw (occs := .all) [hv] at e
                    cases e
                    wtm_at "go"
                    exact ⟨L.length, by simp, L, _, l2, k2, by wtm_at "sub", by have := hsp; rw (occs := .all) [show resBin op (.val l j) (.val l' k') = binaryV op l l' from rfl, hv] at this; exact this, rfl, by omega⟩
                · cases hv : binaryV op l l' with
                  | err m c =>
                    rw (occs := .all) [hv] at e
                    rw (occs := .all) [hsp.err (m := m) (c := c) (by rw [← hv]; rfl)]
                    exact e
                  | val l2 k2 => rw (occs := .all) [hv] at e; cases e
            · cases rb with
              | err m c => rw [hsp.err (m := m) (c := c) rfl]; exact e
              | val l' k' => cases e
          | @log L isOr a b ra rb hsp hb fa fb =>
            simp only [List.length_cons] at hk
            have e2 : (logName isOr == Str.ofString "bin") = false := by cases isOr <;> decide +kernel
            refine .tt (by simp) ?_
            refine exs_cons (ex_assign ?_)
            refine ev_pop (l := L.reverse) (p := .tup [.str (logName isOr), u, b]) (by unfold Lrv; rw [List.reverse_cons]; wtm_at "lk") (by rw [List.length_reverse, sizeLine_eq]; omega) (by wtm_at "put") ?_
            wtm_at "go"
            rw (occs := .all) [e2]
            wtm_at "gd"
            refine ev_call g_logic_value f_logic_value ?_ (by omega)
            wtm_at "gd"
            refine does_use (w_logic (n := 0) hK (fa.mono (by decide)) hb (fb.mono (by decide))) (by omega) (fun q e => ?_) (fun x e => ?_)
            · cases hv : resLog isOr (.val l j) rb with
              | err m c => rw (occs := .all) [hv] at e; cases e
              | val l2 k2 =>
                rw (occs := .all) [hv] at e hsp
                cases e
                wtm_at "go"
                exact ⟨L.length, by simp, L, _, l2, k2, by wtm_at "sub", hsp, rfl, by omega⟩
            · cases hv : resLog isOr (.val l j) rb with
              | err m c =>
                rw (occs := .all) [hv] at e hsp
                rw (occs := .all) [hsp.err (m := m) (c := c) rfl]
                exact e
              | val l2 k2 => rw (occs := .all) [hv] at e; cases e
        · rw (occs := .all) [e]
          wtm_at "go"
          rfl
    · cases ru with
      | err m c => rw [hsp.err (m := m) (c := c) rfl]; exact e
      | val l k => cases e
theorem w_reckon {h : Nat} : h ≤ 20 → ∀ {p : PV} {r : Res}, G p r h → Rec w (4 * h + 13) p r := by
  induction h with
  | zero => exact fun hh p r g n => fnc_mono (w_reckon1 (n := n) (K := 10) (Nat.le_refl _) g hh (fun h' e => by omega)) (by omega) (fun _ q => q) (fun _ q => q)
  | succ h ih => exact fun hh p r g n => fnc_mono (w_reckon1 (n := n) (K := 4 * h + 13) (by omega) g hh (fun h' e p r g => by cases e; exact ih (by omega) g)) (by omega) (fun _ q => q) (fun _ q => q)
end
end
section
section
variable {w : World} {n : Nat}
theorem lk_cons {a k : Str} {b : PV} {es : List (Str × PV)} : List.lookup a ((k, b) :: es) = if a = k then some b else List.lookup a es := by
  rw (occs := .all) [List.lookup_cons]
  by_cases h : a = k
  · subst h; simp
  · have : (a == k) = false := by rw [beq_eq_false_iff_ne]; exact h
    rw (occs := .all) [this, if_neg h]
theorem mkS_inj {a b : List Nat} : (mkS a = mkS b) = (a = b) := propext ⟨fun h => by have := congrArg Str.l h; rwa [l_mkS, l_mkS] at this, fun h => h ▸ rfl⟩
theorem s_addL {l l' : List PV} {Q : PV → Prop} (hs : l.length + l'.length ≤ sizeLine) (h : Q (.lst (l ++ l'))) : ∃ c, Op2 w n (binaryOp .Add) (.lst l) (.lst l') c ∧ Q c := ⟨_, op_addL hs, h⟩
noncomputable def lawRows : List Int := [424, 712, 28, 744, 36, 744, 44, 968, 52, 32, 68, 19, 10, 84, 2, 58, 188, 1192, 776, 488, 182, 38, 34, 2, 156, 23, 808, 1032, 132, 42, 27, 15, 0, 46, 3, 872, 648, 28, 106, 27]
theorem w_law_rows : Does w (n + 1) 378 [] (.ok (.lst (lawRows.map PV.int))) := by
  refine fnc_body (xs := []) (ρ₀ := []) (ho := by k_is) (hcd := by k_is) (hbind := by wtm_at "a0") (by decide +kernel) rfl (by decide +kernel) (by decide +kernel) rfl rfl rfl rfl ?_
  wtm_at "go"
  refine s_addL (tooBig (by decide)) ?_
  wtm_at "go"
  refine s_addL (tooBig (by decide)) ?_
  wtm_at "go"
  refine s_addL (tooBig (by decide)) ?_
  rfl
theorem w_law_texts : Does w (n + 1) 385 [] (.ok (.tup (txts.map strP))) := by
  refine fnc_body (xs := []) (ρ₀ := []) (ho := by k_is) (hcd := by k_is) (hbind := by wtm_at "a0") (by decide +kernel) rfl (by decide +kernel) (by decide +kernel) rfl rfl rfl rfl ?_
  wtm_at "go"
  have e : txts.map strP = (txts.map mkS).map PV.str := by rw [List.map_map]; rfl
  rw (occs := .all) [e, show txts.map mkS = [S "abc", S "0x1F", S " 7\t", S "010", S "tRu", S "of", S "", S "7 abc 10", S "{", S "-0", S "1_0", S "-0b101", S "+0O17", S "o", S "1.5", S "No", S "0D9", S "٣", S "10 {7 7} -5", S "0x"] from by decide +kernel]
  rfl
theorem w_law_whole {i : Int} (hi : i.natAbs ≤ 2 ^ 200) : Does w (n + 1) 399 [.int i] (.ok (dueP (wholeR i))) := by
  refine fnc_body (xs := ["number"]) (ρ₀ := [("number", .fz (.int i))]) (ho := by k_is) (hcd := by k_is) (hbind := by wtm_at "a1") (by decide +kernel) rfl (by decide +kernel) (by decide +kernel) rfl rfl rfl rfl ?_
  wtm_at "go"
  refine s_strI (log_ok hi) ?_
  wtm_at "go"
  rw (occs := .all) [str_num]; rfl
theorem w_law_truth {l : List Nat} {k : Option Int} : Does w (n + 1) 413 [dueP (.val l k)] (.ok (optB (truthF l k))) := by
  refine fnc_body (xs := ["due"]) (ρ₀ := [("due", .fz (dueP (.val l k)))]) (ho := by k_is) (hcd := by k_is) (hbind := by wtm_at "a1") (by decide +kernel) rfl (by decide +kernel) (by decide +kernel) rfl rfl rfl rfl ?_
  unfold dueP truthF
  cases k with
  | some i =>
    simp only [optI]
    wtm_at "gd"
    rfl
  | none =>
    simp only [optI]
    wtm_at "gd"
    refine ev_get1 ?_
    wtm_at "go"
    refine ⟨rfl, rfl, by decide +kernel, _, rfl, ?_⟩
    wtm_at "go"
    simp only [lk_cons, List.lookup_nil]
    (repeat' split) <;> first | rfl | contradiction
theorem w_law_no_truth {l : List Nat} {k : Option Int} (hp : Plain l) : Does w (n + 1) 420 [dueP (.val l k)] (.ok (dueP (noTruth l))) := by
  refine fnc_body (xs := ["due"]) (ρ₀ := [("due", .fz (dueP (.val l k)))]) (ho := by k_is) (hcd := by k_is) (hbind := by wtm_at "a1") (by decide +kernel) rfl (by decide +kernel) (by decide +kernel) rfl rfl rfl rfl ?_
  unfold dueP
  wtm_at "gd"
  rfl
theorem w_law_domain {why told : Str} : Does w (n + 1) 434 [.str why, .str told] (.ok (dueP (domainR why told))) := by
  refine fnc_body (xs := ["why", "told"]) (ρ₀ := [("why", .fz (.str why)), ("told", .fz (.str told))]) (ho := by k_is) (hcd := by k_is) (hbind := by wtm_at "a2") (by decide +kernel) rfl (by decide +kernel) (by decide +kernel) rfl rfl rfl rfl ?_
  wtm_at "go"
  rfl
theorem w_law_no_operand {op : Str} {l : List Nat} (hop : op.length ≤ 10) (hp : Plain l) : Does w (n + 1) 427 [.str op, .str (mkS l)] (.ok (dueP (noOperand op l))) := by
  refine fnc_body (xs := ["op", "text"]) (ρ₀ := [("op", .fz (.str op)), ("text", .fz (.str (mkS l)))]) (ho := by k_is) (hcd := by k_is) (hbind := by wtm_at "a2") (by decide +kernel) rfl (by decide +kernel) (by decide +kernel) rfl rfl rfl rfl ?_
  unfold noOperand sortF shownF
  by_cases h : l = []
  · subst h
    wtm_at "go"
    rw (occs := .all) [mkS_nil]
    wtm_at "gd"
    rfl
  · have e : (mkS l == Str.ofString "") = false := by rw [mkS_nil, mkS_beq, beq_eq_false_iff_ne]; exact h
    wtm_at "go"
    rw (occs := .all) [e]
    wtm_at "gd"
    rw (occs := .all) [e]
    wtm_at "gd"
    simp only [if_neg h]
    rfl
theorem w_law_items {l : List Nat} : Does w (n + 1) 392 [.str (mkS l)] (.ok (.lst ((itemsF l).map strP))) := by
  refine fnc_body (xs := ["text"]) (ρ₀ := [("text", .fz (.str (mkS l)))]) (ho := by k_is) (hcd := by k_is) (hbind := by wtm_at "a1") (by decide +kernel) rfl (by decide +kernel) (by decide +kernel) rfl rfl rfl rfl ?_
  wtm_at "go"
  refine ⟨rfl, rfl, by decide +kernel, ?_⟩
  wtm_at "go"
  refine ev_get2 ?_
  wtm_at "go"
  refine ⟨_, rfl, ?_⟩
  wtm_at "go"
  have k0 : Str.ofString "" = mkS [] := by decide +kernel
  have k1 : Str.ofString " 7\t" = mkS [32, 55, 9] := by decide +kernel
  have k2 : Str.ofString "7 abc 10" = mkS [55, 32, 97, 98, 99, 32, 49, 48] := by decide +kernel
  have k3 : Str.ofString "10 {7 7} -5" = mkS [49, 48, 32, 123, 55, 32, 55, 125, 32, 45, 53] := by decide +kernel
  have v1 : Str.ofString "7" = mkS [55] := by decide +kernel
  have v2 : Str.ofString "abc" = mkS [97, 98, 99] := by decide +kernel
  have v3 : Str.ofString "10" = mkS [49, 48] := by decide +kernel
  have v4 : Str.ofString "7 7" = mkS [55, 32, 55] := by decide +kernel
  have v5 : Str.ofString "-5" = mkS [45, 53] := by decide +kernel
  simp only [lk_cons, k0, k1, k2, k3, v1, v2, v3, v4, v5, mkS_inj, List.lookup_nil]
  unfold itemsF
  (repeat' split) <;> first | rfl | contradiction
end
end
section
section
variable {w : World} {n : Nat}
noncomputable def lawOrd : List Nat → List Nat → Int
  | a :: r, b :: s => if a = b then lawOrd r s else (a : Int) - b
  | r, s => (r.length : Int) - s.length
theorem w_law_unary {op : Str} {r : Res} {B : Nat} (ho : op ∈ unOps) (hf : Fine B r) (hB : B ≤ 198) : Does w (n + 2) 441 [.str op, dueP r] (.ok (dueP (resUn op r))) := by
  refine fnc_body (xs := ["op", "due"]) (ρ₀ := [("op", .fz (.str op)), ("due", .fz (dueP r))]) (ho := by k_is) (hcd := by k_is) (hbind := by wtm_at "a2") (by decide +kernel) rfl (by decide +kernel) (by decide +kernel) rfl rfl rfl rfl ?_
  have hol : op.length ≤ 10 := by
    have : ∀ op ∈ unOps, op.length ≤ 10 := by decide +kernel
    exact this op ho
  cases r with
  | err m c =>
    have hm : (m != Str.ofString "") = true := by rw [bne_iff_ne]; exact hf
    unfold dueP
    wtm_at "go"
    rw (occs := .all) [hm]
    wtm_at "gd"
    rfl
  | val l k =>
    obtain ⟨hp, rfl, hk⟩ := hf
    rw (occs := .all) [show resUn op (.val l (wholeF l)) = unaryV op l (wholeF l) from rfl]
    unfold unaryV
    refine exs_cut (fun ρ => Sub [("op", .fz (.str op)), ("due", .fz (dueP (.val l (wholeF l))))] ρ) ?_ (fun ρ hs1 => exs_sub hs1 ?_)
    · unfold dueP
      wtm_at "gd"
      wtm_at "sub"
    refine exs_cutS (L := [("op", .fz (.str op)), ("due", .fz (dueP (.val l (wholeF l))))]) (P := ¬ op = S "!") ?_ (fun h1 => ?_)
    · wtm_at "go"
      refine .split2 beq_iff_eq.mp beq_eq_false_iff_ne.mp (fun h => ?_) (fun h => ?_)
      · rw (occs := .all) [if_pos h]
        wtm_at "go"
        refine ev_call g_law_truth f_law_truth ?_ (by omega)
        wtm_at "go"
        refine does_ok (w_law_truth (n := 0)) (by omega) ?_
        wtm_at "go"
        rw (occs := .all) [optB_none]
        cases ht : truthF l (wholeF l) with
        | none =>
          refine .tt rfl ?_
          unfold dueP
          wtm_at "gd"
          refine ev_call g_law_no_operand f_law_no_operand ?_ (by omega)
          wtm_at "go"
          exact does_ok (w_law_no_operand (n := 0) hol hp) (by omega) rfl
        | some b =>
          refine .ff rfl ?_
          wtm_at "go"
          simp only [optB]
          refine ev_call g_law_whole f_law_whole ?_ (by omega)
          cases b
          · wtm_at "gd"
            exact does_ok (w_law_whole (n := 0) (by decide)) (by omega) rfl
          · wtm_at "gd"
            exact does_ok (w_law_whole (n := 0) (by decide)) (by omega) rfl
      · wtm_at "go"
        exact ⟨by wtm_at "sub", h⟩
    rw (occs := .all) [if_neg h1]
    unfold dueP
    cases hw : wholeF l with
    | none =>
      simp only [optI]
      wtm_at "gd"
      refine ev_call g_law_no_operand f_law_no_operand ?_ (by omega)
      wtm_at "go"
      exact does_ok (w_law_no_operand (n := 0) hol hp) (by omega) rfl
    | some v =>
      have hv := pow_up (hk v hw) hB
      have hp : 2 ^ 200 = 4 * 2 ^ 198 := by decide
      simp only [optI]
      wtm_at "gd"
      refine ev_call g_law_whole f_law_whole ?_ (by omega)
      wtm_at "gd"
      refine ⟨rfl, rfl, by simp only [List.map_cons, List.map_nil]; decide +kernel, ?_⟩
      wtm_at "go"
      have key : List.lookup op [(Str.ofString "-", PV.int (0 - v)), (Str.ofString "+", PV.int v), (Str.ofString "~", PV.int (-1 - v))] = some (.int (if op = S "-" then 0 - v else if op = S "~" then -1 - v else v)) := by
        simp only [unOps, List.mem_cons, List.not_mem_nil, or_false] at ho
        rcases ho with rfl | rfl | rfl | rfl
        · rfl
        · rfl
        · rfl
        · exact absurd rfl h1
      refine ⟨_, op_itemD key, ?_⟩
      wtm_at "go"
      refine does_ok (w_law_whole (n := 0) ?_) (by omega) rfl
      split
      · exact le_q (Nat.le_succ_of_le (Nat.le_of_eq (na_zero v))) (by assumption) hp
      split
      · exact le_q (na_neg1 v) (by assumption) hp
      · exact le_q (Nat.le_succ _) (by assumption) hp
end
end
theorem quot_pos {m : Int} {b : Nat} (hb : 0 < b) : m.fdiv b = if m < 0 then 0 - ((m.natAbs / b : Nat) : Int) - (if 0 < m.natAbs % b then 1 else 0) else ((m.natAbs / b : Nat) : Int) := by
  rw (occs := .all) [Int.fdiv_eq_ediv_of_nonneg _ (by omega)]
  have h := Nat.div_add_mod m.natAbs b
  have hl := Nat.mod_lt m.natAbs hb
  have h' : (b : Int) * ((m.natAbs / b : Nat) : Int) + ((m.natAbs % b : Nat) : Int) = (m.natAbs : Int) := by exact_mod_cast h
  clear h
  generalize m.natAbs / b = q at *
  generalize m.natAbs % b = r at *
  have hbp : (0 : Int) < b := by omega
  split
  · split
    · refine ((Int.ediv_emod_unique (r := (b : Int) - r) (q := 0 - (q : Int) - 1) hbp).mpr ⟨?_, by omega, by omega⟩).1
      have : (b : Int) * (0 - q - 1) = -(b * q) - b := by rw [Int.mul_sub, Int.mul_sub]; omega
      rw (occs := .all) [this]; omega
    · refine ((Int.ediv_emod_unique (r := 0) (q := 0 - (q : Int) - 0) hbp).mpr ⟨?_, by omega, by omega⟩).1
      have : (b : Int) * (0 - q - 0) = -(b * q) := by rw [Int.mul_sub, Int.mul_sub]; omega
      rw (occs := .all) [this]; omega
  · refine ((Int.ediv_emod_unique (r := (r : Int)) (q := (q : Int)) hbp).mpr ⟨?_, by omega, by omega⟩).1
    omega
theorem quot_eq {m k : Int} (hk : k ≠ 0) : m.fdiv k = if decide (m < 0) = decide (k < 0) then ((m.natAbs / k.natAbs : Nat) : Int) else 0 - ((m.natAbs / k.natAbs : Nat) : Int) - (if 0 < m.natAbs % k.natAbs then 1 else 0) := by
  rcases Int.lt_or_le k 0 with h | h
  · obtain ⟨b, hb⟩ : ∃ b : Nat, k = -(b : Int) := ⟨k.natAbs, by omega⟩
    have e : m.fdiv k = (-m).fdiv b := by rw [hb, ← Int.neg_fdiv_neg, Int.neg_neg]
    rw (occs := .all) [e, quot_pos (by omega), Int.natAbs_neg, show k.natAbs = b by omega]
    rcases Int.lt_or_le m 0 with h1 | h1
    · rw (occs := .all) [if_neg (by omega), if_pos (by simp [h, h1])]
    · rcases Int.lt_or_le 0 m with h2 | h2
      · rw (occs := .all) [if_pos (by omega), if_neg (show ¬ decide (m < 0) = decide (k < 0) by rw [decide_eq_false (by omega : ¬ m < 0), decide_eq_true h]; decide)]
      · have : m = 0 := by omega
        subst this
        simp
  · obtain ⟨b, rfl⟩ : ∃ b : Nat, k = b := ⟨k.natAbs, by omega⟩
    rw (occs := .all) [quot_pos (by omega), Int.natAbs_natCast]
    rcases Int.lt_or_le m 0 with h1 | h1
    · rw (occs := .all) [if_pos h1, if_neg (show ¬ decide (m < 0) = decide ((b : Int) < 0) by rw [decide_eq_true h1, decide_eq_false (by omega : ¬ (b : Int) < 0)]; decide)]
    · rw (occs := .all) [if_neg (by omega), if_pos (by simp; omega)]
theorem nat_and_step (a b : Nat) : a &&& b = (a % 2) * (b % 2) + 2 * ((a / 2) &&& (b / 2)) := by
  have h1 := Nat.and_mod_two_pow (a := a) (b := b) (n := 1)
  have h2 := Nat.and_div_two_pow (a := a) (b := b) (n := 1)
  rw [Nat.pow_one] at h1 h2
  rw [← h2]
  have h3 : (a % 2) &&& (b % 2) = (a % 2) * (b % 2) := by
    rcases Nat.mod_two_eq_zero_or_one a with e | e <;> rcases Nat.mod_two_eq_zero_or_one b with e' | e' <;> rw [e, e'] <;> rfl
  rw [← h3, ← h1]
  exact (Nat.mod_add_div _ 2).symm
theorem nat_or_step (a b : Nat) : a ||| b = (1 - (1 - a % 2) * (1 - b % 2)) + 2 * ((a / 2) ||| (b / 2)) := by
  have h1 := Nat.or_mod_two_pow (a := a) (b := b) (n := 1)
  have h2 := Nat.or_div_two_pow (a := a) (b := b) (n := 1)
  rw [Nat.pow_one] at h1 h2
  rw [← h2]
  have h3 : (a % 2) ||| (b % 2) = 1 - (1 - a % 2) * (1 - b % 2) := by
    rcases Nat.mod_two_eq_zero_or_one a with e | e <;> rcases Nat.mod_two_eq_zero_or_one b with e' | e' <;> rw [e, e'] <;> rfl
  rw [← h3, ← h1]
  exact (Nat.mod_add_div _ 2).symm
theorem or_bit (a b : Nat) : ((1 - (1 - a % 2) * (1 - b % 2) : Nat) : Int) = 1 - (1 - ((a % 2 : Nat) : Int)) * (1 - ((b % 2 : Nat) : Int)) := by
  rcases Nat.mod_two_eq_zero_or_one a with e | e <;> rcases Nat.mod_two_eq_zero_or_one b with e' | e' <;> rw [e, e'] <;> rfl
theorem and_nn {y P z : Nat} {X : Int} (h : y = P + 2 * z) (hP : (P : Int) = 1 - X) : -(y : Int) - 1 = X + 2 * (-(z : Int) - 1) := by lia
theorem and_np {b y z u v : Nat} {X Y : Int} (h : y = u * v + 2 * z) (hX : X = (1 - (v : Int)) * (u : Int)) (hb : b = u + 2 * Y.toNat) (hY : 0 ≤ Y) : (b : Int) - y = X + 2 * (Y - z) := by
  rw [Int.sub_mul, Int.one_mul, Int.mul_comm] at hX
  have : ((u * v : Nat) : Int) = (u : Int) * v := Int.natCast_mul u v
  generalize (u : Int) * (v : Int) = w at *
  lia
theorem and_step (m n : Int) : Builtin.bitAnd m n = (m.fmod 2) * (n.fmod 2) + 2 * Builtin.bitAnd (m.fdiv 2) (n.fdiv 2) := by
  rw [Int.fmod_eq_emod_of_nonneg _ (by decide), Int.fmod_eq_emod_of_nonneg _ (by decide), Int.fdiv_eq_ediv_of_nonneg _ (by decide), Int.fdiv_eq_ediv_of_nonneg _ (by decide)]
  rcases sgn_of m with ⟨a, rfl⟩ | ⟨a, rfl⟩ <;> rcases sgn_of n with ⟨b, rfl⟩ | ⟨b, rfl⟩
  · show _ = ((a % 2 : Nat) : Int) * ((b % 2 : Nat) : Int) + 2 * Builtin.bitAnd ((a / 2 : Nat) : Int) ((b / 2 : Nat) : Int)
    rw [ba_pp, ba_pp, nat_and_step a b]; rfl
  · show _ = ((a % 2 : Nat) : Int) * _ + 2 * Builtin.bitAnd ((a / 2 : Nat) : Int) _
    rw [neg_half, neg_mod, ba_pn, ba_pn]
    exact and_np (Y := ((a / 2 : Nat) : Int)) (nat_and_step a b) (Int.mul_comm _ _) (Nat.mod_add_div a 2).symm (Int.natCast_nonneg _)
  · show _ = _ * ((b % 2 : Nat) : Int) + 2 * Builtin.bitAnd _ ((b / 2 : Nat) : Int)
    rw [neg_half, neg_mod, ba_np, ba_np]
    exact and_np (Y := ((b / 2 : Nat) : Int)) (nat_and_step b a) rfl (Nat.mod_add_div b 2).symm (Int.natCast_nonneg _)
  · rw [neg_half, neg_half, neg_mod, neg_mod, ba_nn, ba_nn]
    exact and_nn (nat_or_step a b) (or_bit a b)
section
section
variable {w : World} {n : Nat}
theorem abs_nat (m : Int) : (if m < 0 then -m else m) = (m.natAbs : Int) := by split <;> omega
theorem w_law_quotient {m k : Int} (hk : k ≠ 0) (hs : k.natAbs < 2 ^ 1000) : Does w (n + 2) 455 [.int m, .int k] (.ok (.int (m.fdiv k))) := by
  refine fnc_body (xs := ["m", "n"]) (ρ₀ := [("m", .fz (.int m)), ("n", .fz (.int k))]) (ho := by k_is) (hcd := by k_is) (hbind := by wtm_at "a2") (by decide +kernel) rfl (by decide +kernel) (by decide +kernel) rfl rfl rfl rfl ?_
  have h0 : k.natAbs ≠ 0 := Int.natAbs_ne_zero.mpr hk
  have h00 : 0 < k.natAbs := Nat.pos_of_ne_zero h0
  have hpy : Builtin.divisionGoesByPylong (m.natAbs : Int) (k.natAbs : Int) = false := PyProof.noPylong_of_log2 (by
    rw (occs := .all) [Int.natAbs_natCast]
    exact Nat.lt_trans ((Nat.log2_lt h0).mpr hs) (by decide))
  refine exs_cons (ex_assign2 ?_ (by omega))
  wtm_at "go"
  rw (occs := .all) [abs_nat, abs_nat]
  refine s_divmod (by clear hs; omega) hpy ?_
  have e2 : ((m.natAbs : Int)).fmod (k.natAbs : Int) = ((m.natAbs % k.natAbs : Nat) : Int) := by rw [Int.fmod_eq_emod_of_nonneg _ (by omega)]; rfl
  rw (occs := .all) [fdiv_nat, e2, quot_eq hk]
  refine ⟨_, _, rfl, _, _, by wtm_at "put", by wtm_at "put", ?_⟩
  generalize m.natAbs / k.natAbs = q
  generalize m.natAbs % k.natAbs = r
  wtm_at "go"
  refine .split2 beq_iff_eq.mp beq_eq_false_iff_ne.mp (fun h => ?_) (fun h => ?_)
  · rw (occs := .all) [if_pos h]
    wtm_at "go"
    rfl
  · rw (occs := .all) [if_neg h]
    wtm_at "go"
    refine .split2 of_decide_eq_true of_decide_eq_false (fun h => ?_) (fun h => ?_)
    · rw (occs := .all) [if_pos (by omega)]
      wtm_at "go"
      rfl
    · rw (occs := .all) [if_neg (by omega)]
      wtm_at "go"
      rfl
noncomputable abbrev Lbo (m k t wt : Int) : PEnv := [("m", .fz (.int m)), ("n", .fz (.int k)), ("total", .fz (.int t)), ("weight", .fz (.int wt))]
theorem small_in (x : Int) : (intD [PV.int 0, PV.int (-1)]).any (fun y => y == x) = decide (x = 0 ∨ x = -1) := by
  rw (occs := .all) [Bool.eq_iff_iff]
  simp only [intD, List.any_cons, List.any_nil, Bool.or_false, Bool.or_eq_true, beq_iff_eq, decide_eq_true_eq]
  exact or_congr eq_comm eq_comm
theorem w_law_both {m k : Int} : Does w (n + 1) 462 [.int m, .int k] (.ok (.int (Builtin.bitAnd m k))) := by
  refine fnc_body (xs := ["m", "n"]) (ρ₀ := [("m", .fz (.int m)), ("n", .fz (.int k))]) (ho := by k_is) (hcd := by k_is) (hbind := by wtm_at "a2") (by decide +kernel) rfl (by decide +kernel) (by decide +kernel) rfl rfl rfl rfl ?_
  wtm_at "go"
  refine ex_cut (fun ρ => ∃ a b t wt, Sub (Lbo a b t wt) ρ ∧ (a = 0 ∨ a = -1) ∧ (b = 0 ∨ b = -1) ∧ Builtin.bitAnd m k = t + wt * Builtin.bitAnd a b) (ex_while (whl_inv (fun z ρ => ∃ a b t wt, Sub (Lbo a b t wt) ρ ∧ Builtin.bitAnd m k = t + wt * Builtin.bitAnd a b ∧ z = a.natAbs + b.natAbs) ?_ _ _ ⟨m, k, 0, 1, by wtm_at "sub", by omega, rfl⟩)) (fun ρ => fx4 fun a b t wt => fn4 fun hs ha hb e => exs_sub hs ?_)
  · rintro z ρ ⟨a, b, t, wt, hs, e, rfl⟩
    refine evb_sub hs ?_
    have fin : (a = 0 ∨ a = -1) → (b = 0 ∨ b = -1) → ∃ a b t wt, Sub (Lbo a b t wt) (Lbo a b t wt) ∧ (a = 0 ∨ a = -1) ∧ (b = 0 ∨ b = -1) ∧ Builtin.bitAnd m k = t + wt * Builtin.bitAnd a b := fun h1 h2 => ⟨a, b, t, wt, by wtm_at "sub", h1, h2, e⟩
    have step : ¬ ((a = 0 ∨ a = -1) ∧ (b = 0 ∨ b = -1)) → (a.fdiv 2).natAbs + (b.fdiv 2).natAbs < a.natAbs + b.natAbs ∧ Builtin.bitAnd m k = (t + wt * a.fmod 2 * b.fmod 2) + 2 * wt * Builtin.bitAnd (a.fdiv 2) (b.fdiv 2) := fun h => by
      constructor
      · rw (occs := .all) [Int.fdiv_eq_ediv_of_nonneg _ (by decide), Int.fdiv_eq_ediv_of_nonneg _ (by decide)]; exact half_two h
      · rw (occs := .all) [e, and_step a b, Int.mul_add, Int.mul_assoc, ← Int.mul_assoc wt 2, Int.mul_comm wt 2]; omega
    wtm_at "go"
    rw (occs := .all) [small_in]
    refine .split2 of_decide_eq_true of_decide_eq_false (fun h => ?_) (fun h => ?_)
    · wtm_at "go"
      rw (occs := .all) [small_in]
      refine .split2 of_decide_eq_true of_decide_eq_false (fun h' => ?_) (fun h' => ?_)
      · wtm_at "go"
        exact ⟨a, b, t, wt, by wtm_at "sub", h, h', e⟩
      · obtain ⟨s1, s2⟩ := step (fun q => h' q.2)
        wtm_at "gd"
        refine s_mod (by decide) ?_
        wtm_at "go"
        refine s_mul (IntMulOk.of_right (intBits_le_64 (by have := Int.fmod_nonneg_of_pos a (by decide : (0:Int) < 2); omega) (by have := Int.fmod_lt_of_pos a (by decide : (0:Int) < 2); omega))) ?_
        wtm_at "go"
        refine s_mod (by decide) ?_
        wtm_at "go"
        refine s_mul (IntMulOk.of_right (intBits_le_64 (by have := Int.fmod_nonneg_of_pos b (by decide : (0:Int) < 2); omega) (by have := Int.fmod_lt_of_pos b (by decide : (0:Int) < 2); omega))) ?_
        wtm_at "go"
        refine s_div (by decide) (PyProof.noPylong_small (by decide)) ?_
        wtm_at "go"
        refine s_div (by decide) (PyProof.noPylong_small (by decide)) ?_
        wtm_at "go"
        refine s_mul (IntMulOk.of_left (by decide)) ?_
        wtm_at "go"
        exact ⟨_, s1, _, _, _, _, by wtm_at "sub", s2, rfl⟩
    · wtm_at "go"
      obtain ⟨s1, s2⟩ := step (fun q => h q.1)
      wtm_at "gd"
      refine s_mod (by decide) ?_
      wtm_at "go"
      refine s_mul (IntMulOk.of_right (intBits_le_64 (by have := Int.fmod_nonneg_of_pos a (by decide : (0:Int) < 2); omega) (by have := Int.fmod_lt_of_pos a (by decide : (0:Int) < 2); omega))) ?_
      wtm_at "go"
      refine s_mod (by decide) ?_
      wtm_at "go"
      refine s_mul (IntMulOk.of_right (intBits_le_64 (by have := Int.fmod_nonneg_of_pos b (by decide : (0:Int) < 2); omega) (by have := Int.fmod_lt_of_pos b (by decide : (0:Int) < 2); omega))) ?_
      wtm_at "go"
      refine s_div (by decide) (PyProof.noPylong_small (by decide)) ?_
      wtm_at "go"
      refine s_div (by decide) (PyProof.noPylong_small (by decide)) ?_
      wtm_at "go"
      refine s_mul (IntMulOk.of_left (by decide)) ?_
      wtm_at "go"
      exact ⟨_, s1, _, _, _, _, by wtm_at "sub", s2, rfl⟩
  · wtm_at "go"
    rcases ha with rfl | rfl
    · have z : Builtin.bitAnd 0 b = 0 := by rcases hb with rfl | rfl <;> decide
      wtm_at "gd"
      rw (occs := .all) [e, z]; simp
    · rcases hb with rfl | rfl
      · wtm_at "gd"
        rw (occs := .all) [e, show Builtin.bitAnd (-1) 0 = 0 from by decide]; simp
      · wtm_at "gd"
        rw (occs := .all) [e, show Builtin.bitAnd (-1) (-1) = -1 from by decide, show t + wt * -1 = t - wt by omega]
end
end
theorem lawOrd_sign : ∀ a b : List Nat, (lawOrd a b = 0 ↔ a = b) ∧ (lawOrd a b < 0 ↔ a < b)
  | [], [] => by simp [lawOrd]
  | [], b :: s => by simp [lawOrd]; omega
  | a :: r, [] => by simp [lawOrd]; omega
  | a :: r, b :: s => by
    obtain ⟨h1, h2⟩ := lawOrd_sign r s
    rw (occs := .all) [lawOrd, List.cons_lt_cons_iff]
    by_cases h : a = b
    · subst h
      rw (occs := .all) [if_pos rfl, h1, h2]
      simp
    · rw (occs := .all) [if_neg h]
      constructor
      · constructor
        · intro q; omega
        · intro q; cases q; exact absurd rfl h
      · constructor
        · intro q; left; omega
        · rintro (q | q)
          · omega
          · exact absurd q.1 h
theorem textOrd_sign (a b : List Nat) : (textOrd a b = 0 ↔ lawOrd a b = 0) ∧ (textOrd a b < 0 ↔ lawOrd a b < 0) := by
  obtain ⟨h1, h2⟩ := lawOrd_sign a b
  unfold textOrd
  rw (occs := .all) [h1, h2]
  by_cases h : a = b
  · subst h
    simp [List.lt_irrefl]
  · rw (occs := .all) [if_neg (by rw [mkS_inj]; exact h)]
    by_cases h' : a < b
    · rw (occs := .all) [if_pos h']; simp [h, h']
    · rw (occs := .all) [if_neg h']; simp [h, h']
theorem relV_sign (op : Str) {d e : Int} (h : (d = 0 ↔ e = 0) ∧ (d < 0 ↔ e < 0)) : relV op d = relV op e := by
  have b0 : (d == 0) = (e == 0) := by rw [Bool.eq_iff_iff, beq_iff_eq, beq_iff_eq]; exact h.1
  unfold relV
  rw (occs := .all) [b0, bne, b0, ← bne]
  have d1 : decide (d < 0) = decide (e < 0) := by simp [h.2]
  have d2 : decide (d ≤ 0) = decide (e ≤ 0) := decide_eq_decide.mpr (by omega)
  have d3 : decide (0 < d) = decide (0 < e) := decide_eq_decide.mpr (by omega)
  have d4 : decide (0 ≤ d) = decide (0 ≤ e) := decide_eq_decide.mpr (by omega)
  rw (occs := .all) [d1, d2, d3, d4]
section
section
variable {w : World} {n : Nat}
theorem lawOrd_step {a b : List Nat} {k x y : Nat} (ha : a[k]? = some x) (hb : b[k]? = some y) : lawOrd (a.drop k) (b.drop k) = if x = y then lawOrd (a.drop (k + 1)) (b.drop (k + 1)) else (x : Int) - y := by
  obtain ⟨h1, e1⟩ := List.getElem?_eq_some_iff.mp ha
  obtain ⟨h2, e2⟩ := List.getElem?_eq_some_iff.mp hb
  rw (occs := .all) [List.drop_eq_getElem_cons h1, List.drop_eq_getElem_cons h2, lawOrd, e1, e2]
theorem lawOrd_end {a b : List Nat} {k : Nat} (h : k = min a.length b.length) : lawOrd (a.drop k) (b.drop k) = (a.length : Int) - b.length := by
  rcases Nat.le_total a.length b.length with q | q
  · rw (occs := .all) [Nat.min_eq_left q] at h
    subst h
    rw (occs := .all) [List.drop_eq_nil_of_le (Nat.le_refl _)]
    cases e : b.drop a.length with
    | nil =>
      have := congrArg List.length e
      simp at this
      show ((0 : Nat) : Int) - ((0 : Nat) : Int) = _
      omega
    | cons c r =>
      have := congrArg List.length e
      simp at this
      show ((0 : Nat) : Int) - (((c :: r).length : Nat) : Int) = _
      simp; omega
  · rw (occs := .all) [Nat.min_eq_right q] at h
    subst h
    rw (occs := .all) [List.drop_eq_nil_of_le (Nat.le_refl b.length)]
    cases e : a.drop b.length with
    | nil =>
      have := congrArg List.length e
      simp at this
      show ((0 : Nat) : Int) - ((0 : Nat) : Int) = _
      omega
    | cons c r =>
      have := congrArg List.length e
      simp at this
      show (((c :: r).length : Nat) : Int) - ((0 : Nat) : Int) = _
      simp; omega
theorem w_law_order {a b : List Nat} (ha : a.length ≤ 1000) (hb : b.length ≤ 1000) : Does w (n + 2) 448 [.str (mkS a), .str (mkS b)] (.ok (.int (lawOrd a b))) := by
  refine fnc_body (xs := ["a", "b"]) (ρ₀ := [("a", .fz (.str (mkS a))), ("b", .fz (.str (mkS b)))]) (ho := by k_is) (hcd := by k_is) (hbind := by wtm_at "a2") (by decide +kernel) rfl (by decide +kernel) (by decide +kernel) rfl rfl rfl rfl ?_
  have ha' : a.length ≤ 1000000 := by omega
  have hb' : b.length ≤ 1000000 := by omega
  refine exs_cut (fun ρ => Sub [("a", .fz (.str (mkS a))), ("b", .fz (.str (mkS b)))] ρ ∧ lawOrd a b = (a.length : Int) - b.length) (ex_forR g_range ?_ (by omega)) (fun ρ => fn2 fun hs e => exs_sub hs ?_)
  · refine ev_callB (g := "min") (id := "min") g_min b_min ?_
    wtm_at "go"
    refine s_min2 (by omega) ?_
    refine ⟨_, rfl, by split <;> omega, by split <;> omega, ?_⟩
    have hN : (if (b.length : Int) < a.length then (b.length : Int) else a.length).toNat = min a.length b.length := by split <;> omega
    unfold rangeL
    rw (occs := .all) [hN, List.range_eq_range']
    clear hN
    refine frl_inv (fun items ρ => ∃ k, items = (List.range' k (min a.length b.length - k)).map (fun k : Nat => PV.int (k : Int)) ∧ k ≤ min a.length b.length ∧ Sub [("a", .fz (.str (mkS a))), ("b", .fz (.str (mkS b)))] ρ ∧ lawOrd a b = lawOrd (a.drop k) (b.drop k)) ?_ ?_ (by decide +kernel) _ _ ⟨0, rfl, Nat.zero_le _, by wtm_at "sub", rfl⟩
    · rintro ρ ⟨k, hi, hk, hs, e⟩
      have := congrArg List.length hi
      simp at this
      exact ⟨hs, by rw [e]; exact lawOrd_end (by omega)⟩
    · rintro p items ρ ⟨k, hi, hk, hs, e⟩
      obtain ⟨z, hz⟩ : ∃ z, min a.length b.length - k = z + 1 := by
        cases hq : min a.length b.length - k with
        | zero => rw (occs := .all) [hq] at hi; cases hi
        | succ z => exact ⟨z, rfl⟩
      rw (occs := .all) [hz, List.range'_succ] at hi
      cases hi
      have hka : k < a.length := Nat.lt_of_lt_of_le (sb2 hz) (Nat.min_le_left _ _)
      have hkb : k < b.length := Nat.lt_of_lt_of_le (sb2 hz) (Nat.min_le_right _ _)
      obtain ⟨x, hx⟩ : ∃ x, a[k]? = some x := ⟨a[k]'hka, List.getElem?_eq_getElem hka⟩
      obtain ⟨y, hy⟩ : ∃ y, b[k]? = some y := ⟨b[k]'hkb, List.getElem?_eq_getElem hkb⟩
      rw (occs := .all) [lawOrd_step hx hy] at e
      refine ⟨_, _, hs, by wtm_at "put", ?_⟩
      wtm_at "go"
      refine s_itemM rfl hx ha' (by intro _ _; with_unfolding_all rfl) (by intro _ _; with_unfolding_all rfl) ?_
      wtm_at "go"
      refine s_itemM rfl hy hb' (by intro _ _; with_unfolding_all rfl) (by intro _ _; with_unfolding_all rfl) ?_
      wtm_at "go"
      have hne : (ch x != ch y) = (x != y) := by rw [bne, bne, ch_beq]
      rw (occs := .all) [hne]
      refine .split2 bne_iff_ne.mp id (fun h => ?_) (fun h => ?_)
      · rw (occs := .all) [if_neg h] at e
        wtm_at "go"
        refine s_itemM rfl hx ha' (by intro _ _; with_unfolding_all rfl) (by intro _ _; with_unfolding_all rfl) ?_
        wtm_at "go"
        refine s_itemM rfl hy hb' (by intro _ _; with_unfolding_all rfl) (by intro _ _; with_unfolding_all rfl) ?_
        wtm_at "go"
        rw (occs := .all) [e]
      · have h : x = y := by simpa using h
        rw (occs := .all) [if_pos h] at e
        wtm_at "go"
        exact ⟨k + 1, by rw [show min a.length b.length - (k + 1) = z by omega], by omega, by wtm_at "sub", e⟩
  · wtm_at "go"
    rw (occs := .all) [e]
end
end
section
section
variable {w : World} {n : Nat}
noncomputable abbrev Llp (m k : Int) : PEnv := [("m", .fz (.int m)), ("n", .fz (.int k))]
theorem w_law_power {m k : Int} (hs : PowOk m k) (hm : m.natAbs < 2 ^ 198) : Does w (n + 2) 469 [.int m, .int k] (.ok (dueP (toR (powerV m k)))) := by
  refine fnc_body (xs := ["m", "n"]) (ρ₀ := Llp m k) (ho := by k_is) (hcd := by k_is) (hbind := by wtm_at "a2") (by decide +kernel) rfl (by decide +kernel) (by decide +kernel) rfl rfl rfl rfl ?_
  have one : ∀ {p : PV} {X : Exc → Prop} {i : Int}, i.natAbs ≤ 2 ^ 200 → p = dueP (wholeR i) → fnc w (n + 1) 399 [.int i] (fun q => Except.ok p = (.ok q : Except Exc PV)) X := fun hi e => does_ok (w_law_whole (n := 0) hi) (by omega) (by rw [e])
  refine exs_cutS (L := (Llp m k)) (P := ¬ (m = 0 ∧ k < 0)) ?_ (fun h1 => ?_)
  · wtm_at "go"
    refine .split2 of_decide_eq_true of_decide_eq_false (fun h => ?_) (fun h => ?_)
    · wtm_at "go"
      refine .split2 beq_iff_eq.mp beq_eq_false_iff_ne.mp (fun h' => ?_) (fun h' => ?_)
      · wtm_at "go"
        refine ev_call g_law_domain f_law_domain ?_ (by omega)
        wtm_at "go"
        refine does_ok (w_law_domain (n := 0)) (by omega) ?_
        unfold powerV
        rw (occs := .all) [if_neg (by omega), if_pos ⟨h', h⟩]; rfl
      · wtm_at "go"
        exact ⟨by wtm_at "sub", fun q => h' q.1⟩
    · wtm_at "go"
      exact ⟨by wtm_at "sub", fun q => h q.2⟩
  refine exs_cut (fun ρ => Sub (Llp m k) ρ ∧ 0 ≤ k ∧ k ≤ 4) ?_ (fun ρ => fn3 fun hs1 h2 h3 => exs_sub hs1 ?_)
  · wtm_at "go"
    refine .split2 of_decide_eq_true of_decide_eq_false (fun h => ?_) (fun h => ?_)
    · wtm_at "go"
      refine .split2 beq_iff_eq.mp beq_eq_false_iff_ne.mp (fun h4 => ?_) (fun h4 => ?_)
      · wtm_at "go"
        refine ev_call g_law_whole f_law_whole ?_ (by omega)
        wtm_at "go"
        refine s_mod (by decide) ?_
        wtm_at "go"
        refine s_mul (IntMulOk.of_left (by decide)) ?_
        wtm_at "go"
        have hv : powerV m k = .ok (1 - 2 * k.fmod 2) := by
          have h01 : k.fmod 2 = 0 ∨ k.fmod 2 = 1 := by
            rw (occs := .all) [Int.fmod_eq_emod_of_nonneg _ (by decide)]; omega
          unfold powerV
          rw (occs := .all) [if_neg (by omega), if_neg (by omega), if_neg (by omega), if_pos h4]
          rcases h01 with e | e <;> rw [e] <;> rfl
        rw (occs := .all) [hv]
        refine does_ok (w_law_whole (n := 0) ?_) (by omega) rfl
        have h01 : k.fmod 2 = 0 ∨ k.fmod 2 = 1 := by
          rw (occs := .all) [Int.fmod_eq_emod_of_nonneg _ (by decide)]; omega
        rcases h01 with e | e <;> rw [e] <;> decide
      · wtm_at "go"
        have hin : (intD [PV.int 0, PV.int 1]).any (fun y => y == m) = decide (m = 0 ∨ m = 1) := by
          rw (occs := .all) [Bool.eq_iff_iff]
          simp only [intD, List.any_cons, List.any_nil, Bool.or_false, Bool.or_eq_true, beq_iff_eq, decide_eq_true_eq]
          exact or_congr eq_comm eq_comm
        rw (occs := .all) [hin]
        have fin : ∀ {N : PEnv → Prop}, (m = 0 ∨ m = 1) ∨ k < 0 → powerV m k = .ok (if m = 1 then 1 else 0) := fun {_} q => by
          unfold powerV
          rw (occs := .all) [if_neg (by omega), if_neg (by omega)]
          by_cases hz : m = 0 ∨ m = 1
          · rw (occs := .all) [if_pos hz]
            rcases hz with rfl | rfl <;> rfl
          · rw (occs := .all) [if_neg hz, if_neg h4, if_pos (by omega), if_neg (by omega)]
        refine .split2 of_decide_eq_true of_decide_eq_false (fun h5 => ?_) (fun h5 => ?_)
        · wtm_at "go"
          rw (occs := .all) [fin (N := fun _ => True) (.inl h5)]
          refine ev_call g_law_whole f_law_whole ?_ (by omega)
          wtm_at "go"
          refine .split2 beq_iff_eq.mp beq_eq_false_iff_ne.mp (fun h6 => ?_) (fun h6 => ?_)
          · wtm_at "go"
            rw (occs := .all) [if_pos h6]
            exact does_ok (w_law_whole (n := 0) (by decide)) (by omega) rfl
          · wtm_at "go"
            rw (occs := .all) [if_neg h6]
            exact does_ok (w_law_whole (n := 0) (by decide)) (by omega) rfl
        · wtm_at "go"
          refine .split2 of_decide_eq_true of_decide_eq_false (fun h7 => ?_) (fun h7 => ?_)
          · wtm_at "go"
            rw (occs := .all) [fin (N := fun _ => True) (.inr h7)]
            refine ev_call g_law_whole f_law_whole ?_ (by omega)
            wtm_at "go"
            refine .split2 beq_iff_eq.mp beq_eq_false_iff_ne.mp (fun h6 => ?_) (fun h6 => ?_)
            · omega
            · wtm_at "go"
              rw (occs := .all) [if_neg h6]
              exact does_ok (w_law_whole (n := 0) (by decide)) (by omega) rfl
          · wtm_at "go"
            have h8 : 2 ^ 28 ≤ k := by
              rcases hs with q | q | q | q <;> omega
            have hv : powerV m k = .error powLarge := by
              unfold powerV
              rw (occs := .all) [if_neg (by omega), if_neg (by omega), if_neg h5, if_neg h4, if_neg h7, if_pos h8]
            rw (occs := .all) [hv]; rfl
    · wtm_at "go"
      refine .split2 of_decide_eq_true of_decide_eq_false (fun h' => ?_) (fun h' => ?_)
      · wtm_at "go"
        refine .split2 beq_iff_eq.mp beq_eq_false_iff_ne.mp (fun h4 => ?_) (fun h4 => ?_)
        · wtm_at "go"
          refine ev_call g_law_whole f_law_whole ?_ (by omega)
          wtm_at "go"
          refine s_mod (by decide) ?_
          wtm_at "go"
          refine s_mul (IntMulOk.of_left (by decide)) ?_
          wtm_at "go"
          have hv : powerV m k = .ok (1 - 2 * k.fmod 2) := by
            have h01 : k.fmod 2 = 0 ∨ k.fmod 2 = 1 := by
              rw (occs := .all) [Int.fmod_eq_emod_of_nonneg _ (by decide)]; omega
            unfold powerV
            rw (occs := .all) [if_neg (by omega), if_neg (by omega), if_neg (by omega), if_pos h4]
            rcases h01 with e | e <;> rw [e] <;> rfl
          rw (occs := .all) [hv]
          refine does_ok (w_law_whole (n := 0) ?_) (by omega) rfl
          have h01 : k.fmod 2 = 0 ∨ k.fmod 2 = 1 := by
            rw (occs := .all) [Int.fmod_eq_emod_of_nonneg _ (by decide)]; omega
          rcases h01 with e | e <;> rw [e] <;> decide
        · wtm_at "go"
          have hin : (intD [PV.int 0, PV.int 1]).any (fun y => y == m) = decide (m = 0 ∨ m = 1) := by
            rw (occs := .all) [Bool.eq_iff_iff]
            simp only [intD, List.any_cons, List.any_nil, Bool.or_false, Bool.or_eq_true, beq_iff_eq, decide_eq_true_eq]
            exact or_congr eq_comm eq_comm
          rw (occs := .all) [hin]
          have fin : ∀ {N : PEnv → Prop}, (m = 0 ∨ m = 1) ∨ k < 0 → powerV m k = .ok (if m = 1 then 1 else 0) := fun {_} q => by
            unfold powerV
            rw (occs := .all) [if_neg (by omega), if_neg (by omega)]
            by_cases hz : m = 0 ∨ m = 1
            · rw (occs := .all) [if_pos hz]
              rcases hz with rfl | rfl <;> rfl
            · rw (occs := .all) [if_neg hz, if_neg h4, if_pos (by omega), if_neg (by omega)]
          refine .split2 of_decide_eq_true of_decide_eq_false (fun h5 => ?_) (fun h5 => ?_)
          · wtm_at "go"
            rw (occs := .all) [fin (N := fun _ => True) (.inl h5)]
            refine ev_call g_law_whole f_law_whole ?_ (by omega)
            wtm_at "go"
            refine .split2 beq_iff_eq.mp beq_eq_false_iff_ne.mp (fun h6 => ?_) (fun h6 => ?_)
            · wtm_at "go"
              rw (occs := .all) [if_pos h6]
              exact does_ok (w_law_whole (n := 0) (by decide)) (by omega) rfl
            · wtm_at "go"
              rw (occs := .all) [if_neg h6]
              exact does_ok (w_law_whole (n := 0) (by decide)) (by omega) rfl
          · wtm_at "go"
            refine .split2 of_decide_eq_true of_decide_eq_false (fun h7 => ?_) (fun h7 => ?_)
            · wtm_at "go"
              rw (occs := .all) [fin (N := fun _ => True) (.inr h7)]
              refine ev_call g_law_whole f_law_whole ?_ (by omega)
              wtm_at "go"
              refine .split2 beq_iff_eq.mp beq_eq_false_iff_ne.mp (fun h6 => ?_) (fun h6 => ?_)
              · omega
              · wtm_at "go"
                rw (occs := .all) [if_neg h6]
                exact does_ok (w_law_whole (n := 0) (by decide)) (by omega) rfl
            · wtm_at "go"
              have h8 : 2 ^ 28 ≤ k := by
                rcases hs with q | q | q | q <;> omega
              have hv : powerV m k = .error powLarge := by
                unfold powerV
                rw (occs := .all) [if_neg (by omega), if_neg (by omega), if_neg h5, if_neg h4, if_neg h7, if_pos h8]
              rw (occs := .all) [hv]; rfl
      · wtm_at "go"
        exact ⟨by wtm_at "sub", by omega, by omega⟩
  · obtain ⟨j, rfl⟩ : ∃ j : Nat, k = j := ⟨k.toNat, by omega⟩
    have hj : j ≤ 4 := by omega
    have hm36 : m.natAbs < 2 ^ 36 := by
      rcases hs with q | q | q | q
      · omega
      · omega
      · omega
      · exact q.2
    have hp : powerV m j = .ok (m ^ j) := by
      unfold powerV
      have : j = 0 ∨ j = 1 ∨ j = 2 ∨ j = 3 ∨ j = 4 := by omega
      by_cases h0 : m = 0
      · subst h0; rcases this with rfl | rfl | rfl | rfl | rfl <;> rfl
      by_cases h1 : m = 1
      · subst h1; rcases this with rfl | rfl | rfl | rfl | rfl <;> rfl
      by_cases h4 : m = -1
      · subst h4; rcases this with rfl | rfl | rfl | rfl | rfl <;> rfl
      by_cases hz : (j : Int) = 0
      · rw (occs := .all) [if_pos hz]
        have : j = 0 := by omega
        subst this; rw [Int.pow_zero]
      rw (occs := .all) [if_neg hz, if_neg (by omega), if_neg (by omega), if_neg h4, if_neg (by omega), if_neg (by omega)]; rfl
    have hpb : ∀ i ≤ 4, (m ^ i).natAbs < 2 ^ 145 := fun i hi => pow_up (lt_of_bits (intBits_pow_le (bits_lt hm36) i)) (by omega)
    wtm_at "go"
    refine ex_cut (fun ρ => Sub [("total", .fz (.int (m ^ j)))] ρ) (ex_forR g_range ?_ (by omega)) (fun ρ hs => exs_sub hs ?_)
    · wtm_at "go"
      refine ⟨_, rfl, by omega, by omega, ?_⟩
      unfold rangeL
      rw (occs := .all) [Int.toNat_natCast, List.range_eq_range']
      refine frl_inv (fun items ρ => ∃ (i : Nat) (t : Int), t = m ^ i ∧ items = (List.range' i (j - i)).map (fun k : Nat => PV.int (k : Int)) ∧ i ≤ j ∧ Sub [("m", .fz (.int m)), ("total", .fz (.int t))] ρ) ?_ ?_ (by decide +kernel) _ _ ⟨0, 1, (Int.pow_zero m).symm, rfl, Nat.zero_le _, by wtm_at "sub"⟩
      · rintro ρ ⟨i, t, ht, hi, hk, hs⟩
        have := congrArg List.length hi
        simp at this
        have hij : i = j := by omega
        subst hij ht
        cases hs with | cons _ hs => exact hs
      · rintro p items ρ ⟨i, t, ht, hi, hk, hs⟩
        obtain ⟨z, hz⟩ : ∃ z, j - i = z + 1 := by
          cases hq : j - i with
          | zero => rw (occs := .all) [hq] at hi; cases hi
          | succ z => exact ⟨z, rfl⟩
        rw (occs := .all) [hz, List.range'_succ] at hi
        cases hi
        refine ⟨_, _, hs, by wtm_at "put", ?_⟩
        wtm_at "go"
        refine s_mul (mul_ok (by rw [ht]; exact pow_up (hpb i (by omega)) (by decide)) (pow_up hm (by decide))) ?_
        wtm_at "go"
        exact ⟨i + 1, t * m, by rw [ht, Int.pow_succ], by rw [show j - (i + 1) = z by omega], by omega, by wtm_at "sub"⟩
    · wtm_at "go"
      refine ev_call g_law_whole f_law_whole ?_ (by omega)
      wtm_at "go"
      exact does_ok (w_law_whole (n := 0) (Nat.le_of_lt (pow_up (hpb j hj) (by decide)))) (by omega) (by rw [hp]; rfl)
end
end
section
section
variable {w : World} {n : Nat}
noncomputable abbrev Lls (op : Str) (m k : Int) : PEnv := [("op", .fz (.str op)), ("m", .fz (.int m)), ("n", .fz (.int k))]
theorem fdiv_far {m : Int} {a b : Nat} (hm : m.natAbs < 2 ^ a) (hab : a ≤ b) : m.fdiv (2 ^ b) = if m < 0 then -1 else 0 := by
  have h := pow_up hm hab
  rw (occs := .all) [Int.fdiv_eq_ediv_of_nonneg _ (Int.le_of_lt (Int.pow_pos (by decide)))]
  obtain ⟨P, hP⟩ : ∃ P : Nat, P = 2 ^ b := ⟨_, rfl⟩
  have e : (2 : Int) ^ b = (P : Int) := by rw [hP]; simp
  rw (occs := .all) [← hP] at h
  rw (occs := .all) [e]
  have hp : (0 : Int) < P := by omega
  split
  · exact ((Int.ediv_emod_unique (r := m + P) (q := -1) hp).mpr ⟨by omega, by omega, by omega⟩).1
  · exact Int.ediv_eq_zero_of_lt (by omega) (by omega)
theorem w_law_shift {op : Str} {m k : Int} (hs : ¬ op = S ">>" → ShlOk m k) (hm : m.natAbs < 2 ^ 198) : Does w (n + 3) 476 [.str op, .int m, .int k] (.ok (dueP (toR (if op = S ">>" then shrV m k else shlV m k)))) := by
  refine fnc_body (xs := ["op", "m", "n"]) (ρ₀ := Lls op m k) (ho := by k_is) (hcd := by k_is) (hbind := by wtm_at "a3") (by decide +kernel) rfl (by decide +kernel) (by decide +kernel) rfl rfl rfl rfl ?_
  refine exs_cutS (L := (Lls op m k)) (P := ¬ k < 0) ?_ (fun h1 => ?_)
  · wtm_at "go"
    refine .split2 of_decide_eq_true of_decide_eq_false (fun h => ?_) (fun h => ?_)
    · wtm_at "go"
      refine ev_call g_law_domain f_law_domain ?_ (by omega)
      wtm_at "go"
      refine does_ok (w_law_domain (n := 0)) (by omega) ?_
      unfold shrV shlV
      rw (occs := .all) [if_pos h, if_pos h]
      split <;> rfl
    · wtm_at "go"
      exact ⟨by wtm_at "sub", h⟩
  refine exs_cutS (L := (Lls op m k)) (P := ¬ op = S ">>") ?_ (fun h2 => ?_)
  · wtm_at "go"
    refine .split2 beq_iff_eq.mp beq_eq_false_iff_ne.mp (fun h => ?_) (fun h => ?_)
    · rw (occs := .all) [if_pos h]
      wtm_at "go"
      refine ev_call g_law_whole f_law_whole ?_ (by omega)
      refine evs_cons ?_
      refine ev_call g_law_quotient f_law_quotient ?_ (by omega)
      wtm_at "go"
      refine ev_callB (g := "min") (id := "min") g_min b_min ?_
      wtm_at "go"
      refine s_min2 (by omega) ?_
      obtain ⟨j, hj, hj1⟩ : ∃ j : Nat, (if (300 : Int) < k then (300 : Int) else k) = (j : Int) ∧ j = min k.toNat 300 := ⟨min k.toNat 300, by split <;> omega, rfl⟩
      rw (occs := .all) [hj]
      refine s_pow2 (by omega) (by omega) ?_
      rw (occs := .all) [Int.toNat_natCast]
      wtm_at "go"
      have hP : (2 : Int) ^ j ≠ 0 := Int.ne_of_gt (Int.pow_pos (by decide))
      have hPl : ((2 : Int) ^ j).natAbs < 2 ^ 1000 := by rw [Int.natAbs_pow]; exact Nat.pow_lt_pow_right (by decide) (by omega)
      refine does_ok (w_law_quotient (n := 0) hP hPl) (by omega) ?_
      wtm_at "go"
      refine does_ok (w_law_whole (n := 0) (Nat.le_of_lt (pow_up (Nat.lt_of_le_of_lt (natAbs_fdiv_le m _) hm) (by decide)))) (by omega) ?_
      have e : shrV m k = .ok (m.fdiv (2 ^ j)) := by
        unfold shrV
        rw (occs := .all) [if_neg h1]
        split
        · rw (occs := .all) [fdiv_far hm (by omega)]
        · by_cases h3 : k.toNat ≤ 300
          · rw (occs := .all) [show j = k.toNat by omega]
          · rw (occs := .all) [fdiv_far hm (by omega), fdiv_far hm (by omega)]
      rw (occs := .all) [e]; rfl
    · wtm_at "go"
      exact ⟨by wtm_at "sub", h⟩
  rw (occs := .all) [if_neg h2]
  have hs := hs h2
  refine exs_cutS (L := (Lls op m k)) (P := (m = 0 ∨ k < 2 ^ 31)) ?_ (fun h3 => ?_)
  · wtm_at "go"
    rw (occs := .all) [p31]
    refine .split2 of_decide_eq_true of_decide_eq_false (fun h => ?_) (fun h => ?_)
    · wtm_at "go"
      refine .split2 bne_iff_ne.mp id (fun h' => ?_) (fun h' => ?_)
      · wtm_at "go"
        unfold shlV
        rw (occs := .all) [if_neg h1, if_neg h', if_pos h]; rfl
      · have h' : m = 0 := by simpa using h'
        wtm_at "go"
        exact ⟨by wtm_at "sub", .inl h'⟩
    · wtm_at "go"
      exact ⟨by wtm_at "sub", .inr (by omega)⟩
  wtm_at "go"
  refine ev_call g_law_whole f_law_whole ?_ (by omega)
  wtm_at "go"
  refine .split2 bne_iff_ne.mp id (fun h' => ?_) (fun h' => ?_)
  · have h6 : k ≤ 64 ∧ m.natAbs < 2 ^ 80 := by
      rcases hs with q | q | q | q
      · omega
      · omega
      · omega
      · exact q
    wtm_at "go"
    refine s_pow2 (by omega) (by omega) ?_
    wtm_at "go"
    refine s_mul (mul_ok (pow_up hm (by decide)) (by rw [Int.natAbs_pow]; exact Nat.pow_lt_pow_right (by decide) (by omega))) ?_
    wtm_at "go"
    have e : shlV m k = .ok (m * 2 ^ k.toNat) := by
      unfold shlV
      rw (occs := .all) [if_neg h1, if_neg h', if_neg (by omega)]
    rw (occs := .all) [e]
    refine does_ok (w_law_whole (n := 0) ?_) (by omega) rfl
    exact Nat.le_of_lt (pow_up (shl_small (B := 145) hs (by decide) e) (by decide))
  · have h' : m = 0 := by simpa using h'
    wtm_at "go"
    have e : shlV m k = .ok 0 := by
      unfold shlV
      rw (occs := .all) [if_neg h1, if_pos h']
    rw (occs := .all) [e]
    exact does_ok (w_law_whole (n := 0) (by decide)) (by omega) rfl
end
end
section
section
variable {w : World} {n : Nat}
theorem ar_div {m k : Int} : arithV (S "/") m k = if k = 0 then .error divZero else .ok (m.fdiv k) := by
  unfold arithV
  rw (occs := .all) [if_neg (by decide +kernel), if_neg (by decide +kernel), if_neg (by decide +kernel), if_pos rfl]
theorem ar_mod {m k : Int} : arithV (S "%") m k = if k = 0 then .error divZero else .ok (m.fmod k) := by
  unfold arithV
  rw (occs := .all) [if_neg (by decide +kernel), if_neg (by decide +kernel), if_neg (by decide +kernel), if_neg (by decide +kernel), if_pos rfl]
theorem ar_pow {m k : Int} : arithV (S "**") m k = powerV m k := by
  unfold arithV
  rw (occs := .all) [if_neg (by decide +kernel), if_neg (by decide +kernel), if_neg (by decide +kernel), if_neg (by decide +kernel), if_neg (by decide +kernel), if_pos rfl]
theorem ar_shl {m k : Int} : arithV (S "<<") m k = shlV m k := by
  unfold arithV
  rw (occs := .all) [if_neg (by decide +kernel), if_neg (by decide +kernel), if_neg (by decide +kernel), if_neg (by decide +kernel), if_neg (by decide +kernel), if_neg (by decide +kernel), if_pos rfl]
theorem ar_shr {m k : Int} : arithV (S ">>") m k = shrV m k := by
  unfold arithV
  rw (occs := .all) [if_neg (by decide +kernel), if_neg (by decide +kernel), if_neg (by decide +kernel), if_neg (by decide +kernel), if_neg (by decide +kernel), if_neg (by decide +kernel), if_neg (by decide +kernel), if_pos rfl]
theorem ar_and {m k : Int} : arithV (S "&") m k = .ok (Builtin.bitAnd m k) := by
  unfold arithV
  rw (occs := .all) [if_neg (by decide +kernel), if_neg (by decide +kernel), if_neg (by decide +kernel), if_neg (by decide +kernel), if_neg (by decide +kernel), if_neg (by decide +kernel), if_neg (by decide +kernel), if_neg (by decide +kernel), if_pos rfl]
theorem ar_or {m k : Int} : arithV (S "|") m k = .ok (Builtin.bitOr m k) := by
  unfold arithV
  rw (occs := .all) [if_neg (by decide +kernel), if_neg (by decide +kernel), if_neg (by decide +kernel), if_neg (by decide +kernel), if_neg (by decide +kernel), if_neg (by decide +kernel), if_neg (by decide +kernel), if_neg (by decide +kernel), if_neg (by decide +kernel), if_pos rfl]
theorem ar_xor {m k : Int} : arithV (S "^") m k = .ok (Builtin.bitXor m k) := by
  unfold arithV
  rw (occs := .all) [if_neg (by decide +kernel), if_neg (by decide +kernel), if_neg (by decide +kernel), if_neg (by decide +kernel), if_neg (by decide +kernel), if_neg (by decide +kernel), if_neg (by decide +kernel), if_neg (by decide +kernel), if_neg (by decide +kernel), if_neg (by decide +kernel)]
theorem ar_add {m k : Int} : arithV (S "+") m k = .ok (m + k) := by
  unfold arithV
  rw (occs := .all) [if_pos rfl]
theorem ar_sub {m k : Int} : arithV (S "-") m k = .ok (m - k) := by
  unfold arithV
  rw (occs := .all) [if_neg (by decide +kernel), if_pos rfl]
theorem ar_mul {m k : Int} : arithV (S "*") m k = .ok (m * k) := by
  unfold arithV
  rw (occs := .all) [if_neg (by decide +kernel), if_neg (by decide +kernel), if_pos rfl]
noncomputable abbrev Lla (op : Str) (m k : Int) : PEnv := [("op", .fz (.str op)), ("m", .fz (.int m)), ("n", .fz (.int k))]
theorem w_law_arithmetic {op : Str} {m k : Int} (hop : op ∈ arOps) (hm : m.natAbs < 2 ^ 185) (hk : k.natAbs < 2 ^ 185)
    (hs : (op = S "**" → PowOk m k) ∧ (op = S "<<" → ShlOk m k) ∧ (op = S "*" → m.natAbs < 2 ^ 70 ∧ k.natAbs < 2 ^ 70)) : Does w (n + 4) 483 [.str op, .int m, .int k] (.ok (dueP (toR (arithV op m k)))) := by
  refine fnc_body (xs := ["op", "m", "n"]) (ρ₀ := Lla op m k) (ho := by k_is) (hcd := by k_is) (hbind := by wtm_at "a3") (by decide +kernel) rfl (by decide +kernel) (by decide +kernel) rfl rfl rfl rfl ?_
  have hsm : ∀ {i}, arithV op m k = .ok i → i.natAbs ≤ 2 ^ 200 := fun e => Nat.le_of_lt (pow_up (arith_small (by decide) hm hk hs e) (by decide))
  have hm' := pow_up hm (by decide : 185 ≤ 1000)
  have hk' := pow_up hk (by decide : 185 ≤ 1000)
  have one : ∀ {i : Int} {X : Exc → Prop}, arithV op m k = .ok i → fnc w (n + 3) 399 [.int i] (fun q => Except.ok (dueP (toR (arithV op m k))) = (.ok q : Except Exc PV)) X := fun e => does_ok (w_law_whole (n := 0) (hsm e)) (by omega) (by rw [e]; rfl)
  refine exs_cutS (L := (Lla op m k)) (P := ¬ (op = S "/" ∨ op = S "%")) ?_ (fun h1 => ?_)
  · wtm_at "go"
    rw (occs := .all) [any_mem]
    refine .split (fun h => ?_) (fun h => ?_)
    · have h : op ∈ [S "/", S "%"] := of_decide_eq_true h
      simp only [List.mem_cons, List.not_mem_nil, or_false] at h
      refine exs_cutS (L := (Lla op m k)) (P := ¬ k = 0) ?_ (fun h2 => ?_)
      · wtm_at "go"
        refine .split2 beq_iff_eq.mp beq_eq_false_iff_ne.mp (fun h' => ?_) (fun h' => ?_)
        · wtm_at "go"
          have e : arithV op m k = .error divZero := by
            rcases h with rfl | rfl
            · rw (occs := .all) [ar_div, if_pos h']
            · rw (occs := .all) [ar_mod, if_pos h']
          rw (occs := .all) [e]; rfl
        · wtm_at "go"
          exact ⟨by wtm_at "sub", h'⟩
      wtm_at "go"
      refine ev_call g_law_quotient f_law_quotient ?_ (by omega)
      wtm_at "go"
      refine does_ok (w_law_quotient (n := 0) h2 hk') (by omega) ?_
      wtm_at "go"
      refine ev_call g_law_whole f_law_whole ?_ (by omega)
      wtm_at "go"
      refine .split2 beq_iff_eq.mp beq_eq_false_iff_ne.mp (fun h' => ?_) (fun h' => ?_)
      · wtm_at "go"
        exact one (by rw [h']; exact ar_div.trans (if_neg h2))
      · wtm_at "go"
        refine s_mul (mul_ok (Nat.lt_of_le_of_lt (natAbs_fdiv_le m _) hm') hk') ?_
        wtm_at "go"
        have h3 : op = S "%" := h.resolve_left h'
        refine one ?_
        rw (occs := .all) [h3, ar_mod, if_neg h2, Int.fmod_def, Int.mul_comm]
    · have h : ¬ op ∈ [S "/", S "%"] := of_decide_eq_false h
      simp only [List.mem_cons, List.not_mem_nil, or_false] at h
      wtm_at "go"
      exact ⟨by wtm_at "sub", h⟩
  refine exs_cutS (L := (Lla op m k)) (P := ¬ op = S "**") ?_ (fun h2 => ?_)
  · wtm_at "go"
    refine .split2 beq_iff_eq.mp beq_eq_false_iff_ne.mp (fun h => ?_) (fun h => ?_)
    · wtm_at "go"
      refine ev_call g_law_power f_law_power ?_ (by omega)
      wtm_at "go"
      refine does_ok (w_law_power (n := 0) (hs.1 h) (pow_up hm (by decide))) (by omega) ?_
      rw (occs := .all) [h]; rw [ar_pow]
    · wtm_at "go"
      exact ⟨by wtm_at "sub", h⟩
  refine exs_cutS (L := (Lla op m k)) (P := ¬ (op = S "<<" ∨ op = S ">>")) ?_ (fun h3 => ?_)
  · wtm_at "go"
    rw (occs := .all) [any_mem]
    refine .split (fun h => ?_) (fun h => ?_)
    · have h : op ∈ [S "<<", S ">>"] := of_decide_eq_true h
      simp only [List.mem_cons, List.not_mem_nil, or_false] at h
      wtm_at "go"
      refine ev_call g_law_shift f_law_shift ?_ (by omega)
      wtm_at "go"
      refine does_ok (w_law_shift (n := 0) (fun q => hs.2.1 (h.resolve_right q)) (pow_up hm (by decide))) (by omega) ?_
      rcases h with rfl | rfl
      · rw (occs := .all) [if_neg (by decide +kernel), ar_shl]
      · rw (occs := .all) [if_pos rfl, ar_shr]
    · have h : ¬ op ∈ [S "<<", S ">>"] := of_decide_eq_false h
      simp only [List.mem_cons, List.not_mem_nil, or_false] at h
      wtm_at "go"
      exact ⟨by wtm_at "sub", h⟩
  refine exs_cutS (L := (Lla op m k)) (P := ¬ (op = S "&" ∨ op = S "|" ∨ op = S "^")) ?_ (fun h4 => ?_)
  · wtm_at "go"
    rw (occs := .all) [any_mem]
    refine .split (fun h => ?_) (fun h => ?_)
    · have h : op ∈ [S "&", S "|", S "^"] := of_decide_eq_true h
      simp only [List.mem_cons, List.not_mem_nil, or_false] at h
      wtm_at "go"
      refine ev_call g_law_both f_law_both ?_ (by omega)
      wtm_at "go"
      refine does_ok (w_law_both (n := 0)) (by omega) ?_
      wtm_at "go"
      refine ev_call g_law_whole f_law_whole ?_ (by omega)
      wtm_at "gd"
      refine s_mul (IntMulOk.of_left (by decide)) ?_
      wtm_at "gd"
      refine ⟨rfl, rfl, by simp only [List.map_cons, List.map_nil]; decide +kernel, ?_⟩
      wtm_at "go"
      have key : ∃ v, List.lookup op [(Str.ofString "&", PV.int (Builtin.bitAnd m k)), (Str.ofString "|", PV.int (m + k - Builtin.bitAnd m k)), (Str.ofString "^", PV.int (m + k - 2 * Builtin.bitAnd m k))] = some (.int v) ∧ arithV op m k = .ok v := by
        rcases h with rfl | rfl | rfl
        · exact ⟨_, rfl, ar_and⟩
        · exact ⟨_, rfl, by rw [ar_or, bitOr_and]⟩
        · exact ⟨_, rfl, by rw [ar_xor, bitXor_and]⟩
      obtain ⟨v, hv, e⟩ := key
      refine ⟨_, op_itemD hv, ?_⟩
      wtm_at "go"
      exact one e
    · have h : ¬ op ∈ [S "&", S "|", S "^"] := of_decide_eq_false h
      simp only [List.mem_cons, List.not_mem_nil, or_false] at h
      wtm_at "go"
      exact ⟨by wtm_at "sub", h⟩
  wtm_at "go"
  refine ev_call g_law_whole f_law_whole ?_ (by omega)
  wtm_at "gd"
  refine s_mul (mul_ok hm' hk') ?_
  wtm_at "gd"
  refine ⟨rfl, rfl, by simp only [List.map_cons, List.map_nil]; decide +kernel, ?_⟩
  wtm_at "go"
  have key : ∃ v, List.lookup op [(Str.ofString "+", PV.int (m + k)), (Str.ofString "-", PV.int (m - k)), (Str.ofString "*", PV.int (m * k))] = some (.int v) ∧ arithV op m k = .ok v := by
    simp only [arOps, List.mem_cons, List.not_mem_nil, or_false] at hop
    rcases hop with q | q | q | q | q | q | q | q | q | q | q
    · exact ⟨_, by rw [q]; rfl, by rw [q]; exact ar_add⟩
    · exact ⟨_, by rw [q]; rfl, by rw [q]; exact ar_sub⟩
    · exact ⟨_, by rw [q]; rfl, by rw [q]; exact ar_mul⟩
    · exact absurd (.inl q) h1
    · exact absurd (.inr q) h1
    · exact absurd q h2
    · exact absurd (.inl q) h3
    · exact absurd (.inr q) h3
    · exact absurd (.inl q) h4
    · exact absurd (.inr (.inl q)) h4
    · exact absurd (.inr (.inr q)) h4
  obtain ⟨v, hv, e⟩ := key
  refine ⟨_, op_itemD hv, ?_⟩
  wtm_at "go"
  exact one e
end
end
section
section
variable {w : World} {n : Nat}
theorem place_num : ∀ op ∈ numOps, ∃ i : Nat, [S "==", S "!=", S "<", S ">", S "<=", S ">="].findIdx? (· == op) = some i ∧ i < 6 ∧ ∀ d : Int, [PV.bool (d == 0), .bool (d != 0), .bool (decide (d < 0)), .bool (decide (0 < d)), .bool (decide (d ≤ 0)), .bool (decide (0 ≤ d))][i]? = some (.bool (relV op d)) := by
  intro op h
  simp only [numOps, List.mem_cons, List.not_mem_nil, or_false] at h
  rcases h with rfl | rfl | rfl | rfl | rfl | rfl
  · exact ⟨0, by decide +kernel, by decide, fun d => by unfold relV; rw [if_pos (by decide +kernel)]; rfl⟩
  · exact ⟨1, by decide +kernel, by decide, fun d => by unfold relV; rw [if_neg (by decide +kernel), if_pos (by decide +kernel)]; rfl⟩
  · exact ⟨2, by decide +kernel, by decide, fun d => by unfold relV; rw [if_neg (by decide +kernel), if_neg (by decide +kernel), if_pos (by decide +kernel)]; rfl⟩
  · exact ⟨4, by decide +kernel, by decide, fun d => by unfold relV; rw [if_neg (by decide +kernel), if_neg (by decide +kernel), if_neg (by decide +kernel), if_pos (by decide +kernel)]; rfl⟩
  · exact ⟨3, by decide +kernel, by decide, fun d => by unfold relV; rw [if_neg (by decide +kernel), if_neg (by decide +kernel), if_neg (by decide +kernel), if_neg (by decide +kernel), if_pos (by decide +kernel)]; rfl⟩
  · exact ⟨5, by decide +kernel, by decide, fun d => by unfold relV; rw [if_neg (by decide +kernel), if_neg (by decide +kernel), if_neg (by decide +kernel), if_neg (by decide +kernel), if_neg (by decide +kernel)]; rfl⟩
theorem place_txt : ∀ op ∈ txtOps, ∃ i : Nat, [S "eq", S "ne", S "lt", S "gt", S "le", S "ge"].findIdx? (· == op) = some i ∧ i < 6 ∧ ∀ d : Int, [PV.bool (d == 0), .bool (d != 0), .bool (decide (d < 0)), .bool (decide (0 < d)), .bool (decide (d ≤ 0)), .bool (decide (0 ≤ d))][i]? = some (.bool (relV op d)) := by
  intro op h
  simp only [txtOps, List.mem_cons, List.not_mem_nil, or_false] at h
  rcases h with rfl | rfl | rfl | rfl | rfl | rfl
  · exact ⟨0, by decide +kernel, by decide, fun d => by unfold relV; rw [if_pos (by decide +kernel)]; rfl⟩
  · exact ⟨1, by decide +kernel, by decide, fun d => by unfold relV; rw [if_neg (by decide +kernel), if_pos (by decide +kernel)]; rfl⟩
  · exact ⟨2, by decide +kernel, by decide, fun d => by unfold relV; rw [if_neg (by decide +kernel), if_neg (by decide +kernel), if_pos (by decide +kernel)]; rfl⟩
  · exact ⟨4, by decide +kernel, by decide, fun d => by unfold relV; rw [if_neg (by decide +kernel), if_neg (by decide +kernel), if_neg (by decide +kernel), if_pos (by decide +kernel)]; rfl⟩
  · exact ⟨3, by decide +kernel, by decide, fun d => by unfold relV; rw [if_neg (by decide +kernel), if_neg (by decide +kernel), if_neg (by decide +kernel), if_neg (by decide +kernel), if_pos (by decide +kernel)]; rfl⟩
  · exact ⟨5, by decide +kernel, by decide, fun d => by unfold relV; rw [if_neg (by decide +kernel), if_neg (by decide +kernel), if_neg (by decide +kernel), if_neg (by decide +kernel), if_neg (by decide +kernel)]; rfl⟩
theorem dis_txt : ∀ op ∈ txtOps, ¬ op ∈ numOps := by decide +kernel
theorem dis_in : ∀ op ∈ inOps, ¬ op ∈ numOps ∧ ¬ op ∈ txtOps := by decide +kernel
theorem mem_num {op : Str} : decide (op ∈ [S "==", S "!=", S "<", S ">", S "<=", S ">="]) = decide (op ∈ numOps) := by
  rw (occs := .all) [decide_eq_decide]
  simp only [numOps, List.mem_cons, List.not_mem_nil, or_false]
  constructor <;> (rintro (h | h | h | h | h | h) <;> simp only [h, true_or, or_true])
theorem mem_txt {op : Str} : decide (op ∈ [S "eq", S "ne", S "lt", S "gt", S "le", S "ge"]) = decide (op ∈ txtOps) := by
  rw (occs := .all) [decide_eq_decide]
  simp only [txtOps, List.mem_cons, List.not_mem_nil, or_false]
  constructor <;> (rintro (h | h | h | h | h | h) <;> simp only [h, true_or, or_true])
noncomputable abbrev vP (a : List Nat) (j : Option Int) : PV := .tup [.str (S ""), .str (mkS a), optI j]
noncomputable abbrev Llb (op : Str) (a b : List Nat) (j k : Option Int) : PEnv := [("op", .fz (.str op)), ("left", .fz (vP a j)), ("right", .fz (vP b k))]
noncomputable abbrev Llc (op : Str) (a b : List Nat) (j k : Option Int) : PEnv := [("op", .fz (.str op)), ("left", .fz (vP a j)), ("right", .fz (vP b k)), ("numbers", .fz (.tup [.str (S "=="), .str (S "!="), .str (S "<"), .str (S ">"), .str (S "<="), .str (S ">=")])), ("texts", .fz (.tup [.str (S "eq"), .str (S "ne"), .str (S "lt"), .str (S "gt"), .str (S "le"), .str (S "ge")]))]
noncomputable def arB (op : Str) (a b : List Nat) : Option Int → Option Int → Res
  | none, _ => noOperand op a
  | some _, none => noOperand op b
  | some m, some i => toR (arithV op m i)
theorem arB_eq {op : Str} {a b : List Nat} {j k : Option Int} (h2 : ¬ op ∈ numOps) (h3 : ¬ op ∈ txtOps) (h1 : ¬ op ∈ inOps) (ea : j = wholeF a) (eb : k = wholeF b) : binaryV op a b = arB op a b j k := by
  unfold binaryV
  rw (occs := .all) [if_neg h2, if_neg h3, if_neg h1, ← ea, ← eb]
  cases j with
  | none => rfl
  | some m => cases k <;> rfl
theorem w_law_binary {op : Str} {r s : Res} {B : Nat} (ho : op ∈ binOps) (hr : Fine B r) (hs : Fine B s) (hB : B ≤ 185) (hsm : SmallOk op r s) : Does w (n + 5) 490 [.str op, dueP r, dueP s] (.ok (dueP (resBin op r s))) := by
  have hol := binOps_len op ho
  cases r with
  | err m c =>
    refine fnc_body (xs := ["op", "left", "right"]) (ρ₀ := [("op", .fz (.str op)), ("left", .fz (.tup [.str m, .tup (c.map .str), .none])), ("right", .fz (dueP s))]) (ho := by k_is) (hcd := by k_is) (hbind := by wtm_at "a3") (by decide +kernel) rfl (by decide +kernel) (by decide +kernel) rfl rfl rfl rfl ?_
    have hm : (m != Str.ofString "") = true := by rw [bne_iff_ne]; exact hr
    wtm_at "go"
    rw (occs := .all) [hm]
    wtm_at "gd"
    rfl
  | val a j =>
    cases s with
    | err m c =>
      refine fnc_body (xs := ["op", "left", "right"]) (ρ₀ := [("op", .fz (.str op)), ("left", .fz (vP a j)), ("right", .fz (.tup [.str m, .tup (c.map .str), .none]))]) (ho := by k_is) (hcd := by k_is) (hbind := by wtm_at "a3") (by decide +kernel) rfl (by decide +kernel) (by decide +kernel) rfl rfl rfl rfl ?_
      have hm : (m != Str.ofString "") = true := by rw [bne_iff_ne]; exact hs
      wtm_at "gd"
      rw (occs := .all) [hm]
      wtm_at "gd"
      rfl
    | val b k =>
      obtain ⟨pa, ea, ka⟩ := hr
      obtain ⟨pb, eb, kb⟩ := hs
      have hnum : op ∈ numOps → binaryV op a b = wholeR (b2i (relV op (orderV a b))) := fun h => by unfold binaryV; rw [if_pos h]
      have htxt : op ∈ txtOps → binaryV op a b = wholeR (b2i (relV op (textOrd a b))) := fun h => by unfold binaryV; rw [if_neg (dis_txt op h), if_pos h]
      have hin : op ∈ inOps → binaryV op a b = if b = [123] then .err braceX.msg braceX.code else wholeR (b2i (decide (a ∈ itemsF b) == decide (op = S "in"))) := fun h => by unfold binaryV; rw [if_neg (dis_in op h).1, if_neg (dis_in op h).2, if_pos h]
      rw (occs := .all) [show resBin op (.val a j) (.val b k) = binaryV op a b from rfl]
      refine fnc_body (xs := ["op", "left", "right"]) (ρ₀ := Llb op a b j k) (ho := by k_is) (hcd := by k_is) (hbind := by wtm_at "a3") (by decide +kernel) rfl (by decide +kernel) (by decide +kernel) rfl rfl rfl rfl ?_
      refine exs_cut (fun ρ => Sub (Llb op a b j k) ρ) ?_ (fun ρ hs1 => exs_sub hs1 ?_)
      · wtm_at "gd"
        wtm_at "sub"
      refine exs_cut (fun ρ => Sub (Llb op a b j k) ρ) ?_ (fun ρ hs1 => exs_sub hs1 ?_)
      · wtm_at "gd"
        wtm_at "sub"
      refine exs_cutS (L := (Llb op a b j k)) (P := ¬ op ∈ inOps) ?_ (fun h1 => ?_)
      · wtm_at "go"
        rw (occs := .all) [any_mem]
        refine .split (fun h => ?_) (fun h => ?_)
        · have h : op ∈ inOps := of_decide_eq_true h
          rw (occs := .all) [hin h]
          wtm_at "go"
          have e9 : (mkS b == Str.ofString "{") = decide (b = [123]) := by rw [ch123, ch_mkS, mkS_beq, Bool.eq_iff_iff, beq_iff_eq, decide_eq_true_eq]
          rw (occs := .all) [e9]
          refine .split2 of_decide_eq_true of_decide_eq_false (fun h' => ?_) (fun h' => ?_)
          · rw (occs := .all) [if_pos h']
            wtm_at "go"
            rfl
          · rw (occs := .all) [if_neg h']
            wtm_at "go"
            refine ev_call g_law_whole f_law_whole ?_ (by omega)
            wtm_at "go"
            refine ev_call g_law_items f_law_items ?_ (by omega)
            wtm_at "go"
            refine does_ok (w_law_items (n := 0)) (by omega) ?_
            refine ⟨_, op_inL (ys := (itemsF b).map mkS) (by rw [← strsOf_map, List.map_map]; rfl), ?_⟩
            rw (occs := .all) [any_mem]
            wtm_at "go"
            have e1 : decide (mkS a ∈ List.map mkS (itemsF b)) = decide (a ∈ itemsF b) := by
              rw (occs := .all) [Bool.eq_iff_iff, decide_eq_true_eq, decide_eq_true_eq, List.mem_map]
              constructor
              · rintro ⟨y, hy, e⟩
                have := congrArg Str.l e
                rw (occs := .all) [l_mkS, l_mkS] at this
                exact this ▸ hy
              · intro h; exact ⟨a, h, rfl⟩
            have e2 : (op == Str.ofString "in") = decide (op = S "in") := by rw [Bool.eq_iff_iff, beq_iff_eq, decide_eq_true_eq]
            rw (occs := .all) [e1, e2]
            refine .split (fun h => ?_) (fun h => ?_)
            · rw (occs := .all) [h]
              wtm_at "go"
              exact does_ok (w_law_whole (n := 0) (by decide)) (by omega) rfl
            · rw (occs := .all) [h]
              wtm_at "go"
              exact does_ok (w_law_whole (n := 0) (by decide)) (by omega) rfl
        · have h : ¬ op ∈ inOps := of_decide_eq_false h
          wtm_at "go"
          exact ⟨by wtm_at "sub", h⟩
      refine exs_cut (fun ρ => Sub [("op", .fz (.str op)), ("left", .fz (vP a j)), ("right", .fz (vP b k)), ("numbers", .fz (.tup [.str (S "=="), .str (S "!="), .str (S "<"), .str (S ">"), .str (S "<="), .str (S ">=")]))] ρ) ?_ (fun ρ hs1 => exs_sub hs1 ?_)
      · wtm_at "go"
        wtm_at "sub"
      refine exs_cut (fun ρ => Sub (Llc op a b j k) ρ) ?_ (fun ρ hs1 => exs_sub hs1 ?_)
      · wtm_at "go"
        wtm_at "sub"
      refine exs_cut (fun ρ => Sub (Llb op a b j k) ρ ∧ ¬ op ∈ numOps ∧ ¬ op ∈ txtOps) (ex_if (evb_mono (Q := fun ρ' c => ρ' = Llc op a b j k ∧ c = decide (op ∈ numOps ∨ op ∈ txtOps)) ?_ ?_ (fun _ q => q))) (fun ρ => fn3 fun hs1 h2 h3 => exs_sub hs1 ?_)
      · wtm_at "go"
        rw (occs := .all) [any_mem]
        refine .split (fun h => ?_) (fun h => ?_)
        · have h : op ∈ [S "==", S "!=", S "<", S ">", S "<=", S ">="] := of_decide_eq_true h
          have h := of_decide_eq_true (mem_num (op := op) ▸ decide_eq_true h)
          exact ⟨rfl, (decide_eq_true (.inl h)).symm⟩
        · have h : ¬ op ∈ [S "==", S "!=", S "<", S ">", S "<=", S ">="] := of_decide_eq_false h
          have h := of_decide_eq_false (mem_num (op := op) ▸ decide_eq_false h)
          wtm_at "go"
          rw (occs := .all) [any_mem]
          refine .split (fun h8 => ?_) (fun h8 => ?_)
          · have h8 : op ∈ [S "eq", S "ne", S "lt", S "gt", S "le", S "ge"] := of_decide_eq_true h8
            have h8 := of_decide_eq_true (mem_txt (op := op) ▸ decide_eq_true h8)
            exact ⟨rfl, (decide_eq_true (.inr h8)).symm⟩
          · have h8 : ¬ op ∈ [S "eq", S "ne", S "lt", S "gt", S "le", S "ge"] := of_decide_eq_false h8
            have h8 := of_decide_eq_false (mem_txt (op := op) ▸ decide_eq_false h8)
            wtm_at "go"
            exact ⟨rfl, (decide_eq_false (fun q => q.elim h h8)).symm⟩
      · rintro _ c ⟨rfl, rfl⟩
        refine .split2 of_decide_eq_true of_decide_eq_false (fun h => ?_) (fun h => ?_)
        · refine exs_cut (fun ρ => ∃ d, Sub (("order", .fz (.int d)) :: Llc op a b j k) ρ ∧ binaryV op a b = wholeR (b2i (relV op d))) (ex_if (evb_mono (Q := fun ρ' c => ρ' = Llc op a b j k ∧ c = decide (op ∈ txtOps ∨ j = none ∨ k = none)) ?_ ?_ (fun _ q => q))) (fun ρ => fx1 fun d => fn2 fun hs1 hd => exs_sub hs1 ?_)
          · wtm_at "go"
            rw (occs := .all) [any_mem]
            refine .split (fun h => ?_) (fun h => ?_)
            · have h : op ∈ [S "eq", S "ne", S "lt", S "gt", S "le", S "ge"] := of_decide_eq_true h
              have h := of_decide_eq_true (mem_txt (op := op) ▸ decide_eq_true h)
              exact ⟨rfl, (decide_eq_true (.inl h)).symm⟩
            · have h : ¬ op ∈ [S "eq", S "ne", S "lt", S "gt", S "le", S "ge"] := of_decide_eq_false h
              have h := of_decide_eq_false (mem_txt (op := op) ▸ decide_eq_false h)
              wtm_at "go"
              rw (occs := .all) [optI_none]
              cases j with
              | none =>
                refine .t ?_
                exact ⟨rfl, (decide_eq_true (.inr (.inl rfl))).symm⟩
              | some i =>
                refine .f ?_
                wtm_at "go"
                rw (occs := .all) [optI_none]
                cases k with
                | none =>
                  refine .t ?_
                  exact ⟨rfl, (decide_eq_true (.inr (.inr rfl))).symm⟩
                | some i' =>
                  refine .f ?_
                  wtm_at "go"
                  exact ⟨rfl, (decide_eq_false (fun q => by rcases q with q | q | q; exact h q; cases q; cases q)).symm⟩
          · rintro _ c ⟨rfl, rfl⟩
            have hla : a.length ≤ 1000 := Nat.le_trans pa.len (by decide)
            have hlb : b.length ≤ 1000 := Nat.le_trans pb.len (by decide)
            refine .split2 of_decide_eq_true of_decide_eq_false (fun h4 => ?_) (fun h4 => ?_)
            · wtm_at "go"
              refine ev_call g_law_order f_law_order ?_ (by omega)
              wtm_at "go"
              refine does_ok (w_law_order (n := 0) hla hlb) (by omega) ?_
              wtm_at "go"
              refine ⟨_, by wtm_at "sub", ?_⟩
              rw (occs := .all) [← relV_sign op (textOrd_sign a b)]
              by_cases h5 : op ∈ txtOps
              · exact htxt h5
              · rw (occs := .all) [hnum (h.resolve_right h5)]
                have e : orderV a b = textOrd a b := by
                  unfold orderV
                  rcases h4.resolve_left h5 with q | q
                  · rw (occs := .all) [← ea, q]
                  · rw (occs := .all) [← eb, q]; cases wholeF a <;> rfl
                rw (occs := .all) [e]
            · cases j with
              | none => exact absurd (.inr (.inl rfl)) h4
              | some x =>
                cases k with
                | none => exact absurd (.inr (.inr rfl)) h4
                | some y =>
                  simp only [Llc, vP, optI]
                  wtm_at "go"
                  refine ⟨_, by wtm_at "sub", ?_⟩
                  rw (occs := .all) [hnum (h.resolve_right fun q => h4 (.inl q))]
                  have e : orderV a b = x - y := by unfold orderV; rw [← ea, ← eb]
                  rw (occs := .all) [e]
          · have fin : ∀ {X : Exc → Prop}, fnc w (n + 4) 399 [.int (b2i (relV op d))] (fun q => Except.ok (dueP (binaryV op a b)) = (.ok q : Except Exc PV)) X := does_ok (w_law_whole (n := 0) (by cases relV op d <;> decide)) (by omega) (by rw [hd])
            refine exs_cut (fun ρ => ∃ i : Nat, Sub [("order", .fz (.int d)), ("place", .fz (.int i))] ρ ∧ i < 6 ∧ [PV.bool (d == 0), .bool (d != 0), .bool (decide (d < 0)), .bool (decide (0 < d)), .bool (decide (d ≤ 0)), .bool (decide (0 ≤ d))][i]? = some (.bool (relV op d))) ?_ (fun ρ => fx1 fun i => fn3 fun hs1 hi hd => exs_sub hs1 ?_)
            · refine ex_assign (ev_index ?_)
              wtm_at "go"
              rw (occs := .all) [any_mem]
              refine .split (fun h6 => ?_) (fun h6 => ?_)
              · have h6 : op ∈ [S "==", S "!=", S "<", S ">", S "<=", S ">="] := of_decide_eq_true h6
                have h6 := of_decide_eq_true (mem_num (op := op) ▸ decide_eq_true h6)
                obtain ⟨i, e1, e2, e3⟩ := place_num op h6
                wtm_at "go"
                refine ⟨_, _, _, _, _, _, rfl, ?_⟩
                wtm_at "go"
                refine ⟨_, i, rfl, e1, ?_⟩
                wtm_at "go"
                exact ⟨i, by wtm_at "sub", e2, e3 d⟩
              · have h6 : ¬ op ∈ [S "==", S "!=", S "<", S ">", S "<=", S ">="] := of_decide_eq_false h6
                have h6 := of_decide_eq_false (mem_num (op := op) ▸ decide_eq_false h6)
                obtain ⟨i, e1, e2, e3⟩ := place_txt op (h.resolve_left h6)
                wtm_at "go"
                refine ⟨_, _, _, _, _, _, rfl, ?_⟩
                wtm_at "go"
                refine ⟨_, i, rfl, e1, ?_⟩
                wtm_at "go"
                exact ⟨i, by wtm_at "sub", e2, e3 d⟩
            · wtm_at "go"
              refine ⟨_, op_itemT (j := i) (by unfold seqIndex?; simp; omega) hd (by omega) (by omega), ?_⟩
              wtm_at "go"
              refine ev_call g_law_whole f_law_whole ?_ (by omega)
              wtm_at "go"
              refine .split (fun h7 => ?_) (fun h7 => ?_)
              · rw (occs := .all) [h7] at fin
                wtm_at "go"
                exact fin
              · rw (occs := .all) [h7] at fin
                wtm_at "go"
                exact fin
        · wtm_at "go"
          exact ⟨by wtm_at "sub", fun q => h (.inl q), fun q => h (.inr q)⟩
      have har : op ∈ arOps := by
        simp only [binOps, List.mem_append] at ho
        rcases ho with ((q | q) | q) | q
        · exact q
        · exact absurd q h2
        · exact absurd q h3
        · exact absurd q h1
      have hbv : binaryV op a b = arB op a b j k := arB_eq h2 h3 h1 ea eb
      rw (occs := .all) [hbv]
      refine exs_cut (fun ρ => ∃ m i, j = some m ∧ k = some i ∧ Sub (Llb op a b j k) ρ) (ex_for ?_ (by omega)) (fun ρ => fx2 fun m i => fn3 fun e1 e2 hs1 => exs_sub hs1 ?_)
      · wtm_at "go"
        refine ⟨_, .tup _, ?_⟩
        refine frl_cons (by wtm_at "put") ?_ (by decide +kernel)
        cases j with
        | none =>
          simp only [Llb, vP, optI]
          wtm_at "gd"
          refine ev_call g_law_no_operand f_law_no_operand ?_ (by omega)
          wtm_at "go"
          exact does_ok (w_law_no_operand (n := 0) hol pa) (by omega) rfl
        | some m =>
          cases k with
          | none =>
            simp only [Llb, vP, optI]
            wtm_at "gd"
            refine frl_cons (by wtm_at "put") ?_ (by decide +kernel)
            wtm_at "gd"
            refine ev_call g_law_no_operand f_law_no_operand ?_ (by omega)
            wtm_at "go"
            exact does_ok (w_law_no_operand (n := 0) hol pb) (by omega) rfl
          | some i =>
            simp only [Llb, vP, optI]
            wtm_at "gd"
            refine frl_cons (by wtm_at "put") ?_ (by decide +kernel)
            wtm_at "gd"
            refine frl_nil ?_
            exact ⟨m, i, rfl, rfl, by wtm_at "sub"⟩
      · subst e1 e2
        simp only [Llb, vP, optI]
        wtm_at "go"
        refine ev_call g_law_arithmetic f_law_arithmetic ?_ (by omega)
        wtm_at "go"
        exact does_ok (w_law_arithmetic (n := 0) har (pow_up (ka m rfl) hB) (pow_up (kb i rfl) hB) (hsm a b _ _ m i rfl rfl ea.symm eb.symm)) (by omega) rfl
end
end
section
section
variable {w : World} {n : Nat}
noncomputable abbrev Llr (m s : Nat) : PEnv := [("number", .fz (.int m)), ("step", .fz (.int s))]
noncomputable abbrev Lls2 (m t r : Nat) : PEnv := [("number", .fz (.int m)), ("step", .fz (.int t)), ("root", .fz (.int r))]
theorem nmul_ok {a b : Nat} (ha : a < 2 ^ 1000) (hb : b < 2 ^ 1000) : IntMulOk (a : Int) (b : Int) := mul_ok (by rw [Int.natAbs_natCast]; exact ha) (by rw [Int.natAbs_natCast]; exact hb)
theorem w_law_root {m : Nat} (hm : m < 2 ^ 200) : Does w (n + 1) 497 [.int m] (.ok (.int (isqN m))) := by
  refine fnc_body (xs := ["number"]) (ρ₀ := [("number", .fz (.int m))]) (ho := by k_is) (hcd := by k_is) (hbind := by wtm_at "a1") (by decide +kernel) rfl (by decide +kernel) (by decide +kernel) rfl rfl rfl rfl ?_
  have big : ∀ {a : Nat}, a ≤ 4 * m + 4 → a < 2 ^ 1000 := fun {a} h => by
    have : (2 : Nat) ^ 1000 = 2 ^ 200 * 2 ^ 800 := by rw [← Nat.pow_add]
    have h8 : 16 ≤ (2 : Nat) ^ 800 := by decide
    have h9 := Nat.mul_le_mul_left (2 ^ 200) h8
    omega
  wtm_at "go"
  refine ex_cut (fun ρ => ∃ i s : Nat, s = 2 ^ i ∧ Sub (Llr m s) ρ ∧ s ≤ 2 * (m + 1) ∧ m < s * s) (ex_while (whl_inv (fun z ρ => ∃ i s : Nat, s = 2 ^ i ∧ Sub (Llr m s) ρ ∧ s ≤ 2 * (m + 1) ∧ z = 2 * (m + 1) - s) ?_ _ _ ⟨0, 1, rfl, by wtm_at "sub", by omega, rfl⟩)) (fun ρ => fx2 fun i s => fn4 fun es hs hb hlt => exs_sub hs ?_)
  · rintro z ρ ⟨i, s, es, hs, hb, rfl⟩
    refine evb_sub hs ?_
    have hs1 : 0 < s := by rw [es]; exact Nat.two_pow_pos i
    wtm_at "go"
    refine s_mul (nmul_ok (big (by omega)) (big (by omega))) ?_
    wtm_at "go"
    refine .split2 of_decide_eq_true of_decide_eq_false (fun h => ?_) (fun h => ?_)
    · have h : s * s ≤ m := by exact_mod_cast h
      have h2 : s ≤ s * s := Nat.le_mul_self s
      wtm_at "go"
      refine s_mul (IntMulOk.of_left (by decide)) ?_
      wtm_at "go"
      exact ⟨2 * (m + 1) - 2 * s, Nat.sub_lt_sub_left (show s < 2 * (m + 1) from Nat.lt_of_le_of_lt (Nat.le_trans h2 h) (by omega)) (show s < 2 * s by omega), i + 1, 2 * s, by rw [es, Nat.pow_succ]; omega, by wtm_at "sub", by omega, rfl⟩
    · have h : ¬ s * s ≤ m := by exact_mod_cast h
      exact ⟨i, s, es, by wtm_at "sub", hb, by omega⟩
  wtm_at "go"
  refine ex_cut (fun ρ => Sub [("root", .fz (.int (isqN m)))] ρ) (ex_while (whl_inv (fun z ρ => ∃ r t u : Nat, Sub (Lls2 m t r) ρ ∧ t ≤ 2 * (m + 1) ∧ r * r ≤ m ∧ m < (r + u) * (r + u) ∧ ((t = 0 ∧ u = 1) ∨ (∃ i, t = 2 ^ i ∧ u = 2 * t)) ∧ z = t) ?_ _ _ ⟨0, s, 2 * s, by wtm_at "sub", hb, Nat.zero_le _, ?_, .inr ⟨i, es, rfl⟩, rfl⟩)) (fun ρ hs => exs_sub hs ?_)
  · rintro z ρ ⟨r, t, u, hs, hb, h1, h2, h3, hz⟩
    refine evb_sub hs ?_
    have hr : r ≤ m := Nat.le_trans (Nat.le_mul_self r) h1
    wtm_at "go"
    refine .split2 of_decide_eq_true of_decide_eq_false (fun h => ?_) (fun h => ?_)
    · obtain ⟨i, ht, hu⟩ : ∃ i, t = 2 ^ i ∧ u = 2 * t := h3.resolve_left (fun q => by omega)
      refine exs_cut (fun ρ => ∃ r' : Nat, Sub (Lls2 m t r') ρ ∧ r' * r' ≤ m ∧ m < (r' + t) * (r' + t)) ?_ (fun ρ => fx1 fun r' => fn3 fun hs1 h4 h5 => exs_sub hs1 ?_)
      · wtm_at "go"
        rw (occs := .all) [← Int.natCast_add]
        refine s_mul (nmul_ok (big (by omega)) (big (by omega))) ?_
        wtm_at "go"
        refine .split2 of_decide_eq_true of_decide_eq_false (fun h' => ?_) (fun h' => ?_)
        · have h' : (r + t) * (r + t) ≤ m := by exact_mod_cast h'
          wtm_at "go"
          exact ⟨r + t, by wtm_at "sub", h', by rw [show r + t + t = r + u by omega]; exact h2⟩
        · have h' : ¬ (r + t) * (r + t) ≤ m := by exact_mod_cast h'
          wtm_at "go"
          exact ⟨r, by wtm_at "sub", h1, by omega⟩
      · wtm_at "go"
        refine s_div (by decide) (PyProof.noPylong_small (by decide)) ?_
        rw (occs := .all) [show ((t : Int).fdiv 2) = ((t / 2 : Nat) : Int) from fdiv_nat t 2]
        wtm_at "go"
        refine ⟨t / 2, by omega, r', t / 2, t, by wtm_at "sub", by omega, h4, h5, ?_, rfl⟩
        cases i with
        | zero => exact .inl ⟨by rw [ht], by rw [ht]⟩
        | succ i => exact .inr ⟨i, by rw [ht, Nat.pow_succ]; exact Nat.mul_div_cancel _ (by decide), by rw [ht, Nat.pow_succ, Nat.mul_div_cancel _ (by decide)]; exact Nat.mul_comm _ _⟩
    · have hu : u = 1 := by
        rcases h3 with q | ⟨i, q, _⟩
        · exact q.2
        · have := Nat.two_pow_pos i; omega
      rw (occs := .all) [hu] at h2
      have e := isq_uniq h1 h2
      rw (occs := .all) [← e]
      wtm_at "sub"
  · have : s ≤ 2 * s := by omega
    have := Nat.mul_le_mul this this
    rw (occs := .all) [Nat.zero_add]; omega
  · wtm_at "go"
    rfl
end
section
variable {w : World} {n : Nat}
noncomputable abbrev Llg (k : Int) (l : List PV) : PEnv := [("which", .fz (.int k)), ("dues", .fz (.lst l))]
theorem s_itemL {value slice : Expr} {l : List PV} {k : Int} {p : PV} {Q : PV → Prop} (h0 : 0 ≤ k) (hp : l[k.toNat]? = some p) (h2 : k < 2 ^ 63)
    (hs : ∀ a t, subscripted slice false (Value.ref a) (Value.int k t) = operate [Value.ref a, Value.int k t] (getItem (Value.ref a) (Value.int k t))) (h : Q p) : ∃ c, Op2 w n (subscriptTail value slice) (.lst l) (.int k) c ∧ Q c := ⟨_, op_itemL h0 hp h2 hs, h⟩
theorem w_law_logic {isOr : Bool} {r s : Res} {B : Nat} (fr : Fine B r) (fs : Fine B s) : Does w (n + 2) 509 [.int (b2i isOr), .lst [dueP r, dueP s]] (.ok (dueP (resLog isOr r s))) := by
  refine fnc_body (xs := ["which", "dues"]) (ρ₀ := Llg (b2i isOr) [dueP r, dueP s]) (ho := by k_is) (hcd := by k_is) (hbind := by wtm_at "a2") (by decide +kernel) rfl (by decide +kernel) (by decide +kernel) rfl rfl rfl rfl ?_
  have e2 : (b2i isOr == 2) = false := by cases isOr <;> rfl
  have e1 : (b2i isOr == 1) = isOr := by cases isOr <;> rfl
  cases r with
  | err m c =>
    have hm : (m != Str.ofString "") = true := by rw [bne_iff_ne]; exact fr
    unfold Llg
    rw (occs := .all) [show dueP (.err m c) = .tup [.str m, .tup (c.map .str), .none] from rfl]
    wtm_at "go"
    refine s_itemL (by decide) rfl (by decide) (by intro _ _; with_unfolding_all rfl) ?_
    wtm_at "go"
    rw (occs := .all) [hm]
    wtm_at "gd"
    refine s_itemL (by decide) rfl (by decide) (by intro _ _; with_unfolding_all rfl) ?_
    rfl
  | val l k =>
    obtain ⟨hp, rfl, hk⟩ := fr
    unfold resLog
    dsimp only
    refine exs_cut (fun ρ => Sub (Llg (b2i isOr) [dueP (.val l (wholeF l)), dueP s]) ρ) ?_ (fun ρ hs1 => exs_sub hs1 ?_)
    · rw (occs := .all) [show dueP (.val l (wholeF l)) = vP l (wholeF l) from rfl]
      wtm_at "go"
      refine s_itemL (by decide) rfl (by decide) (by intro _ _; with_unfolding_all rfl) ?_
      wtm_at "gd"
      wtm_at "sub"
    wtm_at "go"
    refine ev_call g_law_truth f_law_truth ?_ (by omega)
    wtm_at "go"
    refine s_itemL (by decide) rfl (by decide) (by intro _ _; with_unfolding_all rfl) ?_
    wtm_at "go"
    refine does_ok (w_law_truth (n := 0)) (by omega) ?_
    wtm_at "go"
    rw (occs := .all) [optB_none]
    cases ht : truthF l (wholeF l) with
    | none =>
      refine .tt rfl ?_
      wtm_at "go"
      refine ev_call g_law_no_truth f_law_no_truth ?_ (by omega)
      wtm_at "go"
      refine s_itemL (by decide) rfl (by decide) (by intro _ _; with_unfolding_all rfl) ?_
      wtm_at "go"
      exact does_ok (w_law_no_truth (n := 0) hp) (by omega) rfl
    | some b =>
      refine .ff rfl ?_
      simp only [optB]
      wtm_at "go"
      rw (occs := .all) [e2]
      wtm_at "go"
      rw (occs := .all) [e1]
      refine .split (fun h => ?_) (fun h => ?_)
      · have h : b = isOr := by simpa using h
        rw (occs := .all) [if_pos h]
        wtm_at "go"
        refine ev_call g_law_whole f_law_whole ?_ (by omega)
        wtm_at "go"
        exact does_ok (w_law_whole (n := 0) (by cases isOr <;> decide)) (by omega) rfl
      · have h : ¬ b = isOr := by simpa using h
        rw (occs := .all) [if_neg h]
        cases s with
        | err m c =>
          have hm : (m != Str.ofString "") = true := by rw [bne_iff_ne]; exact fs
          rw (occs := .all) [show dueP (.err m c) = .tup [.str m, .tup (c.map .str), .none] from rfl]
          wtm_at "go"
          refine s_itemL (by decide) rfl (by decide) (by intro _ _; with_unfolding_all rfl) ?_
          wtm_at "go"
          rw (occs := .all) [hm]
          wtm_at "gd"
          refine s_itemL (by decide) rfl (by decide) (by intro _ _; with_unfolding_all rfl) ?_
          rfl
        | val l' k' =>
          obtain ⟨hp', rfl, hk'⟩ := fs
          dsimp only
          wtm_at "one"
          refine exs_cut (fun ρ => Sub (Llg (b2i isOr) [dueP (.val l (wholeF l)), dueP (.val l' (wholeF l'))]) ρ) ?_ (fun ρ hs1 => exs_sub hs1 ?_)
          · rw (occs := .all) [show dueP (.val l' (wholeF l')) = vP l' (wholeF l') from rfl]
            wtm_at "go"
            refine s_itemL (by decide) rfl (by decide) (by intro _ _; with_unfolding_all rfl) ?_
            wtm_at "gd"
            wtm_at "sub"
          wtm_at "go"
          refine ev_call g_law_truth f_law_truth ?_ (by omega)
          wtm_at "go"
          refine s_itemL (by decide) rfl (by decide) (by intro _ _; with_unfolding_all rfl) ?_
          wtm_at "go"
          refine does_ok (w_law_truth (n := 0)) (by omega) ?_
          wtm_at "go"
          rw (occs := .all) [optB_none]
          cases ht' : truthF l' (wholeF l') with
          | none =>
            refine .tt rfl ?_
            wtm_at "go"
            refine ev_call g_law_no_truth f_law_no_truth ?_ (by omega)
            wtm_at "go"
            refine s_itemL (by decide) rfl (by decide) (by intro _ _; with_unfolding_all rfl) ?_
            wtm_at "go"
            exact does_ok (w_law_no_truth (n := 0) hp') (by omega) rfl
          | some b' =>
            refine .ff rfl ?_
            simp only [optB]
            wtm_at "go"
            refine ev_call g_law_whole f_law_whole ?_ (by omega)
            cases b'
            · wtm_at "gd"
              exact does_ok (w_law_whole (n := 0) (by decide)) (by omega) rfl
            · wtm_at "gd"
              exact does_ok (w_law_whole (n := 0) (by decide)) (by omega) rfl
theorem w_law_if {r s u : Res} {B : Nat} (fr : Fine B r) : Does w (n + 2) 509 [.int 2, .lst [dueP r, dueP s, dueP u]] (.ok (dueP (resIf r s u))) := by
  refine fnc_body (xs := ["which", "dues"]) (ρ₀ := Llg 2 [dueP r, dueP s, dueP u]) (ho := by k_is) (hcd := by k_is) (hbind := by wtm_at "a2") (by decide +kernel) rfl (by decide +kernel) (by decide +kernel) rfl rfl rfl rfl ?_
  cases r with
  | err m c =>
    have hm : (m != Str.ofString "") = true := by rw [bne_iff_ne]; exact fr
    unfold Llg
    rw (occs := .all) [show dueP (.err m c) = .tup [.str m, .tup (c.map .str), .none] from rfl]
    wtm_at "go"
    refine s_itemL (by decide) rfl (by decide) (by intro _ _; with_unfolding_all rfl) ?_
    wtm_at "go"
    rw (occs := .all) [hm]
    wtm_at "gd"
    refine s_itemL (by decide) rfl (by decide) (by intro _ _; with_unfolding_all rfl) ?_
    rfl
  | val l k =>
    obtain ⟨hp, rfl, hk⟩ := fr
    unfold resIf
    dsimp only
    refine exs_cut (fun ρ => Sub (Llg 2 [dueP (.val l (wholeF l)), dueP s, dueP u]) ρ) ?_ (fun ρ hs1 => exs_sub hs1 ?_)
    · rw (occs := .all) [show dueP (.val l (wholeF l)) = vP l (wholeF l) from rfl]
      wtm_at "go"
      refine s_itemL (by decide) rfl (by decide) (by intro _ _; with_unfolding_all rfl) ?_
      wtm_at "gd"
      wtm_at "sub"
    wtm_at "go"
    refine ev_call g_law_truth f_law_truth ?_ (by omega)
    wtm_at "go"
    refine s_itemL (by decide) rfl (by decide) (by intro _ _; with_unfolding_all rfl) ?_
    wtm_at "go"
    refine does_ok (w_law_truth (n := 0)) (by omega) ?_
    wtm_at "go"
    rw (occs := .all) [optB_none]
    cases ht : truthF l (wholeF l) with
    | none =>
      refine .tt rfl ?_
      wtm_at "go"
      refine ev_call g_law_no_truth f_law_no_truth ?_ (by omega)
      wtm_at "go"
      refine s_itemL (by decide) rfl (by decide) (by intro _ _; with_unfolding_all rfl) ?_
      wtm_at "go"
      exact does_ok (w_law_no_truth (n := 0) hp) (by omega) rfl
    | some b =>
      refine .ff rfl ?_
      simp only [optB]
      wtm_at "gd"
      refine .split (fun h => ?_) (fun h => ?_)
      · subst h
        wtm_at "go"
        refine s_itemL (by decide) rfl (by decide) (by intro _ _; with_unfolding_all rfl) ?_
        rfl
      · subst h
        wtm_at "go"
        refine s_itemL (by decide) rfl (by decide) (by intro _ _; with_unfolding_all rfl) ?_
        rfl
end
end
section
section
variable {w : World} {n : Nat}
theorem s_itemN {value slice : Expr} {l : List PV} {p : PV} {Q : PV → Prop} (h0 : 0 < l.length) (hp : l[l.length - 1]? = some p)
    (hs : ∀ a t, subscripted slice false (Value.ref a) (Value.int (-1) t) = operate [Value.ref a, Value.int (-1) t] (getItem (Value.ref a) (Value.int (-1) t))) (h : Q p) : ∃ c, Op2 w n (subscriptTail value slice) (.lst l) (.int (-1)) c ∧ Q c := by
  refine ⟨p, ?_, h⟩
  intro A s bad va vb QV EV C ra rb K; cases rb
  cases ra with
  | lst e c d nb rs =>
    rename_i t a o vs m
    obtain ⟨v, hv, rv⟩ := rs.get hp
    have hL : s.heap.IsList a vs := ⟨_, e, c.cls, m, d⟩
    have hl : vs.size = l.length := by rw [← rs.length, Array.length_toList]
    exact tail_any hL.typeIs slot_list_getitem.lookup (wpAny_getItem_list_neg hL (by decide) (by rw [hl]; omega) (by decide) (by rw [hl, show ((-1 : Int) + (l.length : Int)).toNat = l.length - 1 by omega, ← Array.getElem?_toList]; exact hv) (K v s.heap s.toks (grows_refl _) rv)) (hs _ _)
noncomputable abbrev Lcl (name : Str) (rs : List Res) : PEnv := [("name", .fz (.str name)), ("dues", .fz (.lst (rs.map dueP)))]
noncomputable abbrev Lcv (name : Str) (ls : List (List Nat)) : PEnv := [("name", .fz (.str name)), ("dues", .fz (.lst (ls.map fun l => vP l (wholeF l))))]
theorem texts_vals {B : Nat} : ∀ {rs : List Res} {ls : List (List Nat)}, (∀ r ∈ rs, Fine B r) → textsR rs = .ok ls → rs.map dueP = ls.map fun l => vP l (wholeF l)
  | [], ls, _, e => by cases e; rfl
  | .err m c :: _, ls, _, e => by cases e
  | .val l k :: r, ls, h, e => by
    obtain ⟨hp, rfl, hk⟩ := h _ (List.mem_cons_self (a := Res.val l k) (l := r))
    rw (occs := .all) [textsR] at e
    cases er : textsR r with
    | error x => rw (occs := .all) [er] at e; cases e
    | ok ms =>
      rw (occs := .all) [er] at e
      cases e
      rw (occs := .all) [List.map_cons, List.map_cons, texts_vals (fun x hx => h x (by simp [hx])) er]
      rfl
theorem last_max {ms ns : List Int} (hp : ms.Perm ns) (hw : ms.Pairwise (· ≤ ·)) (h0 : ns ≠ []) : ms[ms.length - 1]? = some (maxI ns) ∧ ms[0]? = some (minI ns) := by
  have hl := hp.length_eq
  have h1 : 0 < ms.length := by rw [hl]; exact List.length_pos_iff.mpr h0
  refine ⟨?_, ?_⟩
  · rw (occs := .all) [List.getElem?_eq_getElem (by omega)]
    refine congrArg some (max_uniq (hp.mem_iff.mp (List.getElem_mem _)) fun a ha => ?_)
    obtain ⟨i, hi, rfl⟩ := List.getElem_of_mem (hp.mem_iff.mpr ha)
    by_cases q : i = ms.length - 1
    · subst q; exact Int.le_refl _
    · exact List.pairwise_iff_getElem.mp hw i _ hi (by omega) (by omega)
  · rw (occs := .all) [List.getElem?_eq_getElem h1]
    refine congrArg some (min_uniq (hp.mem_iff.mp (List.getElem_mem _)) fun a ha => ?_)
    obtain ⟨i, hi, rfl⟩ := List.getElem_of_mem (hp.mem_iff.mpr ha)
    by_cases q : i = 0
    · subst q; exact Int.le_refl _
    · exact List.pairwise_iff_getElem.mp hw 0 _ h1 hi (by omega)
theorem comp_two {σ sc : Scope} {x : Str} {px p1 p2 pos : Pos} {kk : Nat} (hn : 0 < n) (hx : sc.names.lookup x = some .local) (hk : sc.kind = .function) (hd : (x == ("__debug__" : Str)) = false) : ∀ {ls : List (List Nat)} {ns : List Int}, numsF ls = .ok ns →
    AllElt w n σ sc (.Name x px) (.Subscript (.Name x p1) (.Constant (.int 2) kk p2) pos) (ls.map fun l => vP l (wholeF l)) (ns.map PV.int)
  | [], ns, e => by cases e; exact .nil
  | l :: r, ns, e => by
    rw (occs := .all) [numsF] at e
    cases hw : wholeF l with
    | none => rw (occs := .all) [hw] at e; cases e
    | some i =>
      rw (occs := .all) [hw] at e
      dsimp only at e
      cases hr : numsF r with
      | error x => rw (occs := .all) [hr] at e; cases e
      | ok ms =>
        rw (occs := .all) [hr] at e
        cases e
        refine .cons ?_ (comp_two hn hx hk hd hr)
        show EltOk w n σ sc _ _ (vP l (wholeF l)) _
        rw (occs := .all) [hw]
        exact elt_item (j := 2) rfl rfl (by decide) (by decide) hn hx hk hd
theorem w_law_call {name : Str} {rs : List Res} {B : Nat} (hn : name ∈ callNames) (hf : ∀ r ∈ rs, Fine B r) (hB : B ≤ 198) (hl : rs.length ≤ 3) : Does w (n + 2) 502 [.str name, .lst (rs.map dueP)] (.ok (dueP (resCall name rs))) := by
  refine fnc_body (xs := ["name", "dues"]) (ρ₀ := Lcl name rs) (ho := by k_is) (hcd := by k_is) (hbind := by wtm_at "a2") (by decide +kernel) rfl (by decide +kernel) (by decide +kernel) rfl rfl rfl rfl ?_
  have hnl := callNames_len name hn
  refine exs_cut (fun ρ => ∃ ls, textsR rs = .ok ls ∧ Sub (Lcl name rs) ρ) (ex_for ?_ (by omega)) (fun ρ => fx1 fun ls => fn2 fun e1 hs1 => exs_sub hs1 ?_)
  · wtm_at "go"
    refine ⟨_, .lst _, ?_⟩
    refine frl_inv (fun items ρ => ∃ (rest : List Res) (done : List (List Nat)), items = rest.map dueP ∧ Sub (Lcl name rs) ρ ∧ textsR rs = appT done (textsR rest) ∧ (∀ r ∈ rest, Fine B r)) ?_ ?_ (by decide +kernel) _ _ ⟨rs, [], rfl, by wtm_at "sub", by cases textsR rs <;> rfl, hf⟩
    · rintro ρ ⟨rest, done, hr, hs, e, _⟩
      obtain rfl : rest = [] := by simpa using hr.symm
      exact ⟨done, by rw [e]; simp [textsR, appT], hs⟩
    · rintro p items ρ ⟨rest, done, hr, hs, e, hfr⟩
      cases rest with
      | nil => cases hr
      | cons x rest =>
        rw (occs := .all) [List.map_cons] at hr
        injection hr with h1 h2
        subst h1 h2
        refine ⟨_, _, hs, by wtm_at "put", ?_⟩
        have hx := hfr x (by simp)
        cases x with
        | err m c =>
          have hm : (m != Str.ofString "") = true := by rw [bne_iff_ne]; exact hx
          rw (occs := .all) [show dueP (.err m c) = .tup [.str m, .tup (c.map .str), .none] from rfl]
          wtm_at "go"
          rw (occs := .all) [hm]
          wtm_at "gd"
          have e' : textsR rs = .error ⟨m, c⟩ := by rw [e]; rfl
          unfold resCall
          rw (occs := .all) [e']; rfl
        | val l k =>
          rw (occs := .all) [show dueP (.val l k) = vP l k from rfl]
          wtm_at "gd"
          refine ⟨rest, done ++ [l], rfl, by wtm_at "sub", ?_, fun r hr => hfr r (by simp [hr])⟩
          rw (occs := .all) [e, textsR]
          cases textsR rest with
          | ok ns => simp [appT]
          | error x => rfl
  have ev := texts_vals hf e1
  obtain ⟨hfx, hlen⟩ := (texts_fine hf).1 ls e1
  have hres : resCall name rs = callV name ls := by unfold resCall; rw [e1]
  have hll : (ls.map fun l => vP l (wholeF l)).length ≤ sizeLine := tooBig (by rw [List.length_map]; omega)
  rw (occs := .all) [hres]
  unfold Lcl
  rw (occs := .all) [ev]
  unfold callV
  cases ls with
  | nil =>
    rw (occs := .all) [if_pos rfl]
    wtm_at "go"
    refine s_lenL (tooBig (by decide)) ?_
    wtm_at "gd"
    refine s_lenL (tooBig (by decide)) ?_
    wtm_at "gd"
    rfl
  | cons l r =>
    rw (occs := .all) [if_neg (by simp)]
    have hlz : (List.map (fun l => vP l (wholeF l)) (l :: r)).length = (l :: r).length := List.length_map _
    refine exs_cutS (L := (Lcv name (l :: r))) (P := ¬ (1 < (l :: r).length ∧ ¬ (name = S "max" ∨ name = S "min"))) ?_ (fun h1 => ?_)
    · wtm_at "go"
      refine s_lenL hll ?_
      rw (occs := .all) [hlz]
      wtm_at "go"
      refine .ff (by simp; omega) ?_
      wtm_at "go"
      refine s_lenL hll ?_
      rw (occs := .all) [hlz]
      wtm_at "go"
      refine .split2 of_decide_eq_true of_decide_eq_false (fun h => ?_) (fun h => ?_)
      · wtm_at "go"
        rw (occs := .all) [any_mem]
        refine .split (fun h' => ?_) (fun h' => ?_)
        · have h' : ¬ name ∈ [S "max", S "min"] := of_decide_eq_false (Eq.mp (Bool.not_eq_true' _) h')
          simp only [List.mem_cons, List.not_mem_nil, or_false] at h'
          rw (occs := .all) [if_pos ⟨by omega, h'⟩]
          wtm_at "go"
          refine s_lenL hll ?_
          rw (occs := .all) [hlz]
          wtm_at "go"
          refine .ff (by simp; omega) ?_
          wtm_at "gd"
          rfl
        · have h' : name ∈ [S "max", S "min"] := of_decide_eq_true (Eq.mp (Bool.not_eq_false' _) h')
          simp only [List.mem_cons, List.not_mem_nil, or_false] at h'
          wtm_at "go"
          exact ⟨by wtm_at "sub", fun q => q.2 h'⟩
      · wtm_at "go"
        exact ⟨by wtm_at "sub", fun q => h (by omega)⟩
    rw (occs := .all) [if_neg h1]
    have hpl := (hfx l (by simp)).1
    refine exs_cutS (L := (Lcv name (l :: r))) (P := ¬ name = S "bool") ?_ (fun h2 => ?_)
    · wtm_at "go"
      refine .split2 beq_iff_eq.mp beq_eq_false_iff_ne.mp (fun h => ?_) (fun h => ?_)
      · rw (occs := .all) [if_pos h]
        wtm_at "go"
        refine ev_call g_law_truth f_law_truth ?_ (by omega)
        wtm_at "go"
        refine s_itemL (p := dueP (.val l (wholeF l))) (by decide) rfl (by decide) (by intro _ _; with_unfolding_all rfl) ?_
        wtm_at "go"
        refine does_ok (w_law_truth (n := 0)) (by omega) ?_
        wtm_at "go"
        rw (occs := .all) [optB_none]
        simp only [List.headD_cons]
        cases ht : truthF l (wholeF l) with
        | none =>
          refine .tt rfl ?_
          wtm_at "go"
          refine ev_call g_law_no_truth f_law_no_truth ?_ (by omega)
          wtm_at "go"
          refine s_itemL (p := dueP (.val l (wholeF l))) (by decide) rfl (by decide) (by intro _ _; with_unfolding_all rfl) ?_
          wtm_at "go"
          exact does_ok (w_law_no_truth (n := 0) hpl) (by omega) rfl
        | some b =>
          refine .ff rfl ?_
          simp only [optB]
          wtm_at "go"
          refine ev_call g_law_whole f_law_whole ?_ (by omega)
          cases b
          · wtm_at "gd"
            exact does_ok (w_law_whole (n := 0) (by decide)) (by omega) rfl
          · wtm_at "gd"
            exact does_ok (w_law_whole (n := 0) (by decide)) (by omega) rfl
      · wtm_at "go"
        exact ⟨by wtm_at "sub", h⟩
    rw (occs := .all) [if_neg h2]
    obtain ⟨N, hN⟩ : ∃ N, numsF (l :: r) = N := ⟨_, rfl⟩
    rw (occs := .all) [hN]
    refine exs_cut (fun ρ => ∃ ns, N = .ok ns ∧ Sub (Lcv name (l :: r)) ρ) (ex_for ?_ (by omega)) (fun ρ => fx1 fun ns => fn2 fun e3 hs1 => exs_sub hs1 ?_)
    · wtm_at "go"
      refine ⟨_, .lst _, ?_⟩
      refine frl_inv (fun items ρ => ∃ (rest : List (List Nat)) (done : List Int), items = rest.map (fun l => vP l (wholeF l)) ∧ Sub (Lcv name (l :: r)) ρ ∧ N = appR done (numsF rest) ∧ (∀ l ∈ rest, Plain l)) ?_ ?_ (by decide +kernel) _ _ ⟨l :: r, [], rfl, by wtm_at "sub", by rw [hN]; cases N <;> rfl, fun x hx => (hfx x hx).1⟩
      · rintro ρ ⟨rest, done, hr, hs, e, _⟩
        obtain rfl : rest = [] := by simpa using hr.symm
        exact ⟨done, by rw [e]; simp [numsF, appR], hs⟩
      · rintro p items ρ ⟨rest, done, hr, hs, e, hfr⟩
        cases rest with
        | nil => cases hr
        | cons a rest =>
          rw (occs := .all) [List.map_cons] at hr
          injection hr with h4 h5
          subst h4 h5
          refine ⟨_, _, hs, by wtm_at "put", ?_⟩
          have hpa := hfr a (by simp)
          rw (occs := .all) [numsF] at e
          cases hw : wholeF a with
          | none =>
            rw (occs := .all) [hw] at e
            have e' : N = .error (numberX a) := by rw [e]; rfl
            rw (occs := .all) [e', show vP a none = .tup [.str (S ""), .str (mkS a), .none] from rfl]
            wtm_at "gd"
            rfl
          | some i =>
            rw (occs := .all) [hw] at e
            dsimp only at e
            rw (occs := .all) [show vP a (some i) = .tup [.str (S ""), .str (mkS a), .int i] from rfl]
            wtm_at "gd"
            refine ⟨rest, done ++ [i], rfl, by wtm_at "sub", ?_, fun l hl => hfr l (by simp [hl])⟩
            rw (occs := .all) [e]
            cases numsF rest with
            | ok ns => simp [appR]
            | error x => rfl
    obtain ⟨hnb, hnlen⟩ := nums_bound (fun l hl => (hfx l hl).2) (hN.trans e3)
    have hns : ns ≠ [] := fun q => by rw (occs := .all) [q] at hnlen; simp at hnlen
    rw (occs := .all) [e3]
    dsimp only
    refine exs_cut (fun ρ => ∃ ms : List Int, ms.Perm ns ∧ ms.Pairwise (· ≤ ·) ∧ Sub [("name", .fz (.str name)), ("numbers", .fz (.lst (ms.map PV.int)))] ρ) (ex_assign (ev_callBP (g := "sorted") (id := "sorted") g_sorted b_sorted (evs_cons (ev_comp go_name ?_ (by omega))))) (fun ρ => fx1 fun ms => fn3 fun hpm hpw hs1 => exs_sub hs1 ?_)
    · wtm_at "go"
      refine ⟨_, _, rfl, hll, comp_two (by omega) (by decide +kernel) rfl rfl (hN.trans e3), ?_⟩
      wtm_at "go"
      refine ⟨_, op_sorted (intsOf_map _) (by rw [List.length_map, hnlen]; omega), ?_⟩
      rintro c ⟨ms, rfl, hpm, hpw⟩
      wtm_at "go"
      exact ⟨ms, hpm, hpw, by wtm_at "sub"⟩
    obtain ⟨hmax, hmin⟩ := last_max hpm hpw hns
    have hmlen : 0 < ms.length := by rw [hpm.length_eq, hnlen]; simp
    have hMb := pow_up (hnb _ (maxI_spec ns hns).1) hB
    have hmb := pow_up (hnb _ (minI_spec ns hns).1) hB
    have i0 : (ms.map PV.int)[(0 : Int).toNat]? = some (.int (minI ns)) := by rw [show (0 : Int).toNat = 0 from rfl, List.getElem?_map, hmin]; rfl
    have hhead : ¬ name = S "max" → ¬ name = S "min" → headI ns = minI ns := fun q1 q2 => by
      have : ns.length = 1 := by
        have : ¬ 1 < (l :: r).length := fun q => h1 ⟨q, fun z => z.elim q1 q2⟩
        simp only [List.length_cons] at this hnlen
        omega
      match ns, this with
      | [x], _ => rfl
    generalize hM : maxI ns = M at *
    generalize hm : minI ns = x at *
    refine exs_cutS (L := [("name", .fz (.str name)), ("numbers", .fz (.lst (ms.map PV.int)))]) (P := ¬ name = S "max") ?_ (fun h3 => ?_)
    · wtm_at "go"
      refine .split2 beq_iff_eq.mp beq_eq_false_iff_ne.mp (fun h => ?_) (fun h => ?_)
      · wtm_at "go"
        refine ev_call g_law_whole f_law_whole ?_ (by omega)
        wtm_at "go"
        refine s_itemN (p := .int M) (by rw [List.length_map]; exact hmlen) (by rw [List.length_map, List.getElem?_map, hmax]; rfl) (by intro _ _; with_unfolding_all rfl) ?_
        wtm_at "go"
        refine does_ok (w_law_whole (n := 0) (Nat.le_of_lt (pow_up hMb (by decide)))) (by omega) ?_
        unfold fnV
        rw (occs := .all) [if_pos h, hM]; rfl
      · wtm_at "go"
        exact ⟨by wtm_at "sub", h⟩
    refine exs_cutS (L := [("name", .fz (.str name)), ("numbers", .fz (.lst (ms.map PV.int)))]) (P := ¬ name = S "isqrt") ?_ (fun h4 => ?_)
    · wtm_at "go"
      refine .split2 beq_iff_eq.mp beq_eq_false_iff_ne.mp (fun h => ?_) (fun h => ?_)
      · have e : fnV name ns = if x < 0 then .error sqrtX else .ok (isqN x.toNat) := by
          have hh := hhead h3 (by rw [h]; decide +kernel)
          unfold fnV
          rw (occs := .all) [if_neg h3, if_neg (by rw [h]; decide +kernel), if_neg (by rw [h]; decide +kernel), if_pos h, hh]
        rw (occs := .all) [e]
        wtm_at "go"
        refine s_itemL (by decide) i0 (by decide) (by intro _ _; with_unfolding_all rfl) ?_
        wtm_at "go"
        refine .split2 of_decide_eq_true of_decide_eq_false (fun h5 => ?_) (fun h5 => ?_)
        · rw (occs := .all) [if_pos h5]
          wtm_at "go"
          refine ev_call g_law_domain f_law_domain ?_ (by omega)
          wtm_at "go"
          exact does_ok (w_law_domain (n := 0)) (by omega) rfl
        · rw (occs := .all) [if_neg h5]
          obtain ⟨y, rfl⟩ : ∃ y : Nat, x = y := ⟨x.toNat, by omega⟩
          rw (occs := .all) [Int.natAbs_natCast] at hmb
          rw (occs := .all) [Int.toNat_natCast]
          wtm_at "go"
          refine ev_call g_law_whole f_law_whole ?_ (by omega)
          refine evs_cons ?_
          refine ev_call g_law_root f_law_root ?_ (by omega)
          wtm_at "go"
          refine s_itemL (by decide) i0 (by decide) (by intro _ _; with_unfolding_all rfl) ?_
          wtm_at "go"
          refine does_ok (w_law_root (n := 0) (pow_up hmb (by decide))) (by omega) ?_
          wtm_at "go"
          refine does_ok (w_law_whole (n := 0) ?_) (by omega) rfl
          have := isqN_le y
          rw (occs := .all) [Int.natAbs_natCast]
          exact Nat.le_of_lt (Nat.lt_of_le_of_lt this (pow_up hmb (by decide)))
      · wtm_at "go"
        exact ⟨by wtm_at "sub", h⟩
    have hp2 : 2 ^ 200 = 4 * 2 ^ 198 := by decide
    refine exs_cutS (L := [("name", .fz (.str name)), ("numbers", .fz (.lst (ms.map PV.int)))]) (P := ¬ name = S "abs") ?_ (fun h5 => ?_)
    · wtm_at "go"
      refine .split2 beq_iff_eq.mp beq_eq_false_iff_ne.mp (fun h => ?_) (fun h => ?_)
      · have e : fnV name ns = .ok (if x < 0 then -x else x) := by
          have hh := hhead h3 (by rw [h]; decide +kernel)
          unfold fnV
          rw (occs := .all) [if_neg h3, if_neg (by rw [h]; decide +kernel), if_pos h, hh]
        rw (occs := .all) [e]
        wtm_at "go"
        refine ev_call g_law_whole f_law_whole ?_ (by omega)
        refine evs_cons ?_
        refine ev_callB (g := "max") (id := "max") g_max b_max ?_
        wtm_at "go"
        refine s_itemL (by decide) i0 (by decide) (by intro _ _; with_unfolding_all rfl) ?_
        wtm_at "go"
        refine s_itemL (by decide) i0 (by decide) (by intro _ _; with_unfolding_all rfl) ?_
        wtm_at "go"
        refine s_max2 (by omega) ?_
        rw (occs := .all) [show (if 0 - x > x then 0 - x else x) = (if x < 0 then -x else x) by split <;> split <;> omega]
        wtm_at "go"
        exact does_ok (w_law_whole (n := 0) (by split <;> omega)) (by omega) rfl
      · wtm_at "go"
        exact ⟨by wtm_at "sub", h⟩
    refine exs_cutS (L := [("name", .fz (.str name)), ("numbers", .fz (.lst (ms.map PV.int)))]) (P := ¬ name = S "wide") ?_ (fun h6 => ?_)
    · wtm_at "go"
      refine .split2 beq_iff_eq.mp beq_eq_false_iff_ne.mp (fun h => ?_) (fun h => ?_)
      · have e : fnV name ns = .ok (wideI x) := by
          have hh := hhead h3 (by rw [h]; decide +kernel)
          unfold fnV
          rw (occs := .all) [if_neg h3, if_neg (by rw [h]; decide +kernel), if_neg (by rw [h]; decide +kernel), if_neg (by rw [h]; decide +kernel), if_pos h, hh]
        rw (occs := .all) [e]
        wtm_at "go"
        refine ev_call g_law_whole f_law_whole ?_ (by omega)
        wtm_at "go"
        refine s_itemL (by decide) i0 (by decide) (by intro _ _; with_unfolding_all rfl) ?_
        wtm_at "go"
        refine s_mod (by decide) ?_
        wtm_at "go"
        rw (occs := .all) [show (2 : Int) ^ (63 : Int).toNat = 2 ^ 63 from by decide, show (2 : Int) ^ (64 : Int).toNat = 2 ^ 64 from by decide, Int.fmod_eq_emod_of_nonneg _ (by decide)]
        refine does_ok (w_law_whole (n := 0) ?_) (by omega) rfl
        omega
      · wtm_at "go"
        exact ⟨by wtm_at "sub", h⟩
    have e : fnV name ns = .ok x := by
      unfold fnV
      rw (occs := .all) [if_neg h3, hm]
      by_cases h7 : name = S "min"
      · rw (occs := .all) [if_pos h7]
      · rw (occs := .all) [if_neg h7, if_neg h5, if_neg h4, if_neg h6, hhead h3 h7]
    rw (occs := .all) [e]
    wtm_at "go"
    refine ev_call g_law_whole f_law_whole ?_ (by omega)
    wtm_at "go"
    refine s_itemL (by decide) i0 (by decide) (by intro _ _; with_unfolding_all rfl) ?_
    wtm_at "go"
    exact does_ok (w_law_whole (n := 0) (Nat.le_of_lt (pow_up hmb (by decide)))) (by omega) rfl
end
end
section
section
variable {w : World} {n : Nat}
theorem small_of {op : Str} {a b : List Nat} {j k : Option Int} {m i : Int} (ea : wholeF a = some m) (eb : wholeF b = some i) (h1 : op = S "**" → PowOk m i) (h2 : op = S "<<" → ShlOk m i) (h3 : op = S "*" → m.natAbs < 2 ^ 70 ∧ i.natAbs < 2 ^ 70) : SmallOk op (.val a j) (.val b k) := by
  intro a' b' j' k' m' i' e1 e2 q1 q2
  cases e1; cases e2
  rw (occs := .all) [ea] at q1; cases q1
  rw (occs := .all) [eb] at q2; cases q2
  exact ⟨h1, h2, h3⟩
theorem due_shape {B : Nat} {r : Res} (h : Fine B r) : ∃ x t o, dueP r = .tup [.str x, t, o] ∧ (x = S "" → ∃ l k, r = .val l k ∧ o = optI k ∧ k = wholeF l) ∧ (¬ x = S "" → ∀ l k, r ≠ .val l k) := by
  cases r with
  | val l k => exact ⟨_, _, _, rfl, fun _ => ⟨l, k, rfl, rfl, h.2.1⟩, fun q => absurd rfl q⟩
  | err m c => exact ⟨_, _, _, rfl, fun q => absurd q h, fun _ l k q => by cases q⟩
theorem w_law_is_small {op : Str} {r s : Res} {B : Nat} (fr : Fine B r) (fs : Fine B s) : fnc w (n + 2) 516 [.str op, dueP r, dueP s] (fun p => ∃ b, p = .bool b ∧ (b = true → SmallOk op r s)) (fun _ => False) := by
  obtain ⟨x, t, o, er, hx, nx⟩ := due_shape fr
  obtain ⟨y, t', o', es, hy, ny⟩ := due_shape fs
  rw (occs := .all) [er, es]
  refine fnc_body (xs := ["op", "left", "right"]) (ρ₀ := [("op", .fz (.str op)), ("left", .fz (.tup [.str x, t, o])), ("right", .fz (.tup [.str y, t', o']))]) (ho := by k_is) (hcd := by k_is) (hbind := by wtm_at "a3") (by decide +kernel) rfl (by decide +kernel) (by decide +kernel) rfl rfl rfl rfl ?_
  wtm_at "go"
  refine .split2 bne_iff_ne.mp id (fun h => ?_) (fun h => ?_)
  · wtm_at "go"
    exact (fun _ a b j k m i e => absurd e (nx h a j))
  have h : x = S "" := by simpa using h
  obtain ⟨a, j, rfl, rfl, ea⟩ := hx h
  wtm_at "go"
  refine .split2 bne_iff_ne.mp id (fun h' => ?_) (fun h' => ?_)
  · wtm_at "go"
    exact (fun _ a b j k m i _ e => absurd e (ny h' b k))
  have h' : y = S "" := by simpa using h'
  obtain ⟨b, k, rfl, rfl, eb⟩ := hy h'
  wtm_at "go"
  rw (occs := .all) [optI_none]
  cases j with
  | none =>
    refine .t ?_
    wtm_at "go"
    exact (fun _ a' b' j' k' m i e _ q _ => by cases e; rw (occs := .all) [← ea] at q; cases q)
  | some m =>
    refine .f ?_
    wtm_at "go"
    rw (occs := .all) [optI_none]
    cases k with
    | none =>
      refine .t ?_
      wtm_at "go"
      exact (fun _ a' b' j' k' m i _ e _ q => by cases e; rw (occs := .all) [← eb] at q; cases q)
    | some i =>
      refine .f ?_
      simp only [optI]
      wtm_at "go"
      refine .split2 beq_iff_eq.mp beq_eq_false_iff_ne.mp (fun h1 => ?_) (fun h1 => ?_)
      · wtm_at "go"
        refine ev_callB (g := "max") (id := "max") g_max b_max ?_
        wtm_at "go"
        refine s_max2 (by omega) ?_
        wtm_at "go"
        rw (occs := .all) [abs_nat, abs_nat]
        refine fun hb => small_of ea.symm eb.symm (fun q => absurd (q.symm.trans h1) (by decide +kernel)) (fun q => absurd (q.symm.trans h1) (by decide +kernel)) (fun _ => ?_)
        have hb := of_decide_eq_true hb
        rw (occs := .all) [show (2 : Int) ^ (70 : Int).toNat = 2 ^ 70 from by decide] at hb
        split at hb <;> omega
      · wtm_at "go"
        refine .split2 beq_iff_eq.mp beq_eq_false_iff_ne.mp (fun h2 => ?_) (fun h2 => ?_)
        · have fin : PowOk m i → SmallOk op (.val a (some m)) (.val b (some i)) := fun q => small_of ea.symm eb.symm (fun _ => q) (fun q => absurd (q.symm.trans h2) (by decide +kernel)) (fun q => absurd q h1)
          wtm_at "go"
          rw (occs := .all) [abs_nat]
          refine .split2 of_decide_eq_true id (fun h3 => ?_) (fun h3 => ?_)
          · exact ⟨_, rfl, fun _ => fin (.inl (by omega))⟩
          · wtm_at "go"
            refine .split2 of_decide_eq_true id (fun h4 => ?_) (fun h4 => ?_)
            · exact ⟨_, rfl, fun _ => fin (.inr (.inl h4))⟩
            · wtm_at "go"
              rw (occs := .all) [p28]
              refine .split2 of_decide_eq_true id (fun h5 => ?_) (fun h5 => ?_)
              · exact ⟨_, rfl, fun _ => fin (.inr (.inr (.inl h5)))⟩
              · wtm_at "go"
                refine .split2 of_decide_eq_true id (fun h6 => ?_) (fun h6 => ?_)
                · wtm_at "go"
                  rw (occs := .all) [abs_nat, show (2 : Int) ^ (36 : Int).toNat = 2 ^ 36 from by decide]
                  refine fun hb => ?_
                  have hb := of_decide_eq_true hb
                  exact fin (.inr (.inr (.inr ⟨h6, by omega⟩)))
                · exact ⟨_, rfl, fun hb => by cases (hb)⟩
        · wtm_at "go"
          refine .split2 beq_iff_eq.mp beq_eq_false_iff_ne.mp (fun h3 => ?_) (fun h3 => ?_)
          · have fin : ShlOk m i → SmallOk op (.val a (some m)) (.val b (some i)) := fun q => small_of ea.symm eb.symm (fun q => absurd q h2) (fun _ => q) (fun q => absurd q h1)
            wtm_at "go"
            refine .split2 beq_iff_eq.mp id (fun h4 => ?_) (fun h4 => ?_)
            · exact ⟨_, rfl, fun _ => fin (.inl h4)⟩
            · wtm_at "go"
              refine .split2 of_decide_eq_true id (fun h5 => ?_) (fun h5 => ?_)
              · exact ⟨_, rfl, fun _ => fin (.inr (.inl h5))⟩
              · wtm_at "go"
                rw (occs := .all) [p31]
                refine .split2 of_decide_eq_true id (fun h6 => ?_) (fun h6 => ?_)
                · exact ⟨_, rfl, fun _ => fin (.inr (.inr (.inl h6)))⟩
                · wtm_at "go"
                  refine .split2 of_decide_eq_true id (fun h7 => ?_) (fun h7 => ?_)
                  · wtm_at "go"
                    rw (occs := .all) [abs_nat, show (2 : Int) ^ (80 : Int).toNat = 2 ^ 80 from by decide]
                    refine fun hb => ?_
                    have hb := of_decide_eq_true hb
                    exact fin (.inr (.inr (.inr ⟨h7, by omega⟩)))
                  · exact ⟨_, rfl, fun hb => by cases (hb)⟩
          · wtm_at "go"
            exact (fun _ => small_of ea.symm eb.symm (fun q => absurd q h2) (fun q => absurd q h3) (fun q => absurd q h1))
theorem six_a : ∀ j : Nat, j < 6 → ∃ m : Nat, m ≤ 3 ∧ [PV.int 2, .int 1, .int 3, .int 2, .int 0, .int 3][j]? = some (.int m)
  | 0, _ => ⟨2, by decide, rfl⟩
  | 1, _ => ⟨1, by decide, rfl⟩
  | 2, _ => ⟨3, by decide, rfl⟩
  | 3, _ => ⟨2, by decide, rfl⟩
  | 4, _ => ⟨0, by decide, rfl⟩
  | 5, _ => ⟨3, by decide, rfl⟩
theorem six_b : ∀ j : Nat, j < 6 → ∃ m : Nat, m ≤ 3 ∧ [PV.int 1, .int 1, .int 1, .int 1, .int 0, .int 2][j]? = some (.int m)
  | 0, _ => ⟨1, by decide, rfl⟩
  | 1, _ => ⟨1, by decide, rfl⟩
  | 2, _ => ⟨1, by decide, rfl⟩
  | 3, _ => ⟨1, by decide, rfl⟩
  | 4, _ => ⟨0, by decide, rfl⟩
  | 5, _ => ⟨2, by decide, rfl⟩
theorem fmod_nat (q : Int) {d : Nat} (hd : 0 < d) : ∃ j : Nat, q.fmod d = j ∧ j < d := by
  have h1 := Int.fmod_nonneg_of_pos q (by omega : (0 : Int) < d)
  have h2 := Int.fmod_lt_of_pos q (by omega : (0 : Int) < d)
  exact ⟨(q.fmod d).toNat, by omega, by omega⟩
theorem s_itemTn {value slice : Expr} {l : List PV} {j : Nat} {p : PV} {Q : PV → Prop} (hj : j < l.length) (hp : l[j]? = some p) (hl : l.length ≤ 1000)
    (hs : ∀ a t, subscripted slice false (Value.ref a) (Value.int j t) = operate [Value.ref a, Value.int j t] (getItem (Value.ref a) (Value.int j t))) (h : Q p) : ∃ c, Op2 w n (subscriptTail value slice) (.tup l) (.int j) c ∧ Q c :=
  s_itemT (j := j) (by unfold seqIndex?; simp; omega) hp (by omega) (by omega) hs h
structure Many (kind : Nat) (q : Int) (m : Nat) : Prop where
  le : m ≤ 3
  un : kind = 3 → m = 1
  bin : kind = 4 ∨ kind = 5 → m = 2
  log : kind = 7 → m = if q.fmod 3 = 2 then 3 else 2
theorem w_law_many {kind : Nat} {q : Int} (hk : kind < 8) : fnc w (n + 1) 523 [.int kind, .int q] (fun p => ∃ m : Nat, p = .int m ∧ Many kind q m) (fun _ => False) := by
  refine fnc_body (xs := ["kind", "q"]) (ρ₀ := [("kind", .fz (.int kind)), ("q", .fz (.int q))]) (ho := by k_is) (hcd := by k_is) (hbind := by wtm_at "a2") (by decide +kernel) rfl (by decide +kernel) (by decide +kernel) rfl rfl rfl rfl ?_
  wtm_at "go"
  refine .split2 beq_iff_eq.mp beq_eq_false_iff_ne.mp (fun h => ?_) (fun h => ?_)
  · have h : kind = 6 := by omega
    wtm_at "go"
    refine s_mod (by decide) ?_
    wtm_at "go"
    obtain ⟨j, hj, hj6⟩ := fmod_nat (q.fdiv 8) (d := 6) (by decide)
    refine .split (fun h1 => ?_) (fun h1 => ?_)
    · wtm_at "go"
      refine s_div (by decide) (PyProof.noPylong_small (by decide)) ?_
      wtm_at "go"
      refine s_mod (by decide) ?_
      rw (occs := .all) [show (q.fdiv 8).fmod 6 = (j : Int) from hj]
      obtain ⟨m, h2, h3⟩ := six_a j hj6
      refine s_itemTn hj6 h3 (by decide) (by intro _ _; with_unfolding_all rfl) ?_
      exact ⟨m, rfl, h2, by omega, by omega, by omega⟩
    · wtm_at "go"
      refine s_div (by decide) (PyProof.noPylong_small (by decide)) ?_
      wtm_at "go"
      refine s_mod (by decide) ?_
      rw (occs := .all) [show (q.fdiv 8).fmod 6 = (j : Int) from hj]
      obtain ⟨m, h2, h3⟩ := six_b j hj6
      refine s_itemTn hj6 h3 (by decide) (by intro _ _; with_unfolding_all rfl) ?_
      exact ⟨m, rfl, h2, by omega, by omega, by omega⟩
  · wtm_at "go"
    refine s_mod (by decide) ?_
    wtm_at "go"
    have key : ∀ v : Nat, v ≤ 3 → ∃ m : Nat, m ≤ 3 ∧ (kind = 3 → m = 1) ∧ (kind = 4 ∨ kind = 5 → m = 2) ∧ (kind = 7 → m = v) ∧ [PV.int 0, .int 0, .int 0, .int 1, .int 2, .int 2, .int 0, .int v][kind]? = some (.int m) := fun v hv => by
      have : kind = 0 ∨ kind = 1 ∨ kind = 2 ∨ kind = 3 ∨ kind = 4 ∨ kind = 5 ∨ kind = 6 ∨ kind = 7 := by omega
      rcases this with rfl | rfl | rfl | rfl | rfl | rfl | rfl | rfl
      · exact ⟨0, by decide, by decide, by decide, fun q => by omega, rfl⟩
      · exact ⟨0, by decide, by decide, by decide, fun q => by omega, rfl⟩
      · exact ⟨0, by decide, by decide, by decide, fun q => by omega, rfl⟩
      · exact ⟨1, by decide, by decide, by decide, fun q => by omega, rfl⟩
      · exact ⟨2, by decide, by decide, by decide, fun q => by omega, rfl⟩
      · exact ⟨2, by decide, by decide, by decide, fun q => by omega, rfl⟩
      · exact ⟨0, by decide, by decide, by decide, fun q => by omega, rfl⟩
      · exact ⟨v, hv, by omega, by omega, fun _ => rfl, rfl⟩
    refine .split2 beq_iff_eq.mp beq_eq_false_iff_ne.mp (fun h1 => ?_) (fun h1 => ?_)
    · obtain ⟨m, a1, a2, a3, a4, a5⟩ := key 3 (by decide)
      wtm_at "go"
      refine s_itemTn hk a5 (by decide) (by intro _ _; with_unfolding_all rfl) ?_
      exact ⟨m, rfl, a1, a2, a3, fun q => by rw [if_pos h1]; exact a4 q⟩
    · obtain ⟨m, a1, a2, a3, a4, a5⟩ := key 2 (by decide)
      wtm_at "go"
      refine s_itemTn hk a5 (by decide) (by intro _ _; with_unfolding_all rfl) ?_
      exact ⟨m, rfl, a1, a2, a3, fun q => by rw [if_neg h1]; exact a4 q⟩
end
end
section
section
variable {w : World} {n : Nat}
noncomputable def knownI : List (Str × Int) := [(S "0x1F", 31), (S " 7\t", 7), (S "010", 10), (S "-0", 0), (S "-0b101", -5), (S "+0O17", 15), (S "0D9", 9)]
theorem known_look (x : Str) : ∀ l : List (Str × Int), ((l.map fun p => (p.1, PV.int p.2)).lookup x).getD .none = optI (l.lookup x)
  | [] => rfl
  | p :: r => by
    rw (occs := .all) [List.map_cons, List.lookup_cons, List.lookup_cons]
    cases x == p.1
    · exact known_look x r
    · rfl
theorem known_ok : ∀ l ∈ txts, knownI.lookup (mkS l) = wholeF l := by decide +kernel
theorem edge_at {E : List Int} (hl : E.length = 10) (hb : ∀ e ∈ E, e.natAbs < 2 ^ 70) {j : Nat} (hj : j < 10) : ∃ e : Int, (E.map PV.int)[j]? = some (.int e) ∧ e.natAbs < 2 ^ 70 :=
  ⟨E[j], by rw [List.getElem?_map, List.getElem?_eq_getElem (by omega)]; rfl, hb _ (List.getElem_mem _)⟩
theorem w_law_leaf {kind : Nat} {q : Int} : fnc w (n + 2) 406 [.int kind, .int q] (fun p => ∃ t r, p = .tup [t, dueP r] ∧ G t r 0) (fun _ => False) := by
  refine fnc_body (xs := ["kind", "q"]) (ρ₀ := [("kind", .fz (.int kind)), ("q", .fz (.int q))]) (ho := by k_is) (hcd := by k_is) (hbind := by wtm_at "a2") (by decide +kernel) rfl (by decide +kernel) (by decide +kernel) rfl rfl rfl rfl ?_
  refine exs_cut (fun ρ => Sub [("q", .fz (.int q))] ρ) ?_ (fun ρ hs1 => exs_sub hs1 ?_)
  · wtm_at "go"
    refine .split (fun h => ?_) (fun h => ?_)
    · wtm_at "go"
      refine ev_call0 g_law_texts f_law_texts ?_ (by omega)
      refine does_ok (w_law_texts (n := 0)) (by omega) ?_
      wtm_at "go"
      refine s_mod (by decide) ?_
      obtain ⟨j, hj, hj20⟩ := fmod_nat q (d := 20) (by decide)
      rw (occs := .all) [show q.fmod 20 = (j : Int) from hj]
      have hl : (txts.map strP).length = 20 := by rw [List.length_map]; rfl
      obtain ⟨l, hlj⟩ : ∃ l, txts[j]? = some l := ⟨_, List.getElem?_eq_getElem (show j < txts.length from hj20)⟩
      have hmem : l ∈ txts := List.mem_of_getElem? hlj
      refine s_itemTn (p := .str (mkS l)) (by rw [hl]; exact hj20) (by rw [List.getElem?_map, hlj]; rfl) (by rw [hl]; decide) (by intro _ _; with_unfolding_all rfl) ?_
      wtm_at "go"
      refine ⟨rfl, rfl, by simp only [List.map_cons, List.map_nil]; decide +kernel, ?_⟩
      wtm_at "go"
      refine ev_get1 ?_
      wtm_at "go"
      refine ⟨_, rfl, ?_⟩
      wtm_at "go"
      refine ⟨_, .val l (wholeF l), ?_, .text hmem⟩
      rw (occs := .all) [show dueP (.val l (wholeF l)) = .tup [.str (S ""), .str (mkS l), optI (wholeF l)] from rfl, ← known_ok l hmem, ← known_look]
      rfl
    · wtm_at "go"
      wtm_at "sub"
  refine exs_cut (fun ρ => ∃ E : List Int, E.length = 10 ∧ (∀ e ∈ E, e.natAbs < 2 ^ 70) ∧ Sub [("q", .fz (.int q)), ("edges", .fz (.tup (E.map PV.int)))] ρ) ?_ (fun ρ => fx1 fun E => fn3 fun hE1 hE2 hs1 => exs_sub hs1 ?_)
  · wtm_at "go"
    refine s_pow (by decide) (by decide) ?_
    wtm_at "go"
    refine ⟨[2 ^ (63 : Int).toNat, 2 ^ (64 : Int).toNat - 1, 2 ^ (31 : Int).toNat, 2 ^ (28 : Int).toNat, 2 ^ (40 : Int).toNat, -2 ^ (63 : Int).toNat, 10 ^ (20 : Int).toNat, 4096, 64, 1], rfl, by decide, ?_⟩
    simp only [List.map_cons, List.map_nil]
    wtm_at "sub"
  wtm_at "go"
  refine s_div (by decide) (PyProof.noPylong_small (by decide)) ?_
  generalize q.fdiv 4 = far
  obtain ⟨j, hj, hj10⟩ := fmod_nat far (d := 10) (by decide)
  obtain ⟨e, he, heb⟩ := edge_at hE1 hE2 hj10
  have hEl : (E.map PV.int).length = 10 := by rw [List.length_map, hE1]
  wtm_at "go"
  refine s_mod (by decide) ?_
  rw (occs := .all) [show far.fmod 10 = (j : Int) from hj]
  refine s_itemTn (p := .int e) (by omega) he (by omega) (by intro _ _; with_unfolding_all rfl) ?_
  wtm_at "go"
  refine s_mod (by decide) ?_
  wtm_at "go"
  refine s_mod (by decide) ?_
  rw (occs := .all) [show far.fmod 10 = (j : Int) from hj]
  refine s_itemTn (p := .int e) (by omega) he (by omega) (by intro _ _; with_unfolding_all rfl) ?_
  wtm_at "go"
  refine s_mod (by decide) ?_
  wtm_at "go"
  refine s_mod (by decide) ?_
  rw (occs := .all) [show (2 : Int) ^ (70 : Int).toNat = 2 ^ 70 from by decide, show (2 : Int) ^ (69 : Int).toNat = 2 ^ 69 from by decide]
  have b41 := Int.fmod_nonneg_of_pos far (by decide : (0 : Int) < 41)
  have b41' := Int.fmod_lt_of_pos far (by decide : (0 : Int) < 41)
  have b70 := Int.fmod_nonneg_of_pos far (by decide : (0 : Int) < 2 ^ 70)
  have b70' := Int.fmod_lt_of_pos far (by decide : (0 : Int) < 2 ^ 70)
  obtain ⟨i, hi, hi4⟩ := fmod_nat q (d := 4) (by decide)
  rw (occs := .all) [show q.fmod 4 = (i : Int) from hi]
  generalize far.fmod 41 = x at *
  generalize far.fmod (2 ^ 70) = y at *
  obtain ⟨v, hv, hvb⟩ : ∃ v : Int, [PV.int e, .int (x - 20), .int (e - 1), .int (y - 2 ^ 69)][i]? = some (.int v) ∧ v.natAbs < 2 ^ 145 := by
    have : i = 0 ∨ i = 1 ∨ i = 2 ∨ i = 3 := by omega
    rcases this with rfl | rfl | rfl | rfl
    · exact ⟨_, rfl, by omega⟩
    · exact ⟨_, rfl, by omega⟩
    · exact ⟨_, rfl, Nat.lt_of_le_of_lt (Int.natAbs_sub_le e 1) (Nat.lt_of_le_of_lt (Nat.succ_le_of_lt (by assumption)) (by decide))⟩
    · exact ⟨_, rfl, by omega⟩
  refine s_itemTn (p := .int v) hi4 hv (by simp) (by intro _ _; with_unfolding_all rfl) ?_
  wtm_at "go"
  refine ev_call g_law_whole f_law_whole ?_ (by omega)
  wtm_at "go"
  refine does_ok (w_law_whole (n := 0) (Nat.le_of_lt (pow_up hvb (by decide)))) (by omega) ?_
  wtm_at "go"
  exact ⟨_, wholeR v, rfl, .num hvb⟩
end
end
section
section
variable {w : World} {n : Nat}
noncomputable def nodeOps : List Str := [S "+", S "-", S "*", S "/", S "%", S "**", S "<<", S ">>", S "&", S "|", S "^", S "==", S "!=", S "<", S ">", S "<=", S ">=", S "eq", S "ne", S "lt", S "gt", S "le", S "ge", S "in", S "ni"]
noncomputable def nodeUn : List Str := [S "-", S "+", S "~", S "!"]
noncomputable def nodeFn : List Str := [S "abs", S "bool", S "entier", S "int", S "isqrt", S "wide", S "max", S "min"]
theorem node_op : ∀ j : Nat, j < 25 → ∃ op ∈ binOps, nodeOps[j]? = some op := by decide +kernel
theorem node_un : ∀ j : Nat, j < 4 → ∃ op ∈ unOps, nodeUn[j]? = some op := by decide +kernel
theorem node_fn : ∀ j : Nat, j < 8 → ∃ op ∈ callNames, nodeFn[j]? = some op := by decide +kernel
noncomputable abbrev Lnd (kind : Int) (q : Int) (l : List (PV × Res)) : PEnv := [("kind", .fz (.int kind)), ("q", .fz (.int q)), ("trees", .fz (.lst (l.map (·.1)))), ("dues", .fz (.lst ((l.map (·.2)).map dueP)))]
theorem small_minus {r s : Res} : SmallOk (S "-") r s := fun a b j k m i _ _ _ _ => ⟨fun q => absurd q (by decide +kernel), fun q => absurd q (by decide +kernel), fun q => absurd q (by decide +kernel)⟩
theorem len_two {α : Type} : ∀ {l : List α}, l.length = 2 → ∃ a b, l = [a, b]
  | [a, b], _ => ⟨a, b, rfl⟩
theorem len_three {α : Type} : ∀ {l : List α}, l.length = 3 → ∃ a b c, l = [a, b, c]
  | [a, b, c], _ => ⟨a, b, c, rfl⟩
theorem w_law_node {kind : Nat} {q : Int} {l : List (PV × Res)} {h : Nat} (hk3 : 3 ≤ kind) (hk8 : kind < 8) (hm : Many kind q l.length) (hg : ∀ x ∈ l, G x.1 x.2 h) (hh : h ≤ 14) :
    fnc w (n + 6) 530 [.int kind, .int q, .lst (l.map (·.1)), .lst ((l.map (·.2)).map dueP)] (fun p => ∃ t r, p = .tup [t, dueP r] ∧ G t r (h + 1)) (fun _ => False) := by
  have fine : ∀ x ∈ l, Fine 185 x.2 := fun x hx => (fine_G (hg x hx) (by omega)).mono (by omega)
  refine fnc_body (xs := ["kind", "q", "trees", "dues"]) (ρ₀ := Lnd kind q l) (ho := by k_is) (hcd := by k_is) (hbind := by wtm_at "a4") (by decide +kernel) rfl (by decide +kernel) (by decide +kernel) rfl rfl rfl rfl ?_
  have hll : (l.map (·.1)).length ≤ sizeLine := tooBig (by have := hm.le; rw [List.length_map]; omega)
  refine exs_cutS (L := (Lnd kind q l)) (P := ¬ kind = 3) ?_ (fun h3 => ?_)
  · wtm_at "go"
    refine .split2 beq_iff_eq.mp beq_eq_false_iff_ne.mp (fun h1 => ?_) (fun h1 => ?_)
    · have h1 : kind = 3 := by omega
      obtain ⟨x, rfl⟩ : ∃ x, l = [x] := List.length_eq_one_iff.mp (hm.un h1)
      wtm_at "go"
      refine s_mod (by decide) ?_
      obtain ⟨j, hj, hj4⟩ := fmod_nat q (d := 4) (by decide)
      rw (occs := .all) [show q.fmod 4 = (j : Int) from hj]
      obtain ⟨op, hop, hopj⟩ := node_un j hj4
      refine s_itemTn (p := .str op) hj4 (by rw [show [PV.str (Str.ofString "-"), PV.str (Str.ofString "+"), PV.str (Str.ofString "~"), PV.str (Str.ofString "!")] = nodeUn.map PV.str from rfl, List.getElem?_map, hopj]; rfl) (by decide) (by intro _ _; with_unfolding_all rfl) ?_
      wtm_at "go"
      refine s_itemL (p := x.1) (by decide) rfl (by decide) (by intro _ _; with_unfolding_all rfl) ?_
      wtm_at "go"
      refine ev_call g_law_unary f_law_unary ?_ (by omega)
      wtm_at "go"
      refine s_itemL (p := dueP x.2) (by decide) rfl (by decide) (by intro _ _; with_unfolding_all rfl) ?_
      wtm_at "go"
      refine does_ok (w_law_unary (n := 0) hop (fine x (by simp)) (by decide)) (by omega) ?_
      wtm_at "go"
      exact ⟨_, resUn op x.2, rfl, .un hop (hg x (by simp))⟩
    · wtm_at "go"
      exact ⟨by wtm_at "sub", by omega⟩
  refine exs_cutS (L := (Lnd kind q l)) (P := ¬ kind = 6) ?_ (fun h6 => ?_)
  · wtm_at "go"
    refine .split2 id beq_eq_false_iff_ne.mp (fun h1 => ?_) (fun h1 => ?_)
    · wtm_at "go"
      refine s_mod (by decide) ?_
      obtain ⟨j, hj, hj8⟩ := fmod_nat q (d := 8) (by decide)
      rw (occs := .all) [show q.fmod 8 = (j : Int) from hj]
      obtain ⟨name, hnm, hnj⟩ := node_fn j hj8
      refine s_itemTn (p := .str name) hj8 (by rw [show [PV.str (Str.ofString "abs"), PV.str (Str.ofString "bool"), PV.str (Str.ofString "entier"), PV.str (Str.ofString "int"), PV.str (Str.ofString "isqrt"), PV.str (Str.ofString "wide"), PV.str (Str.ofString "max"), PV.str (Str.ofString "min")] = nodeFn.map PV.str from rfl, List.getElem?_map, hnj]; rfl) (by simp) (by intro _ _; with_unfolding_all rfl) ?_
      wtm_at "go"
      refine ⟨_, op_tupleL hll, ?_⟩
      wtm_at "go"
      refine ev_call g_law_call f_law_call ?_ (by omega)
      wtm_at "go"
      refine does_ok (w_law_call (n := 0) (B := 185) hnm (fun r hr => ?_) (by decide) (by rw [List.length_map]; exact hm.le)) (by omega) ?_
      · obtain ⟨x, hx, rfl⟩ := List.mem_map.mp hr
        exact fine x hx
      wtm_at "go"
      exact ⟨_, resCall name (l.map (·.2)), rfl, .call hnm hm.le hg⟩
    · wtm_at "go"
      exact ⟨by wtm_at "sub", by omega⟩
  refine exs_cut (fun ρ => Sub (Lnd kind q l) ρ ∧ ¬ kind = 7) ?_ ?_
  · wtm_at "go"
    refine .split2 beq_iff_eq.mp beq_eq_false_iff_ne.mp (fun h1 => ?_) (fun h1 => ?_)
    · have h1 : kind = 7 := by omega
      have hlen := hm.log h1
      obtain ⟨j, hj, hj3⟩ := fmod_nat q (d := 3) (by decide)
      rw (occs := .all) [show q.fmod 3 = (j : Int) from hj] at hlen
      wtm_at "go"
      refine s_mod (by decide) ?_
      rw (occs := .all) [show q.fmod 3 = (j : Int) from hj]
      have : j = 0 ∨ j = 1 ∨ j = 2 := by omega
      rcases this with rfl | rfl | rfl
      · rw (occs := .all) [if_neg (by decide)] at hlen
        obtain ⟨x, y, rfl⟩ := len_two hlen
        refine s_itemTn (j := 0) (p := .str (S "and")) (by decide) rfl (by decide) (by intro _ _; with_unfolding_all rfl) ?_
        wtm_at "go"
        refine ⟨_, op_tupleL hll, ?_⟩
        wtm_at "go"
        refine ⟨_, op_addT (by simp) (by simp) (tooBig (by simp)), ?_⟩
        wtm_at "go"
        refine ev_call g_law_logic f_law_logic ?_ (by omega)
        wtm_at "go"
        refine s_mod (by decide) ?_
        rw (occs := .all) [show q.fmod 3 = ((0 : Nat) : Int) from hj]
        wtm_at "go"
        refine does_ok (w_law_logic (n := 0) (isOr := false) (fine x (by simp)) (fine y (by simp))) (by omega) ?_
        wtm_at "go"
        exact ⟨_, resLog false x.2 y.2, rfl, .log (isOr := false) (hg x (by simp)) (hg y (by simp))⟩
      · rw (occs := .all) [if_neg (by decide)] at hlen
        obtain ⟨x, y, rfl⟩ := len_two hlen
        refine s_itemTn (j := 1) (p := .str (S "or")) (by decide) rfl (by decide) (by intro _ _; with_unfolding_all rfl) ?_
        wtm_at "go"
        refine ⟨_, op_tupleL hll, ?_⟩
        wtm_at "go"
        refine ⟨_, op_addT (by simp) (by simp) (tooBig (by simp)), ?_⟩
        wtm_at "go"
        refine ev_call g_law_logic f_law_logic ?_ (by omega)
        wtm_at "go"
        refine s_mod (by decide) ?_
        rw (occs := .all) [show q.fmod 3 = ((1 : Nat) : Int) from hj]
        wtm_at "go"
        refine does_ok (w_law_logic (n := 0) (isOr := true) (fine x (by simp)) (fine y (by simp))) (by omega) ?_
        wtm_at "go"
        exact ⟨_, resLog true x.2 y.2, rfl, .log (isOr := true) (hg x (by simp)) (hg y (by simp))⟩
      · rw (occs := .all) [if_pos (by decide)] at hlen
        obtain ⟨x, y, z, rfl⟩ := len_three hlen
        refine s_itemTn (j := 2) (p := .str (S "if")) (by decide) rfl (by decide) (by intro _ _; with_unfolding_all rfl) ?_
        wtm_at "go"
        refine ⟨_, op_tupleL hll, ?_⟩
        wtm_at "go"
        refine ⟨_, op_addT (by simp) (by simp) (tooBig (by simp)), ?_⟩
        wtm_at "go"
        refine ev_call g_law_logic f_law_logic ?_ (by omega)
        wtm_at "go"
        refine s_mod (by decide) ?_
        rw (occs := .all) [show q.fmod 3 = ((2 : Nat) : Int) from hj]
        wtm_at "go"
        refine does_ok (w_law_if (n := 0) (fine x (by simp))) (by omega) ?_
        wtm_at "go"
        exact ⟨_, resIf x.2 y.2 z.2, rfl, .ite (hg x (by simp)) (hg y (by simp)) (hg z (by simp))⟩
    · wtm_at "go"
      exact ⟨by wtm_at "sub", by omega⟩
  rintro ρ ⟨hs1, h7⟩
  with_reducible refine exs_sub hs1 ?_
  obtain ⟨x, y, rfl⟩ := len_two (hm.bin (by omega))
  have fx := fine x (by simp)
  have fy := fine y (by simp)
  show exs _ _ _ _ [("kind", .fz (.int kind)), ("q", .fz (.int q)), ("trees", .fz (.lst [x.1, y.1])), ("dues", .fz (.lst [dueP x.2, dueP y.2]))] _ _ _
  with_reducible refine exs_cut (fun ρ => ∃ op ∈ binOps, Sub [("op", .fz (.str op)), ("trees", .fz (.lst [x.1, y.1])), ("dues", .fz (.lst [dueP x.2, dueP y.2]))] ρ) ?_ ?_
  · wtm_at "go"
    refine s_mod (by decide) ?_
    obtain ⟨j, hj, hj25⟩ := fmod_nat q (d := 25) (by decide)
    rw (occs := .all) [show q.fmod 25 = (j : Int) from hj]
    obtain ⟨op, hop, hopj⟩ := node_op j hj25
    refine s_itemTn (p := .str op) hj25 ?_ (by simp) (by intro _ _; with_unfolding_all rfl) ?_
    · refine Eq.trans (b := (nodeOps.map PV.str)[j]?) rfl ?_
      rw (occs := .all) [List.getElem?_map, hopj]; rfl
    wtm_at "go"
    exact ⟨op, hop, by wtm_at "sub"⟩
  rintro ρ ⟨op, hop, hs1⟩
  with_reducible refine exs_sub hs1 ?_
  with_reducible refine exs_cut (fun ρ => ∃ op ∈ binOps, SmallOk op x.2 y.2 ∧ Sub [("op", .fz (.str op)), ("trees", .fz (.lst [x.1, y.1])), ("dues", .fz (.lst [dueP x.2, dueP y.2]))] ρ) ?_ ?_
  · wtm_at "go"
    refine ev_call g_law_is_small f_law_is_small ?_ (by omega)
    wtm_at "go"
    refine s_itemL (p := dueP x.2) (by decide) rfl (by decide) (by intro _ _; with_unfolding_all rfl) ?_
    wtm_at "go"
    refine s_itemL (p := dueP y.2) (by decide) rfl (by decide) (by intro _ _; with_unfolding_all rfl) ?_
    wtm_at "go"
    refine fnc_mono (w_law_is_small (n := 0) fx fy) (by omega) ?_ (fun _ q => q.elim)
    rintro p ⟨b, rfl, hb⟩
    wtm_at "go"
    cases b with
    | true =>
      wtm_at "gd"
      exact ⟨op, hop, hb rfl, by wtm_at "sub"⟩
    | false =>
      wtm_at "gd"
      exact ⟨_, by decide +kernel, small_minus, by wtm_at "sub"⟩
  rintro ρ ⟨op, hop, hsm, hs1⟩
  with_reducible refine exs_sub hs1 ?_
  wtm_at "go"
  refine s_itemL (p := x.1) (by decide) rfl (by decide) (by intro _ _; with_unfolding_all rfl) ?_
  wtm_at "go"
  refine s_itemL (p := y.1) (by decide) rfl (by decide) (by intro _ _; with_unfolding_all rfl) ?_
  wtm_at "go"
  refine ev_call g_law_binary f_law_binary ?_ (by omega)
  wtm_at "go"
  refine s_itemL (p := dueP x.2) (by decide) rfl (by decide) (by intro _ _; with_unfolding_all rfl) ?_
  wtm_at "go"
  refine s_itemL (p := dueP y.2) (by decide) rfl (by decide) (by intro _ _; with_unfolding_all rfl) ?_
  wtm_at "go"
  refine does_ok (w_law_binary (n := 0) hop fx fy (by decide) hsm) (by omega) ?_
  wtm_at "go"
  exact ⟨_, resBin op x.2 y.2, rfl, .bin hop (hg x (by simp)) (hg y (by simp)) hsm⟩
end
end
noncomputable abbrev okS (x : Str) : Prop := PyData.strOk x = true
theorem ok_app {a b : Str} (h : okS a) (h' : okS b) : okS (a ++ b) := by
  show (a.cps ++ b.cps).all (· < 0x110000) = true
  rw (occs := .all) [Array.all_append]
  exact Bool.and_eq_true_iff.mpr ⟨h, h'⟩
theorem ok_mk {l : List Nat} (h : ∀ c ∈ l, c < 0x110000) : okS (mkS l) := by
  show l.toArray.all (· < 0x110000) = true
  rw (occs := .all) [List.all_toArray, List.all_eq_true]
  intro c hc
  exact decide_eq_true (h c hc)
theorem txts_low : ∀ l ∈ txts, ∀ c ∈ l, c < 0x110000 := by decide +kernel
theorem Plain.low {l : List Nat} (h : Plain l) : ∀ c ∈ l, c < 0x110000 := by
  rcases h with ⟨i, rfl, h⟩ | h
  · intro c hc
    have := num_nonblank i c hc
    omega
  · exact txts_low l h
noncomputable def Shp (r : Res) : Prop := ∀ m c, r = .err m c → okS m ∧ ∀ x ∈ c, okS x
theorem shp_val {l : List Nat} {k : Option Int} : Shp (.val l k) := fun m c e => by cases e
theorem shp_err {m : Str} {c : List Str} (h : okS m) (h' : ∀ x ∈ c, okS x) : Shp (.err m c) := fun m' c' e => by cases e; exact ⟨h, h'⟩
noncomputable def ShpX (x : Exc) : Prop := okS x.msg ∧ ∀ y ∈ x.code, okS y
theorem shp_exR {x : Exc} (h : ShpX x) : Shp (exR x) := shp_err h.1 h.2
theorem shp_toR {a : AR} (h : ∀ x, a = .error x → ShpX x) : Shp (toR a) := by
  cases a with
  | ok i => exact shp_val
  | error x => exact shp_err (h x rfl).1 (h x rfl).2
theorem all1 {a : Str} (h : okS a) : ∀ x ∈ [a], okS x := fun x hx => by
  rcases List.mem_cons.mp hx with rfl | hx
  · exact h
  · cases hx
theorem allC {a : Str} {r : List Str} (h : okS a) (h' : ∀ x ∈ r, okS x) : ∀ x ∈ a :: r, okS x := fun x hx => by
  rcases List.mem_cons.mp hx with rfl | hx
  · exact h
  · exact h' x hx
theorem shp_noTruth {l : List Nat} (h : Plain l) : Shp (noTruth l) :=
  shp_err (ok_app (ok_app (by decide +kernel) (ok_mk h.low)) (by decide +kernel)) (by decide +kernel)
theorem ok_shown {l : List Nat} (h : Plain l) : okS (shownF l) := by
  unfold shownF
  split
  · decide +kernel
  · exact ok_app (ok_app (ok_app (by decide +kernel) (by decide +kernel)) (ok_mk h.low)) (by decide +kernel)
theorem ok_sort {l : List Nat} : okS (sortF l) := by
  unfold sortF
  split <;> decide +kernel
theorem shp_noOperand {op : Str} {l : List Nat} (ho : okS op) (h : Plain l) : Shp (noOperand op l) :=
  shp_err (ok_app (ok_app (ok_app (ok_app (by decide +kernel) (ok_shown h)) (by decide +kernel)) ho) (by decide +kernel)) (allC (by decide +kernel) (allC (by decide +kernel) (all1 ok_sort)))
theorem divZero_ok : ShpX divZero := ⟨by decide +kernel, by decide +kernel⟩
theorem powDomain_ok : ShpX powDomain := ⟨by decide +kernel, by decide +kernel⟩
theorem powLarge_ok : ShpX powLarge := ⟨by decide +kernel, by decide +kernel⟩
theorem shiftNeg_ok : ShpX shiftNeg := ⟨by decide +kernel, by decide +kernel⟩
theorem shiftBig_ok : ShpX shiftBig := ⟨by decide +kernel, by decide +kernel⟩
theorem braceX_ok : ShpX braceX := ⟨by decide +kernel, by decide +kernel⟩
theorem sqrtX_ok : ShpX sqrtX := ⟨by decide +kernel, by decide +kernel⟩
theorem power_ok {m k : Int} {x : Exc} (e : powerV m k = .error x) : ShpX x := by
  unfold powerV at e
  repeat' split at e
  all_goals first | (cases e; exact powDomain_ok) | (cases e; exact powLarge_ok) | cases e
theorem shl_ok {m k : Int} {x : Exc} (e : shlV m k = .error x) : ShpX x := by
  unfold shlV at e
  repeat' split at e
  all_goals first | (cases e; exact shiftNeg_ok) | (cases e; exact shiftBig_ok) | cases e
theorem shr_ok {m k : Int} {x : Exc} (e : shrV m k = .error x) : ShpX x := by
  unfold shrV at e
  repeat' split at e
  all_goals first | (cases e; exact shiftNeg_ok) | cases e
theorem arith_ok {op : Str} {m k : Int} {x : Exc} (e : arithV op m k = .error x) : ShpX x := by
  unfold arithV at e
  repeat' split at e
  all_goals first | exact power_ok e | exact shl_ok e | exact shr_ok e | (cases e; exact divZero_ok) | cases e
theorem fn_ok {name : Str} {ns : List Int} {x : Exc} (e : fnV name ns = .error x) : ShpX x := by
  unfold fnV at e
  repeat' split at e
  all_goals first | (cases e; exact sqrtX_ok) | cases e
theorem nums_ok : ∀ {ls : List (List Nat)} {x : Exc}, (∀ l ∈ ls, Plain l) → numsF ls = .error x → ShpX x
  | [], x, _, e => by cases e
  | l :: r, x, hp, e => by
    rw (occs := .all) [numsF] at e
    cases hw : wholeF l with
    | none =>
      rw (occs := .all) [hw] at e; cases e
      exact ⟨ok_app (ok_app (by decide +kernel) (ok_mk (hp l (by simp)).low)) (by decide +kernel), (by decide +kernel : ∀ y ∈ [S "TCL", S "VALUE", S "NUMBER"], okS y)⟩
    | some i =>
      rw (occs := .all) [hw] at e
      dsimp only at e
      cases hr : numsF r with
      | error y => rw (occs := .all) [hr] at e; cases e; exact nums_ok (fun l hl => hp l (by simp [hl])) hr
      | ok ms => rw (occs := .all) [hr] at e; cases e
theorem unOps_ok : ∀ x ∈ unOps, okS x := by decide +kernel
theorem binOps_ok : ∀ x ∈ binOps, okS x := by decide +kernel
theorem callNames_ok : ∀ x ∈ callNames, okS x := by decide +kernel
theorem count_ok {a b : Str} (h : okS a) (h' : okS b) : ShpX (countX a b) :=
  ⟨ok_app (ok_app (ok_app (ok_app (by decide +kernel) h) (by decide +kernel)) h') (by decide +kernel), (by decide +kernel : ∀ y ∈ [S "TCL", S "WRONGARGS"], okS y)⟩
theorem shp_callV {name : Str} {ls : List (List Nat)} (hn : okS name) (hp : ∀ l ∈ ls, Plain l) : Shp (callV name ls) := by
  unfold callV
  split
  · exact shp_exR (count_ok (by decide +kernel) hn)
  rename_i hne
  split
  · exact shp_exR (count_ok (by decide +kernel) hn)
  split
  · have : Plain (ls.headD []) := by
      cases ls with
      | nil => exact absurd rfl hne
      | cons l r => exact hp l (by simp)
    split
    · exact shp_noTruth this
    · exact shp_val
  · cases e : numsF ls with
    | error x => exact shp_exR (nums_ok hp e)
    | ok ns => exact shp_toR (fun x e => fn_ok e)
theorem shp_texts : ∀ {rs : List Res} {x : Exc}, (∀ r ∈ rs, Shp r) → textsR rs = .error x → ShpX x
  | [], x, _, e => by cases e
  | .err m c :: r, x, h, e => by
    cases e
    exact h _ (List.mem_cons_self (a := Res.err m c) (l := r)) m c rfl
  | .val l k :: r, x, h, e => by
    rw (occs := .all) [textsR] at e
    cases e' : textsR r with
    | error y => rw (occs := .all) [e'] at e; cases e; exact shp_texts (fun r hr => h r (by simp [hr])) e'
    | ok ls => rw (occs := .all) [e'] at e; cases e
theorem shp_G {p : PV} {r : Res} {h : Nat} (g : G p r h) : h ≤ 20 → Shp r := by
  induction g with
  | num hi => exact fun _ => shp_val
  | text hl => exact fun _ => shp_val
  | @un op p r h ho g ih =>
    intro hh
    have f := fine_G g (by omega)
    cases r with
    | err m c => exact ih (by omega)
    | val l k =>
      show Shp (unaryV op l (wholeF l))
      have no := shp_noOperand (unOps_ok op ho) f.1
      unfold unaryV
      split
      · cases truthF l (wholeF l) with
        | none => exact no
        | some b => exact shp_val
      · cases wholeF l with
        | none => exact no
        | some v => exact shp_val
  | @bin op p q r s h ho g g' hs ih ih' =>
    intro hh
    have f := fine_G g (by omega)
    have f' := fine_G g' (by omega)
    cases r with
    | err m c => exact ih (by omega)
    | val l k =>
      cases s with
      | err m c => exact ih' (by omega)
      | val l' k' =>
        show Shp (binaryV op l l')
        unfold binaryV
        split
        · exact shp_val
        split
        · exact shp_val
        split
        · split
          · exact shp_err braceX_ok.1 braceX_ok.2
          · exact shp_val
        · cases wholeF l with
          | none => exact shp_noOperand (binOps_ok op ho) f.1
          | some m =>
            cases wholeF l' with
            | none => exact shp_noOperand (binOps_ok op ho) f'.1
            | some i => exact shp_toR (fun x e => arith_ok e)
  | @call name l h hn hl g ih =>
    intro hh
    show Shp (match textsR (l.map (·.2)) with | .ok ls => callV name ls | .error x => exR x)
    have hf : ∀ r ∈ l.map (·.2), Fine (145 + 2 * h) r := by
      intro r hr
      obtain ⟨x, hx, rfl⟩ := List.mem_map.mp hr
      exact fine_G (g x hx) (by omega)
    have hsh : ∀ r ∈ l.map (·.2), Shp r := by
      intro r hr
      obtain ⟨x, hx, rfl⟩ := List.mem_map.mp hr
      exact ih x hx (by omega)
    cases e : textsR (l.map (·.2)) with
    | error x => exact shp_exR (shp_texts hsh e)
    | ok ls => exact shp_callV (callNames_ok name hn) (fun a ha => (((texts_fine hf).1 ls e).1 a ha).1)
  | @log isOr p q r s h g g' ih ih' =>
    intro hh
    have f := fine_G g (by omega)
    have f' := fine_G g' (by omega)
    cases r with
    | err m c => exact ih (by omega)
    | val l k =>
      unfold resLog
      dsimp only
      cases truthF l (wholeF l) with
      | none => exact shp_noTruth f.1
      | some b =>
        dsimp only
        split
        · exact shp_val
        · cases s with
          | err m c => exact ih' (by omega)
          | val l' k' =>
            dsimp only
            cases truthF l' (wholeF l') with
            | none => exact shp_noTruth f'.1
            | some b' => exact shp_val
  | @ite p q t r s u h g g' g'' ih ih' ih'' =>
    intro hh
    have f := fine_G g (by omega)
    cases r with
    | err m c => exact ih (by omega)
    | val l k =>
      unfold resIf
      dsimp only
      cases truthF l (wholeF l) with
      | none => exact shp_noTruth f.1
      | some b =>
        cases b
        · exact ih'' (by omega)
        · exact ih' (by omega)
theorem flat_strs : ∀ c : List Str, PV.flatL (c.map .str) = true
  | [] => rfl
  | x :: r => by rw [List.map_cons, PV.flatL, flat_strs r]; rfl
theorem lay_strs : ∀ {c : List Str}, (∀ x ∈ c, okS x) → PyData.canLayAll0 (datOfL (c.map .str)) = true
  | [], _ => rfl
  | x :: r, h => by
    rw (occs := .all) [List.map_cons, datOfL, PyData.canLayAll0, lay_strs (fun y hy => h y (by simp [hy]))]
    have : PyData.canLay0 (datOf (.str x)) = true := by rw [datOf, PyData.canLay0]; exact h x (by simp)
    rw (occs := .all) [this]; rfl
theorem depth_strs : ∀ c : List Str, PyData.depthAll (datOfL (c.map .str)) = 0
  | [] => rfl
  | x :: r => by
    rw (occs := .all) [List.map_cons, datOfL, PyData.depthAll, depth_strs r]
    rfl
theorem due_parts {p : PV} {r : Res} {h : Nat} (g : G p r h) (hh : h ≤ 20) : ∃ q0 q1 d2 x, q0 = .str x ∧ dueP r = .tup [q0, q1, d2] ∧ toldP r = .tup [q0, q1] ∧ (PV.tup [q0, q1]).flat = true ∧ SeqAt.shaped (datOf (.tup [q0, q1])) = true := by
  have f := fine_G g hh
  have sh := shp_G g hh
  cases r with
  | val l k =>
    refine ⟨_, _, _, S "", rfl, rfl, rfl, rfl, ?_⟩
    have e : PyData.strOk (mkS l) = true := ok_mk f.1.low
    simp only [SeqAt.shaped, datOf, datOfL, PyData.canLay0, PyData.canLayAll0, PyData.depth, PyData.depthAll, e]
    decide +kernel
  | err m c =>
    obtain ⟨h1, h2⟩ := sh m c rfl
    refine ⟨_, _, _, m, rfl, rfl, rfl, ?_, ?_⟩
    · rw (occs := .all) [PV.flat, PV.flatL, PV.flatL, PV.flat, PV.flatL, flat_strs]; rfl
    · have e : PyData.strOk m = true := h1
      simp only [SeqAt.shaped, datOf, datOfL, PyData.canLay0, PyData.canLayAll0, PyData.depth, PyData.depthAll, e, lay_strs h2, depth_strs]
      decide
section
section
variable {w : World} {n : Nat}
theorem w_law_told {p : PV} {r : Res} {h : Nat} (g : G p r h) (hh : h ≤ 14) : Does w (n + 80) 537 [p] (.ok (toldP r)) := by
  refine fnc_body (xs := ["tree"]) (ρ₀ := [("tree", .fz p)]) (ho := by k_is) (hcd := by k_is) (hbind := by wtm_at "a1") (by decide +kernel) rfl (by decide +kernel) (by decide +kernel) rfl rfl rfl rfl ?_
  refine exs_cons (ex_told (by omega) (by decide +kernel) (by decide +kernel) ?_)
  wtm_at "go"
  refine ev_call g_reckon f_reckon ?_ (by omega)
  wtm_at "go"
  refine does_use (w_reckon (by omega) g 0) (by omega) (fun v e => ?_) (fun x e => ?_)
  · cases r with
    | val l k =>
      cases e
      wtm_at "go"
      rfl
    | err m c => cases e
  · cases r with
    | val l k => cases e
    | err m c => cases e; rfl
end
end
section
section
variable {w : World} {n : Nat}
local macro_rules | `(tactic| wtm_at "ev") => `(tactic| ((with_reducible refine ev_len_own (l := ?lx) g_len ?hlx ?hsx ?_); (case hlx => ((wtm_at "lk"); done)); (case hsx => assumption)))
noncomputable abbrev Ent := PV × Res × Nat
noncomputable def entP (e : Ent) : PV := .tup [e.1, dueP e.2.1, .int (e.2.2 : Nat)]
noncomputable def EntOk (e : Ent) : Prop := G e.1 e.2.1 e.2.2 ∧ e.2.2 < 14
noncomputable abbrev Llw (xs : List Int) (es : List Ent) : PEnv := [("script", .fz (.lst (xs.map PV.int))), ("rows", .fz (.lst (lawRows.map PV.int))), ("stack", .own (es.map entP))]
noncomputable def LawI (xs : List Int) (items : List PV) (ρ : PEnv) : Prop :=
  ∃ (k : Nat) (es : List Ent), items = (List.range' k (40 - k)).map (fun k : Nat => PV.int (k : Int)) ∧ k ≤ 40 ∧ Sub (Llw xs es) ρ ∧ es.length ≤ k ∧ ∀ e ∈ es, EntOk e
theorem ent_app (es : List Ent) (t : PV) (r : Res) (h : Nat) : es.map entP ++ [.tup [t, dueP r, .int (h : Nat)]] = (es ++ [(t, r, h)]).map entP := by
  rw (occs := .all) [List.map_append]; rfl
theorem ent_ok {es : List Ent} {t : PV} {r : Res} {h : Nat} (hes : ∀ e ∈ es, EntOk e) (hg : G t r h) (hh : h < 14) : ∀ e ∈ es ++ [(t, r, h)], EntOk e := fun e he => by
  rcases List.mem_append.mp he with he | he
  · exact hes e he
  · rcases List.mem_cons.mp he with rfl | he
    · exact ⟨hg, hh⟩
    · cases he
noncomputable def maxH : List Ent → Nat
  | [] => 0
  | e :: r => max e.2.2 (maxH r)
theorem maxH_le : ∀ {es : List Ent}, ∀ e ∈ es, e.2.2 ≤ maxH es
  | e :: r, x, hx => by
    rw (occs := .all) [maxH]
    rcases List.mem_cons.mp hx with rfl | hx
    · exact Nat.le_max_left _ _
    · exact Nat.le_trans (maxH_le x hx) (Nat.le_max_right _ _)
theorem maxH_mem : ∀ es : List Ent, (maxH es : Int) ∈ (0 : Int) :: es.map (fun e => ((e.2.2 : Nat) : Int))
  | [] => List.mem_cons_self
  | e :: r => by
    rw (occs := .all) [maxH]
    rcases Nat.le_total e.2.2 (maxH r) with c | c
    · rw (occs := .all) [Nat.max_eq_right c]
      rcases List.mem_cons.mp (maxH_mem r) with q | q
      · rw (occs := .all) [q]; exact List.mem_cons_self
      · exact List.mem_cons_of_mem _ (List.mem_cons_of_mem _ q)
    · rw (occs := .all) [Nat.max_eq_left c]
      exact List.mem_cons_of_mem _ List.mem_cons_self
theorem maxH_lt {es : List Ent} (h : ∀ e ∈ es, EntOk e) : maxH es < 14 := by
  rcases List.mem_cons.mp (maxH_mem es) with q | q
  · omega
  · obtain ⟨e, he, q⟩ := List.mem_map.mp q
    have := (h e he).2
    omega
theorem comp_ent {σ sc : Scope} {x : Str} {px p1 p2 pos : Pos} {kk : Nat} {k : Int} {j : Nat} {f : Ent → PV} (hj : seqIndex? k 3 = some j) (hf : ∀ e : Ent, [e.1, dueP e.2.1, PV.int (e.2.2 : Nat)][j]? = some (f e)) (h1 : -2 ^ 63 ≤ k) (h2 : k < 2 ^ 63) (hn : 0 < n) (hx : sc.names.lookup x = some .local) (hk : sc.kind = .function) (hd : (x == ("__debug__" : Str)) = false) :
    ∀ tk : List Ent, AllElt w n σ sc (.Name x px) (.Subscript (.Name x p1) (.Constant (.int k) kk p2) pos) (tk.map entP) (tk.map f)
  | [] => .nil
  | e :: r => .cons (elt_item hj (hf e) h1 h2 hn hx hk hd) (comp_ent hj hf h1 h2 hn hx hk hd r)
theorem s_itemLn {value slice : Expr} {l : List PV} {j : Nat} {p : PV} {Q : PV → Prop} (hp : l[j]? = some p) (hj : j < 1000)
    (hs : ∀ a t, subscripted slice false (Value.ref a) (Value.int j t) = operate [Value.ref a, Value.int j t] (getItem (Value.ref a) (Value.int j t))) (h : Q p) : ∃ c, Op2 w n (subscriptTail value slice) (.lst l) (.int j) c ∧ Q c :=
  ⟨_, op_itemL (by omega) (by rw [Int.toNat_natCast]; exact hp) (by omega) hs, h⟩
theorem ints_at {xs : List Int} {j : Nat} (h : j < xs.length) : ∃ i, (xs.map PV.int)[j]? = some (.int i) :=
  ⟨xs[j], by rw [List.getElem?_map, List.getElem?_eq_getElem h]; rfl⟩
theorem heights (tk : List Ent) : [PV.int 0] ++ tk.map (fun e : Ent => PV.int (e.2.2 : Nat)) = ((0 : Int) :: tk.map (fun e => ((e.2.2 : Nat) : Int))).map PV.int := by
  rw (occs := .all) [List.map_cons, List.map_map]; rfl
theorem max_heights {tk : List Ent} {M : Int} (h1 : M ∈ (0 : Int) :: tk.map (fun e => ((e.2.2 : Nat) : Int))) (h2 : ∀ a ∈ (0 : Int) :: tk.map (fun e => ((e.2.2 : Nat) : Int)), a ≤ M) : M = (maxH tk : Int) := by
  refine Int.le_antisymm ?_ (h2 _ (maxH_mem tk))
  rcases List.mem_cons.mp h1 with q | q
  · omega
  · obtain ⟨e, he, q⟩ := List.mem_map.mp q
    have := maxH_le e he
    omega
theorem all_told {σ sc : Scope} {x1 x2 x3 g : Str} {p1 p2 p3 tp np n1 cp n2 n3 i2 i3 c2 c3 tp2 pos : Pos} {k1 k2 j2 j3 : Nat} (hgn : ∀ P, nsIn (hp P) mainGlobals g = some (some (.ref 537))) (hn : 80 ≤ n)
    (hx1 : sc.names.lookup x1 = some .local) (hx2 : sc.names.lookup x2 = some .local) (hx3 : sc.names.lookup x3 = some .local) (hgl : sc.names.lookup g = some .globalImplicit) (hk : sc.kind = .function) (n12 : x1 ≠ x2) (n13 : x1 ≠ x3) (n23 : x2 ≠ x3)
    (hd1 : (x1 == ("__debug__" : Str)) = false) (hd2 : (x2 == ("__debug__" : Str)) = false) (hdg : (g == ("__debug__" : Str)) = false) : ∀ {es : List Ent}, (∀ e ∈ es, EntOk e) →
    AllElt w n σ sc (.Tuple [.Name x1 p1, .Name x2 p2, .Name x3 p3] k1 tp)
      (.Compare (.Call (.Name g np) [.Name x1 n1] [] cp) [.Eq] [.Tuple [.Subscript (.Name x2 n2) (.Constant (.int 0) j2 i2) c2, .Subscript (.Name x2 n3) (.Constant (.int 1) j3 i3) c3] k2 tp2] pos)
      (es.map entP) (es.map fun _ => .bool true)
  | [], _ => .nil
  | e :: r, h => by
    obtain ⟨hg, hh⟩ := h e List.mem_cons_self
    obtain ⟨q0, q1, d2, x, _, e1, e2, hfl, hsh⟩ := due_parts hg (by omega)
    refine .cons ?_ (all_told hgn hn hx1 hx2 hx3 hgl hk n12 n13 n23 hd1 hd2 hdg (fun y hy => h y (List.mem_cons_of_mem _ hy)))
    rw (occs := .all) [entP, e1]
    refine elt_told hgn f_law_told ?_ hfl hsh (by omega) hx1 hx2 hx3 hgl hk n12 n13 n23 hd1 hd2 hdg
    refine fnc_mono (w_law_told (n := 0) hg (by omega)) (by omega) (fun p q => ?_) (fun x q => by cases q)
    cases q
    exact e2
theorem bools_true : ∀ es : List Ent, boolsOf (es.map fun _ => PV.bool true) = some (es.map fun _ => true)
  | [] => rfl
  | e :: r => by rw [List.map_cons, boolsOf, bools_true r]; rfl
theorem w_law {xs : List Int} (hl : xs.length ≤ 63) : Does w (n + 100) 542 [.lst (xs.map PV.int)] (.ok (.bool true)) := by
  refine fnc_body (xs := ["script"]) (ρ₀ := [("script", .fz (.lst (xs.map PV.int)))]) (ho := by k_is) (hcd := by k_is) (hbind := by wtm_at "a1") (by decide +kernel) rfl (by decide +kernel) (by decide +kernel) rfl rfl rfl rfl ?_
  have hx : (xs.map PV.int).length ≤ sizeLine := tooBig (by rw [List.length_map]; omega)
  refine exs_cut (fun ρ => Sub [("script", .fz (.lst (xs.map PV.int)))] ρ) (ex_assign (ev_of_evn (evn_upto ?_))) ?_
  · wtm_at "go"
    refine ⟨_, 63, rfl, rfl, hx, ?_⟩
    rw (occs := .all) [List.take_of_length_le (by rw [List.length_map]; exact hl)]
    wtm_at "go"
    wtm_at "sub"
  rintro ρ hs1
  with_reducible refine exs_sub hs1 ?_
  refine exs_cut (fun ρ => Sub [("script", .fz (.lst (xs.map PV.int))), ("rows", .fz (.lst (lawRows.map PV.int)))] ρ) (ex_assign (ev_call0 g_law_rows f_law_rows ?_ (by omega))) ?_
  · refine does_ok (w_law_rows (n := 0)) (by omega) ?_
    wtm_at "go"
    wtm_at "sub"
  rintro ρ hs1
  with_reducible refine exs_sub hs1 ?_
  refine exs_cut (fun ρ => Sub (Llw xs []) ρ) (ex_assignO (evn_list ?_)) ?_
  · wtm_at "go"
    wtm_at "sub"
  rintro ρ hs1
  with_reducible refine exs_sub hs1 ?_
  refine exs_cut (LawI xs []) (ex_forR g_range ?_ (by omega)) ?_
  · wtm_at "go"
    refine s_lenL (by decide +kernel) ?_
    refine ⟨_, rfl, by decide +kernel, by decide +kernel, ?_⟩
    rw (occs := .all) [show rangeL (((lawRows.map PV.int).length : Nat) : Int) = (List.range' 0 40).map (fun k : Nat => PV.int (k : Int)) from rfl]
    refine frl_inv (LawI xs) (fun _ h => h) ?_ (by decide +kernel) _ _ ⟨0, [], rfl, by omega, by wtm_at "sub", Nat.le_refl _, fun e q => (by cases q)⟩
    rintro p items ρ ⟨k, es, hi, hk, hs, hle, hes⟩
    obtain ⟨z, hz⟩ : ∃ z, 40 - k = z + 1 := by
      cases hq : 40 - k with
      | zero => rw (occs := .all) [hq] at hi; cases hi
      | succ z => exact ⟨z, rfl⟩
    rw (occs := .all) [hz, List.range'_succ] at hi
    cases hi
    have hk40 : k < 40 := by omega
    have hsz : (es.map entP).length ≤ sizeLine := tooBig (by rw [List.length_map]; omega)
    have next : ∀ (es' : List Ent) (ρ' : PEnv), es'.length ≤ k + 1 → (∀ e ∈ es', EntOk e) → Sub (Llw xs es') ρ' → LawI xs ((List.range' (k + 1) z).map (fun k : Nat => PV.int (k : Int))) ρ' := fun es' ρ' h1 h2 h3 =>
      ⟨k + 1, es', by rw [show 40 - (k + 1) = z by omega], by omega, h3, h1, h2⟩
    refine ⟨_, _, hs, by wtm_at "put", ?_⟩
    with_reducible refine exs_cut (fun ρ => ∃ dr : Int, Sub (("draw", .fz (.int dr)) :: Llw xs es) ρ) ?_ ?_
    · obtain ⟨d, hd⟩ := ints_at (xs := lawRows) (j := k) (by rw [show lawRows.length = 40 from rfl]; exact hk40)
      wtm_at "go"
      refine s_itemLn (p := .int d) hd (by omega) (by intro _ _; with_unfolding_all rfl) ?_
      wtm_at "go"
      refine s_lenL hx ?_
      wtm_at "go"
      refine .split2 of_decide_eq_true id (fun h => ?_) (fun h => ?_)
      · rw (occs := .all) [List.length_map] at h
        obtain ⟨v, hv⟩ := ints_at (xs := xs) (j := k) (by omega)
        wtm_at "go"
        refine s_itemLn (p := .int v) hv (by omega) (by intro _ _; with_unfolding_all rfl) ?_
        wtm_at "go"
        exact ⟨_, by wtm_at "sub"⟩
      · wtm_at "go"
        exact ⟨_, by wtm_at "sub"⟩
    rintro ρ ⟨dr, hs1⟩
    with_reducible refine exs_sub hs1 ?_
    with_reducible refine exs_cut (fun ρ => ∃ j : Nat, j < 8 ∧ Sub (("kind", .fz (.int j)) :: ("draw", .fz (.int dr)) :: Llw xs es) ρ) ?_ ?_
    · wtm_at "go"
      refine s_mod (by decide) ?_
      obtain ⟨j, hj, hj8⟩ := fmod_nat dr (d := 8) (by decide)
      rw (occs := .all) [show dr.fmod 8 = (j : Int) from hj]
      wtm_at "go"
      exact ⟨j, hj8, by wtm_at "sub"⟩
    rintro ρ ⟨j, hj8, hs1⟩
    with_reducible refine exs_sub hs1 ?_
    with_reducible refine exs_cut (fun ρ => ∃ m : Nat, Many j (dr.fdiv 8) m ∧ Sub (("many", .fz (.int m)) :: ("kind", .fz (.int j)) :: ("draw", .fz (.int dr)) :: Llw xs es) ρ) ?_ ?_
    · wtm_at "go"
      refine ev_call g_law_many f_law_many ?_ (by omega)
      wtm_at "go"
      refine s_div (by decide) (PyProof.noPylong_small (by decide)) ?_
      wtm_at "go"
      refine fnc_mono (w_law_many (n := 0) hj8) (by omega) ?_ (fun _ q => q.elim)
      rintro p ⟨m, rfl, hm⟩
      wtm_at "go"
      exact ⟨m, hm, by wtm_at "sub"⟩
    rintro ρ ⟨m, hm, hs1⟩
    with_reducible refine exs_sub hs1 ?_
    with_reducible refine exs_cut (fun ρ => (3 ≤ j ∧ m ≤ es.length) ∧ Sub (("many", .fz (.int m)) :: ("kind", .fz (.int j)) :: ("draw", .fz (.int dr)) :: Llw xs es) ρ) ?_ ?_
    · have leaf : ∀ {t : PV} {r : Res} {ρ' : PEnv}, G t r 0 → Sub (Llw xs (es ++ [(t, r, 0)])) ρ' → LawI xs ((List.range' (k + 1) z).map (fun k : Nat => PV.int (k : Int))) ρ' := fun hg h =>
        next _ _ (by rw [List.length_append]; simp; omega) (ent_ok hes hg (by decide)) h
      with_reducible refine ex_if (evb_mono (Q := fun ρ1 b => (b = false → 3 ≤ j ∧ m ≤ es.length) ∧ Sub (("many", .fz (.int m)) :: ("kind", .fz (.int j)) :: ("draw", .fz (.int dr)) :: Llw xs es) ρ1) ?_ ?_ (fun _ q => q))
      · wtm_at "go"
        refine .split2 id of_decide_eq_false (fun h => ?_) (fun h => ?_)
        · exact ⟨fun q => (by cases q), by wtm_at "sub"⟩
        · wtm_at "go"
          refine .split2 id of_decide_eq_false (fun h' => ?_) (fun h' => ?_)
          · exact ⟨fun q => (by cases q), by wtm_at "sub"⟩
          · rw (occs := .all) [List.length_map] at h'
            wtm_at "go"
            exact ⟨fun _ => by omega, by wtm_at "sub"⟩
      rintro ρ b ⟨hb, hs1⟩
      refine .split (fun e => exs_sub hs1 ?_) (fun e => ?_)
      · refine exs_cons (ex_assign2 (ev_call g_law_leaf f_law_leaf ?_ (by omega)) (by omega))
        wtm_at "go"
        refine s_div (by decide) (PyProof.noPylong_small (by decide)) ?_
        wtm_at "go"
        refine fnc_mono (w_law_leaf (n := 0)) (by omega) ?_ (fun _ q => q.elim)
        rintro p ⟨t, r, rfl, hg⟩
        refine ⟨_, _, rfl, _, _, by wtm_at "put", by wtm_at "put", ?_⟩
        refine exs_cons (ex_append (by wtm_at "lk") ?_)
        wtm_at "go"
        refine ⟨_, by wtm_at "lk", hsz, _, by wtm_at "put", ?_⟩
        wtm_at "go"
        refine leaf hg ?_
        rw (occs := .all) [show es.map entP ++ [.tup [t, dueP r, .int 0]] = (es ++ [(t, r, 0)]).map entP from ent_app es t r 0]
        wtm_at "sub"
      · wtm_at "go"
        exact ⟨hb e, hs1⟩
    rintro ρ ⟨⟨h3, hme⟩, hs1⟩
    with_reducible refine exs_sub hs1 ?_
    have hcut : PV.int (((es.map entP).length : Int) - (m : Int)) = .int ((es.length - m : Nat) : Int) := by rw [List.length_map]; congr 1; omega
    with_reducible refine exs_cut (fun ρ => Sub (("taken", .fz (.lst ((es.drop (es.length - m)).map entP))) :: ("many", .fz (.int m)) :: ("kind", .fz (.int j)) :: ("draw", .fz (.int dr)) :: Llw xs es) ρ) (ex_assign (ev_of_evn (evn_from_own (by wtm_at "lk") ?_))) ?_
    · wtm_at "go"
      refine ⟨_, es.length - m, by wtm_at "lk", hcut, hsz, ?_⟩
      rw (occs := .all) [← List.map_drop]
      wtm_at "go"
      wtm_at "sub"
    rintro ρ hs1
    with_reducible refine exs_sub hs1 ?_
    with_reducible refine exs_cut (fun ρ => Sub (("taken", .fz (.lst ((es.drop (es.length - m)).map entP))) :: ("kind", .fz (.int j)) :: ("draw", .fz (.int dr)) :: Llw xs (es.take (es.length - m))) ρ) (ex_assignO (evn_upto_own (by wtm_at "lk") ?_)) ?_
    · wtm_at "go"
      refine ⟨_, es.length - m, by wtm_at "lk", hcut, hsz, ?_⟩
      rw (occs := .all) [← List.map_take]
      wtm_at "go"
      wtm_at "sub"
    rintro ρ hs1
    with_reducible refine exs_sub hs1 ?_
    have hm3 := hm.le
    have htl : (es.drop (es.length - m)).length = m := by rw [List.length_drop]; exact Nat.sub_sub_self (by assumption)
    have htk : ∀ e ∈ es.drop (es.length - m), EntOk e := fun e he => hes e (List.mem_of_mem_drop he)
    have hrl : (es.take (es.length - m)).length ≤ k := by rw [List.length_take]; exact Nat.le_trans (Nat.min_le_right _ _) (by assumption)
    have hrs : ∀ e ∈ es.take (es.length - m), EntOk e := fun e he => hes e (List.mem_of_mem_take he)
    generalize es.drop (es.length - m) = tk at *
    generalize es.take (es.length - m) = rest at *
    have hr2 : (rest.map entP).length ≤ sizeLine := tooBig (by rw [List.length_map]; omega)
    have ht2 : (tk.map entP).length ≤ sizeLine := tooBig (by rw [List.length_map]; omega)
    have hmax := maxH_lt htk
    have hnode := w_law_node (w := w) (n := 0) (kind := j) (q := dr.fdiv 8) (l := tk.map fun e => (e.1, e.2.1)) (h := maxH tk) h3 hj8 (by rw [List.length_map, htl]; exact hm) (fun x hx => by
      obtain ⟨e, he, rfl⟩ := List.mem_map.mp hx
      exact (htk e he).1.mono (maxH_le e he)) (by omega)
    rw (occs := .all) [show (tk.map fun e => (e.1, e.2.1)).map (·.1) = tk.map (·.1) from by rw [List.map_map]; rfl, show ((tk.map fun e => (e.1, e.2.1)).map (·.2)).map dueP = tk.map (fun e => dueP e.2.1) from by rw [List.map_map, List.map_map]; rfl] at hnode
    with_reducible refine exs_cut (fun ρ => ∃ t r, G t r (maxH tk + 1) ∧ Sub (("tree", .fz t) :: ("due", .fz (dueP r)) :: ("taken", .fz (.lst (tk.map entP))) :: ("draw", .fz (.int dr)) :: Llw xs rest) ρ) ?_ ?_
    · refine ex_assign2 (ev_call g_law_node f_law_node ?_ (by omega)) (by omega)
      wtm_at "go"
      refine s_div (by decide) (PyProof.noPylong_small (by decide)) ?_
      wtm_at "go"
      refine ev_comp go_name ?_ (by omega)
      wtm_at "go"
      refine ⟨_, _, rfl, ht2, comp_ent (k := 0) (j := 0) (f := (·.1)) rfl (fun _ => rfl) (by decide) (by decide) (by omega) (by decide +kernel) rfl rfl tk, ?_⟩
      wtm_at "go"
      refine ev_comp go_name ?_ (by omega)
      wtm_at "go"
      refine ⟨_, _, rfl, ht2, comp_ent (k := 1) (j := 1) (f := fun e => dueP e.2.1) rfl (fun _ => rfl) (by decide) (by decide) (by omega) (by decide +kernel) rfl rfl tk, ?_⟩
      wtm_at "go"
      refine fnc_mono hnode (by omega) ?_ (fun _ q => q.elim)
      rintro p ⟨t, r, rfl, hg⟩
      refine ⟨_, _, rfl, _, _, by wtm_at "put", by wtm_at "put", ?_⟩
      exact ⟨t, r, hg, by wtm_at "sub"⟩
    rintro ρ ⟨t, r, hg, hs1⟩
    with_reducible refine exs_sub hs1 ?_
    with_reducible refine exs_cut (fun ρ => Sub (("high", .fz (.int ((maxH tk + 1 : Nat) : Int))) :: ("tree", .fz t) :: ("due", .fz (dueP r)) :: ("draw", .fz (.int dr)) :: Llw xs rest) ρ) ?_ ?_
    · wtm_at "go"
      refine ev_callBP (g := "max") (id := "max") g_max b_max ?_
      wtm_at "go"
      refine ev_comp go_name ?_ (by omega)
      wtm_at "go"
      refine ⟨_, _, rfl, ht2, comp_ent (k := 2) (j := 2) (f := fun e => .int (e.2.2 : Nat)) rfl (fun _ => rfl) (by decide) (by decide) (by omega) (by decide +kernel) rfl rfl tk, ?_⟩
      refine ⟨_, op_addL (tooBig (by rw [List.length_map]; simp; omega)), ?_⟩
      rw (occs := .all) [heights]
      wtm_at "go"
      refine ⟨_, op_maxL (intsOf_map _) (by simp) (by omega), ?_⟩
      rintro c ⟨M, rfl, hM1, hM2⟩
      rw (occs := .all) [max_heights hM1 hM2]
      wtm_at "go"
      wtm_at "sub"
    rintro ρ hs1
    with_reducible refine exs_sub hs1 ?_
    obtain ⟨q0, q1, d2, x, rfl, edue, etold, hfl, hsh⟩ := due_parts hg (by omega)
    rw (occs := .all) [edue]
    refine exs_cons ?_
    with_reducible refine ex_if (evb_mono (Q := fun ρ1 b => (b = true → maxH tk + 1 < 14) ∧ Sub (("high", .fz (.int ((maxH tk + 1 : Nat) : Int))) :: ("tree", .fz t) :: ("due", .fz (.tup [.str x, q1, d2])) :: Llw xs rest) ρ1) ?_ ?_ (fun _ q => q))
    · wtm_at "go"
      refine .split2 of_decide_eq_true id (fun h => ?_) (fun h => ?_)
      · wtm_at "go"
        refine .split (fun h' => ?_) (fun h' => ?_)
        · wtm_at "go"
          exact ⟨fun _ => by omega, by wtm_at "sub"⟩
        · wtm_at "go"
          refine s_div (by decide) (PyProof.noPylong_small (by decide)) ?_
          wtm_at "go"
          refine s_mod (by decide) ?_
          wtm_at "go"
          refine .split (fun h2 => ?_) (fun h2 => ?_)
          · wtm_at "go"
            exact ⟨fun _ => by omega, by wtm_at "sub"⟩
          · wtm_at "go"
            exact ⟨fun q => (by cases q), by wtm_at "sub"⟩
      · exact ⟨fun q => (by cases q), by wtm_at "sub"⟩
    rintro ρ b ⟨hb, hs1⟩
    refine .split (fun e => exs_sub hs1 ?_) (fun e => exs_sub hs1 ?_)
    · refine exs_cons (ex_append (by wtm_at "lk") ?_)
      wtm_at "go"
      refine ⟨_, by wtm_at "lk", hr2, _, by wtm_at "put", ?_⟩
      wtm_at "go"
      rw (occs := .all) [← edue, ent_app rest t r (maxH tk + 1)]
      exact next _ _ (by rw [List.length_append]; simp; omega) (ent_ok hrs hg (hb e)) (by wtm_at "sub")
    · wtm_at "go"
      refine ev_call g_law_told f_law_told ?_ (by omega)
      wtm_at "go"
      refine does_ok (w_law_told (n := 0) hg (by omega)) (by omega) ?_
      wtm_at "go"
      rw (occs := .all) [etold]
      refine ⟨_, op_neSelf hfl hsh (by omega), ?_⟩
      wtm_at "gd"
      exact next _ _ (by omega) hrs (by wtm_at "sub")
  rintro ρ ⟨k, es, hi, hk, hs1, hle, hes⟩
  with_reducible refine exs_sub hs1 ?_
  have hsz : (es.map entP).length ≤ sizeLine := tooBig (by rw [List.length_map]; omega)
  refine exs_cons (ex_ret (ev_callB (g := "all") (id := "all") g_all b_all (evs_cons (ev_comp go_tuple ?_ (by omega)))))
  refine ev_own (by wtm_at "lk") (by wtm_at "put") ?_
  refine ⟨_, _, rfl, hsz, all_told g_law_told (by omega) (by decide +kernel) (by decide +kernel) (by decide +kernel) (by decide +kernel) rfl (by decide +kernel) (by decide +kernel) (by decide +kernel) (by decide +kernel) (by decide +kernel) (by decide +kernel) hes, ?_⟩
  wtm_at "go"
  refine ⟨_, op_all (bools_true es) (by omega), ?_⟩
  rw (occs := .all) [show ((es.map fun _ => true).all fun b => b) = true from by rw [List.all_eq_true]; intro b hb; obtain ⟨_, _, rfl⟩ := List.mem_map.mp hb; rfl]
end
end
section
theorem post_ok (args : List WData) : PySem.Challenge.rw_np0140_01.row.toRowW.claim.post args (.bool true) args = true := by
  simp only [RowW.claim, OpenLaw.row]
  refine Bool.and_eq_true_iff.mpr ⟨by rfl, holdsW_of_value (X := true) ?_⟩
  simp [WTm.value, W.same]
theorem sim_keeps {h h' : Heap} (k : Sim (fun _ => False) h.get? h') : ∀ b o, h.get? b = some o → h'.get? b = some o := fun b o e => k.exact e (fun q => q)
theorem law_end {w : World} {c : ClaimW} {s₀ s₁ : Shared} {xs : List Int} {a : Addr} {vs : List Value} (BB : Bs w s₁.heap) (hg : s₁.gens = #[]) (hlen : xs.length ≤ 63)
    (hL : s₁.heap.IsList a vs.toArray) (w1 : Well w.params s₁.heap (Value.ref a) (ofPy (PyData.list (xs.map PyData.int)))) (hI : IntsAre vs xs)
    (hrs : ∀ args cls, c.raises args cls = false) (hpo : ∀ args, c.post args (.bool true) args = true) :
    codeAny (model prg w) callerA (Code.call (Value.ref 542) { pos := [Value.ref a], kw := [] }) (GoodWG c (classAt s₀.heap) (ExcName.means s₀.heap) [ofPy (PyData.list (xs.map PyData.int))] s₁) s₁ := by
  obtain ⟨o, ho, hcl, k, hd'⟩ := hL
  have hdn : o.dict = none := by
    simp only [ofPy] at w1
    cases w1 with
    | list h1 _ => rw (occs := .all) [ho] at h1; cases h1; rfl
  have r : RdL w s₁.heap (fun _ => False) [.ref a] [.lst (xs.map .int)] := .cons (.lst ho ⟨hcl, hdn⟩ hd' (fun q => q) (by simpa using rdl_ints hI)) .nil
  have C : CallOk w 200 callerA s₁.heap [] (fun _ => False) s₁.heap := ⟨rfl, rfl, by decide, by decide, BB, fun _ _ e => e, trivial, fun _ q => q.elim, fun _ q => (by cases q), fun _ _ _ q => q⟩
  refine fnc_mono (w_law (n := 0) (xs := xs) (w := w) hlen) (by decide : _ ≤ 200) (fun _ q => q) (fun _ q => q) callerA s₁.heap [] (fun _ => False) s₁ [.ref a] _ C r (fun p v h' tk' sm rv e => ?_) (fun x a h' tk' _ q => by cases q)
  cases e
  cases rv
  have keep := sim_keeps sm
  exact GoodW.toG ⟨.inl ⟨_, _, [], rfl, fun cls => hrs _ cls, .bool true, hpo _, fun _ => ⟨.nil, fun a q => (by cases q)⟩⟩, keep, rfl, hg⟩
end
end
end Mine
section
open PySem PySem.W PyProof.Rows PySem.Calls PySem.Spec Mine
theorem PySem.Challenge.cw_np0140_01_holds : PySem.Challenge.rw_np0140_01.Holds := by
  refine holds_law said_ok (fun said => ?_)
  refine holds_open (q := vw) (loose := lo) (Xt := hX) (XP := XL vw []) (Yf := hk.obs) (Ya := hk.val) (YP := hk.says) (N := 6000) head_left hk.of hk.keeps (fun s e => xl_of s (Bool.and_eq_true_iff.mp e).1) XL.keeps (by rfl) (by rfl) (by rfl) (fun s e => recFacts_of (Bool.and_eq_true_iff.mp e).2) (by rfl) said opens_ok ⟨rfl, rfl, rfl, rfl, rfl, by decide +kernel⟩ ?hw ?hc
  case hw => w_witness2
  case hc =>
    intro w s₀ s₁ mg mb G Y fa o pm cd doc dV kV ho hd' hcd hD hmg hg args vals as hpre hlay hrd hwl hlo
    have KX : (hp w.params).In s₁.heap := kIn_of Y
    refine Ground.open G ?_
    intro T B D TE TW
    have BB : Bs w s₁.heap := ⟨KX, _, _, _, _, T⟩
    have e542 : mg ("law" : Str) = some (.ref 542) := mg_of KX T.g (g_law _)
    have hmg2 : mg ("law" : Str) = some (.ref fa) := hmg
    rw [e542] at hmg2; cases hmg2
    clear hmg hd' hcd hD Y G D B TE TW T ho KX e542
    wrow_args hpre hlay hrd hwl hlo
    refine enter_call ?_
    exact law_end BB hg (by omega) (by assumption) (by assumption) (by assumption) (fun _ _ => rfl) post_ok
end
