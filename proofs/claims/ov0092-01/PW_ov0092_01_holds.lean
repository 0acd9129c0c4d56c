import PyProof.Rows.All
import Wide.All
import OpenK.AllK
import Wide.FinOn
import Lean
import PySem.Challenge.RW_ov0092_01
set_option Elab.async false
set_option backward.match.sparseCases false
set_option maxRecDepth 100000
set_option maxHeartbeats 0
set_option tactic.hygienic false
set_option exponentiation.threshold 3000
set_option linter.all false
set_option genSizeOf false
set_option genSizeOfSpec false
set_option genInjectivity false
set_option hygiene false
local macro_rules | `(tactic| ktr_unf) => `(tactic| (repeat' (first | refine br_of (fun hc => ?_) (fun hc => ?_) | refine And.intro rfl ?_ | fail)))
local macro_rules | `(tactic| tbr_iter $x) => `(tactic| (first | refine opt_of $x ?_ | ((conv => whnf); refine opt_of $x ?_) | ((conv => whnf); rw [$x:term])))
set_option hygiene true
section
open PySem PySem.W PyProof.Rows
namespace Mine
noncomputable abbrev pw : Program := PySem.Challenge.pw_ov0092_01
noncomputable def runG (ok : Thread → Bool) (st : SharedT → Thread → Option (SharedT × Thread)) : Nat → SharedT → Thread → Option SharedT
  | 0, _, _ => none
  | n + 1, s, t => match through t with
    | true => some s
    | false => match ok t with
      | false => none
      | true => match st s t with
        | some r => runG ok st n r.1 r.2
        | none => none
theorem runG_of {p : Program} {w : World} {n₀ : Nat} {ann : Option Value} {n : Nat} {s s' : SharedT} {t : Thread} (h : runG (stepOk n₀ ann) (stepT (denote treeTable) p w) n s t = some s') : topRun treeTable p w n₀ ann n s.abs t = some s'.abs := by
  induction n generalizing s t with
  | zero => cases h
  | succ n ih =>
    unfold runG at h
    unfold topRun
    cases ht : through t with
    | true => rw [ht] at h; cases h; rfl
    | false =>
      rw [ht] at h
      cases hk : stepOk n₀ ann t with
      | false => rw [hk] at h; cases h
      | true =>
        rw [hk] at h
        cases hs : stepT (denote treeTable) p w s t with
        | none => rw [hs] at h; cases h
        | some r => rw [hs] at h; rw [stepT_spec hs]; exact ih h
noncomputable def runQ (p : Program) (w : World) (n₀ : Nat) (ann : Option Value) : Nat → SharedT → Thread → Option SharedT :=
  runG (PySem.W.Fast.tw6613529449190102663 n₀ ann) (PySem.W.Fast.tw10156331382660048174 (PySem.W.Fast.tw11892475500146522536 PySem.W.Fast.tw14364793385576792824) p w)
theorem runQ_eq (p : Program) (w : World) (n₀ : Nat) (ann : Option Value) : runQ p w n₀ ann = runG (stepOk n₀ ann) (stepT (denote treeTable) p w) := by
  unfold runQ
  rw [← PySem.W.Fast.te6613529449190102663, ← PySem.W.Fast.te10156331382660048174, ← PySem.W.Fast.te11892475500146522536, ← PySem.W.Fast.te14364793385576792824]
noncomputable def bootTree (P : Params) : BT := [boot_o_0 P, boot_o_1 P, boot_o_2 P, boot_o_3 P, boot_o_4 P, boot_o_5 P, boot_o_6 P, boot_o_7 P, boot_o_8 P, boot_o_9 P, boot_o_10 P].zipIdx.foldl (fun t p => t.ins p.2 p.1) .nil
noncomputable def boot (w : World) (os : OsState) : SharedT := ⟨bootTree w.params, 11, {}, Array.mk [], boot_drawn, boot_toks, os⟩
theorem boot_is (w : World) (os : OsState) : (boot w os).abs = ⟨boot_heap w.params, Array.mk [], boot_drawn, boot_toks, os⟩ := by kernel_rfl
noncomputable def lawS : Stmt := (pw.main.body[147]?).getD (.Pass ⟨0,0,0,0⟩)
noncomputable def qq : Program := { pw with main := { pw.main with body := [lawS] } }
noncomputable def mods : List Str := importedModules pw.main.body
noncomputable def loose : List Str := ((pw.main.body.take 147).flatMap PySem.W.bindsAtTop).eraseDups
end Mine
end
section
open PySem PySem.W PyProof.Rows
namespace Mine
noncomputable def u (s : String) : Str := Str.ofString s
noncomputable def en (P : Params) (x : Str) (t : Tok) (v : Value) : DictEntry := ⟨PyData.keyHash P x, .str x t, v⟩
noncomputable def tS (i : Nat) : Stmt := (pw.main.body[i]?).getD (.Pass ⟨0,0,0,0⟩)
noncomputable def cS (i j : Nat) : Stmt := match tS i with
  | .ClassDef _ _ _ b _ _ _ _ _ _ _ => (b[j]?).getD (.Pass ⟨0,0,0,0⟩)
  | _ => .Pass ⟨0,0,0,0⟩
noncomputable def fdO (st : Stmt) (qual : Str) (dfl mod code : Value) : FuncData := match st with
  | .FunctionDef name args body _ _ _ scope _ _ _ => { name := name, qualname := qual, params := args, body := .stmts body, scope := scope, globals := 3, closure := [], defaults := dfl, kwdefaults := .none, doc := .none, pyModule := mod, annotations := none, code := code, closureTuple := .none, builtins := 0 }
  | _ => default
noncomputable def K (P : Params) : Frag := [
  (2, ⟨.none, none, (.dict [en P (u "type.__subclasses__.Exception.0") 838 (.int (484) 0), en P (u "type.__subclasses__.Exception.n") 839 (.int (1) 0)].toArray 2), [].toArray⟩),
  (3, ⟨(.type "dict"), none, (.dict [en P (u "__name__") 165 (.str (u "law_ov0092_01") 1634), en P (u "__doc__") 166 .none, en P (u "__package__") 167 .none, en P (u "__loader__") 168 (.builtin "__main__.__loader__#opaque"), en P (u "__spec__") 169 .none, en P (u "__annotations__") 170 (.ref 6), en P (u "__builtins__") 171 (.ref 4), en P (u "__file__") 173 (.str (u "/claim/cut.py") 172), en P (u "__cached__") 174 .none, en P (u "_wall") 193 (.ref 21), en P (u "Code") 227 (.ref 38), en P (u "row_targets") 235 (.ref 49), en P (u "with_targets") 244 (.ref 56), en P (u "goes_on") 251 (.ref 63), en P (u "height_change") 259 (.ref 70), en P (u "loop_change") 266 (.ref 77), en P (u "target_states") 272 (.ref 82), en P (u "greatest_height") 288 (.ref 89), en P (u "assign_chain") 298 (.ref 96), en P (u "emit_assign") 304 (.ref 101), en P (u "Null") 335 (.ref 118), en P (u "Vector") 377 (.ref 147), en P (u "Symbol") 408 (.ref 168), en P (u "Call") 443 (.ref 190), en P (u "null") 449 (.ref 201), en P (u "text") 456 (.ref 208), en P (u "length") 464 (.ref 215), en P (u "is_atomic") 471 (.ref 222), en P (u "share") 478 (.ref 229), en P (u "operator_names") 486 (.ref 236), en P (u "is_index") 493 (.ref 243), en P (u "plain_arguments") 504 (.ref 250), en P (u "right_count") 513 (.ref 257), en P (u "plain_target") 520 (.ref 264), en P (u "LoopMark") 552 (.ref 281), en P (u "Compiler") 793 (.ref 448), en P (u "compile_expr") 801 (.ref 460), en P (u "get_attr") 811 (.ref 467), en P (u "dim_of") 819 (.ref 474), en P (u "CoveError") 841 (.ref 484), en P (u "Refusal") 866 (.ref 504), en P (u "NAN") 871 (.ref 507), en P (u "INF") 874 (.ref 508), en P (u "ZERO") 877 (.ref 509), en P (u "ONE") 880 (.ref 510), en P (u "MOST_POWER") 882 (.int (4096) 881), en P (u "gcd") 890 (.ref 517), en P (u "make") 899 (.ref 524), en P (u "from_int") 906 (.ref 531), en P (u "is_na") 913 (.ref 538), en P (u "is_finite") 920 (.ref 545), en P (u "marked") 928 (.ref 552), en P (u "neg") 935 (.ref 559), en P (u "add") 943 (.ref 566), en P (u "sub") 951 (.ref 573), en P (u "mul") 959 (.ref 580), en P (u "div") 967 (.ref 587), en P (u "isqrt") 976 (.ref 594), en P (u "root") 985 (.ref 601), en P (u "power") 993 (.ref 608), en P (u "endless_power") 1002 (.ref 615), en P (u "infinite_power") 1010 (.ref 622), en P (u "whole_power") 1018 (.ref 629), en P (u "floor") 1025 (.ref 636), en P (u "nearest_whole") 1035 (.ref 643), en P (u "exponent") 1045 (.ref 650), en P (u "int_div") 1054 (.ref 657), en P (u "remainder") 1062 (.ref 664), en P (u "compare") 1072 (.ref 671), en P (u "MOST_INTEGER") 1076 (.int (2147483647) 1075), en P (u "MOST_DOUBLE") 1080 (.int (Int.ofNat (Nat.pow 10 5000)) 1079), en P (u "recycle_length") 1088 (.ref 678), en P (u "note_recycling") 1097 (.ref 685), en P (u "product") 1106 (.ref 692), en P (u "result_dim") 1119 (.ref 699), en P (u "note_array_of_one") 1131 (.ref 706), en P (u "common_length") 1140 (.ref 713), en P (u "attribute") 1148 (.ref 720), en P (u "shape_attrs") 1161 (.ref 727), en P (u "result_attrs") 1173 (.ref 734), en P (u "integer_op") 1183 (.ref 741), en P (u "within") 1190 (.ref 748), en P (u "double_op") 1199 (.ref 755), en P (u "number_items") 1206 (.ref 762), en P (u "double_items") 1212 (.ref 933), en P (u "double_items_arith") 1213 (.ref 767), en P (u "integer_result") 1230 (.ref 774), en P (u "double_result") 1236 (.ref 779), en P (u "arith") 1250 (.ref 786), en P (u "keep_all") 1258 (.ref 793), en P (u "check_unary") 1265 (.ref 800), en P (u "negate") 1271 (.ref 805), en P (u "plus") 1280 (.ref 812), en P (u "whole_text") 1292 (.ref 819), en P (u "special_text") 1299 (.ref 826), en P (u "scaled") 1309 (.ref 833), en P (u "significant") 1319 (.ref 840), en P (u "without_tail") 1327 (.ref 847), en P (u "scientific_text") 1339 (.ref 854), en P (u "fixed_text") 1349 (.ref 861), en P (u "measures") 1362 (.ref 868), en P (u "chosen_form") 1379 (.ref 875), en P (u "formed") 1388 (.ref 882), en P (u "common_texts") 1394 (.ref 887), en P (u "number_text") 1403 (.ref 895), en P (u "to_text") 1413 (.ref 902), en P (u "holds") 1424 (.ref 909), en P (u "plain_order") 1432 (.ref 916), en P (u "comparable") 1441 (.ref 923), en P (u "text_items") 1447 (.ref 928), en P (u "double_items_compare") 1454 (.ref 933), en P (u "compare_op") 1460 (.ref 939), en P (u "and_items") 1470 (.ref 946), en P (u "or_items") 1478 (.ref 953), en P (u "not_item") 1485 (.ref 960), en P (u "truth_item") 1493 (.ref 967), en P (u "truth_items") 1499 (.ref 972), en P (u "logic_operand") 1506 (.ref 979), en P (u "logic_pairs") 1512 (.ref 984), en P (u "logic_and") 1521 (.ref 991), en P (u "logic_or") 1530 (.ref 998), en P (u "logic_not") 1536 (.ref 1003), en P (u "arith_names") 1544 (.ref 1010), en P (u "compare_names") 1550 (.ref 1017), en P (u "safe_names") 1556 (.ref 1024), en P (u "is_constant") 1563 (.ref 1031), en P (u "plain_call_name") 1571 (.ref 1038), en P (u "unary_value") 1580 (.ref 1045), en P (u "binary_value") 1590 (.ref 1052), en P (u "call_value") 1600 (.ref 1059), en P (u "fold") 1613 (.ref 1066), en P (u "fold_uses") 1624 (.ref 1073), en P (u "folded") 1633 (.ref 1080), en P (u "_law_take") 1643 (.ref 1087), en P (u "_law_tree") 1649 (.ref 1092), en P (u "_law_made") 1655 (.ref 1097), en P (u "_law_worth") 1661 (.ref 1102), en P (u "_law_heads") 1670 (.ref 1109), en P (u "_law_lay") 1676 (.ref 1114), en P (u "_law_odd") 1682 (.ref 1119), en P (u "_law_same") 1694 (.ref 1126), en P (u "law") 1700 (.ref 1131)].toArray 142), [].toArray⟩),
  (6, ⟨(.type "dict"), none, (.dict [].toArray 0), [].toArray⟩),
  (7, ⟨(.type "tuple"), none, (.seq [].toArray 0), [].toArray⟩),
  (38, ⟨(.type "type"), none, (.cls { name := (u "Code"), bases := [(.type "object")], mro := [(.ref 38), (.type "object")], ns := 37, qualname := (u "Code"), hasDict := true, slotNames := [], subclasses := [], abstract := false, collection := none, hasDel := false }), [none, none, (some (.str (u "Code") 196)), (some (.str (u "Code") 204)), (some (.builtin "object.__new__")), (some (.bool true))].toArray⟩),
  (37, ⟨(.type "dict"), none, (.dict [en P (u "__module__") 203 (.str (u "vectorcove.code") 194), en P (u "__firstlineno__") 207 (.int (5) 206), en P (u "__init__") 215 (.ref 35), en P (u "__static_attributes__") 220 (.ref 36), en P (u "__dict__") 222 (.ref 39), en P (u "__weakref__") 224 (.ref 40), en P (u "__doc__") 225 .none].toArray 4), [].toArray⟩),
  (36, ⟨(.type "tuple"), none, (.seq [(.str (u "consts") 216), (.str (u "depth") 217), (.str (u "expr") 218), (.str (u "rows") 219)].toArray 0), [].toArray⟩),
  (39, ⟨(.type "getset_descriptor"), none, (.fields [(.str (u "__dict__") 221), (.ref 38), (.builtin "function.__dict__"), (.builtin "function.__dict__#set")].toArray), [].toArray⟩),
  (40, ⟨(.type "getset_descriptor"), none, (.fields [(.str (u "__weakref__") 223), (.ref 38), (.builtin "ExceptionGroup.__weakref__"), .none].toArray), [].toArray⟩),
  (147, ⟨(.type "type"), none, (.cls { name := (u "Vector"), bases := [(.type "object")], mro := [(.ref 147), (.type "object")], ns := 146, qualname := (u "Vector"), hasDict := true, slotNames := [], subclasses := [], abstract := false, collection := none, hasDel := false }), [none, none, (some (.str (u "Vector") 336)), (some (.str (u "Vector") 344)), (some (.builtin "object.__new__")), (some (.bool true))].toArray⟩),
  (146, ⟨(.type "dict"), none, (.dict [en P (u "__module__") 343 (.str (u "vectorcove.values") 305), en P (u "__firstlineno__") 347 (.int (100) 346), en P (u "__init__") 357 (.ref 137), en P (u "copy") 364 (.ref 144), en P (u "__static_attributes__") 370 (.ref 145), en P (u "__dict__") 372 (.ref 148), en P (u "__weakref__") 374 (.ref 149), en P (u "__doc__") 375 .none].toArray 4), [].toArray⟩),
  (145, ⟨(.type "tuple"), none, (.seq [(.str (u "attrs") 365), (.str (u "items") 366), (.str (u "kind") 367), (.str (u "loose") 368), (.str (u "shared") 369)].toArray 0), [].toArray⟩),
  (148, ⟨(.type "getset_descriptor"), none, (.fields [(.str (u "__dict__") 371), (.ref 147), (.builtin "function.__dict__"), (.builtin "function.__dict__#set")].toArray), [].toArray⟩),
  (149, ⟨(.type "getset_descriptor"), none, (.fields [(.str (u "__weakref__") 373), (.ref 147), (.builtin "ExceptionGroup.__weakref__"), .none].toArray), [].toArray⟩),
  (168, ⟨(.type "type"), none, (.cls { name := (u "Symbol"), bases := [(.type "object")], mro := [(.ref 168), (.type "object")], ns := 167, qualname := (u "Symbol"), hasDict := true, slotNames := [], subclasses := [], abstract := false, collection := none, hasDel := false }), [none, none, (some (.str (u "Symbol") 378)), (some (.str (u "Symbol") 386)), (some (.builtin "object.__new__")), (some (.bool true))].toArray⟩),
  (167, ⟨(.type "dict"), none, (.dict [en P (u "__module__") 385 (.str (u "vectorcove.values") 305), en P (u "__firstlineno__") 389 (.int (111) 388), en P (u "__init__") 397 (.ref 165), en P (u "__static_attributes__") 401 (.ref 166), en P (u "__dict__") 403 (.ref 169), en P (u "__weakref__") 405 (.ref 170), en P (u "__doc__") 406 .none].toArray 4), [].toArray⟩),
  (166, ⟨(.type "tuple"), none, (.seq [(.str (u "attrs") 398), (.str (u "kind") 399), (.str (u "name") 400)].toArray 0), [].toArray⟩),
  (169, ⟨(.type "getset_descriptor"), none, (.fields [(.str (u "__dict__") 402), (.ref 168), (.builtin "function.__dict__"), (.builtin "function.__dict__#set")].toArray), [].toArray⟩),
  (170, ⟨(.type "getset_descriptor"), none, (.fields [(.str (u "__weakref__") 404), (.ref 168), (.builtin "ExceptionGroup.__weakref__"), .none].toArray), [].toArray⟩),
  (190, ⟨(.type "type"), none, (.cls { name := (u "Call"), bases := [(.type "object")], mro := [(.ref 190), (.type "object")], ns := 189, qualname := (u "Call"), hasDict := true, slotNames := [], subclasses := [], abstract := false, collection := none, hasDel := false }), [none, none, (some (.str (u "Call") 409)), (some (.str (u "Call") 417)), (some (.builtin "object.__new__")), (some (.bool true))].toArray⟩),
  (189, ⟨(.type "dict"), none, (.dict [en P (u "__module__") 416 (.str (u "vectorcove.values") 305), en P (u "__firstlineno__") 420 (.int (117) 419), en P (u "__init__") 430 (.ref 187), en P (u "__static_attributes__") 436 (.ref 188), en P (u "__dict__") 438 (.ref 191), en P (u "__weakref__") 440 (.ref 192), en P (u "__doc__") 441 .none].toArray 4), [].toArray⟩),
  (188, ⟨(.type "tuple"), none, (.seq [(.str (u "attrs") 431), (.str (u "code") 432), (.str (u "items") 433), (.str (u "kind") 434), (.str (u "tags") 435)].toArray 0), [].toArray⟩),
  (191, ⟨(.type "getset_descriptor"), none, (.fields [(.str (u "__dict__") 437), (.ref 190), (.builtin "function.__dict__"), (.builtin "function.__dict__#set")].toArray), [].toArray⟩),
  (192, ⟨(.type "getset_descriptor"), none, (.fields [(.str (u "__weakref__") 439), (.ref 190), (.builtin "ExceptionGroup.__weakref__"), .none].toArray), [].toArray⟩),
  (504, ⟨(.type "type"), none, (.cls { name := (u "Refusal"), bases := [(.ref 484)], mro := [(.ref 504), (.ref 484), (.type "Exception"), (.type "BaseException"), (.type "object")], ns := 503, qualname := (u "Refusal"), hasDict := true, slotNames := [], subclasses := [], abstract := false, collection := none, hasDel := false }), [(some (.ref 488)), none, (some (.str (u "Refusal") 842)), (some (.str (u "Refusal") 850)), (some (.builtin "Exception.__new__")), (some (.bool true))].toArray⟩),
  (503, ⟨(.type "dict"), none, (.dict [en P (u "__module__") 849 (.str (u "vectorcove.errors") 820), en P (u "__firstlineno__") 853 (.int (439) 852), en P (u "__init__") 861 (.ref 501), en P (u "__static_attributes__") 863 (.ref 502), en P (u "__doc__") 864 .none].toArray 2), [].toArray⟩),
  (488, ⟨(.type "tuple"), none, (.seq [(.ref 484)].toArray 0), [].toArray⟩),
  (502, ⟨(.type "tuple"), none, (.seq [(.str (u "message") 862)].toArray 0), [].toArray⟩),
  (484, ⟨(.type "type"), none, (.cls { name := (u "CoveError"), bases := [(.type "Exception")], mro := [(.ref 484), (.type "Exception"), (.type "BaseException"), (.type "object")], ns := 483, qualname := (u "CoveError"), hasDict := true, slotNames := [], subclasses := [(.ref 504)], abstract := false, collection := none, hasDel := false }), [(some (.ref 475)), none, (some (.str (u "CoveError") 822)), (some (.str (u "CoveError") 830)), (some (.builtin "Exception.__new__")), (some (.bool true))].toArray⟩),
  (483, ⟨(.type "dict"), none, (.dict [en P (u "__module__") 829 (.str (u "vectorcove.errors") 820), en P (u "__firstlineno__") 833 (.int (437) 832), en P (u "__static_attributes__") 834 (.ref 482), en P (u "__weakref__") 836 (.ref 485), en P (u "__doc__") 837 .none].toArray 3), [].toArray⟩),
  (475, ⟨(.type "tuple"), none, (.seq [(.type "Exception")].toArray 0), [].toArray⟩),
  (482, ⟨(.type "tuple"), none, (.seq [].toArray 0), [].toArray⟩),
  (485, ⟨(.type "getset_descriptor"), none, (.fields [(.str (u "__weakref__") 835), (.ref 484), (.builtin "ExceptionGroup.__weakref__"), .none].toArray), [].toArray⟩),
  (448, ⟨(.type "type"), none, (.cls { name := (u "Compiler"), bases := [(.type "object")], mro := [(.ref 448), (.type "object")], ns := 447, qualname := (u "Compiler"), hasDict := true, slotNames := [], subclasses := [], abstract := false, collection := none, hasDel := false }), [none, none, (some (.str (u "Compiler") 553)), (some (.str (u "Compiler") 561)), (some (.builtin "object.__new__")), (some (.bool true))].toArray⟩),
  (447, ⟨(.type "dict"), none, (.dict [en P (u "__module__") 560 (.str (u "vectorcove.compiler") 479), en P (u "__firstlineno__") 564 (.int (194) 563), en P (u "__init__") 572 (.ref 300), en P (u "compile_expr") 581 (.ref 307), en P (u "emit") 589 (.ref 314), en P (u "aim") 599 (.ref 321), en P (u "add_const") 607 (.ref 328), en P (u "push_const") 615 (.ref 335), en P (u "expr") 623 (.ref 342), en P (u "call") 633 (.ref 349), en P (u "guarded") 639 (.ref 354), en P (u "plain_way") 651 (.ref 361), en P (u "operator") 661 (.ref 368), en P (u "logic") 673 (.ref 375), en P (u "control") 682 (.ref 382), en P (u "block") 691 (.ref 389), en P (u "branch") 702 (.ref 396), en P (u "for_loop") 714 (.ref 403), en P (u "while_loop") 726 (.ref 410), en P (u "turn") 736 (.ref 417), en P (u "leave_loop") 748 (.ref 424), en P (u "give_back") 756 (.ref 431), en P (u "assignment") 766 (.ref 438), en P (u "assigned") 780 (.ref 445), en P (u "__static_attributes__") 786 (.ref 446), en P (u "__dict__") 788 (.ref 449), en P (u "__weakref__") 790 (.ref 450), en P (u "__doc__") 791 .none].toArray 4), [].toArray⟩),
  (446, ⟨(.type "tuple"), none, (.seq [(.str (u "consts") 781), (.str (u "folder") 782), (.str (u "height") 783), (.str (u "loops") 784), (.str (u "rows") 785)].toArray 0), [].toArray⟩),
  (449, ⟨(.type "getset_descriptor"), none, (.fields [(.str (u "__dict__") 787), (.ref 448), (.builtin "function.__dict__"), (.builtin "function.__dict__#set")].toArray), [].toArray⟩),
  (450, ⟨(.type "getset_descriptor"), none, (.fields [(.str (u "__weakref__") 789), (.ref 448), (.builtin "ExceptionGroup.__weakref__"), .none].toArray), [].toArray⟩),
  (453, ⟨(.type "tuple"), none, (.seq [.none].toArray 0), [].toArray⟩),
  (934, ⟨(.type "tuple"), none, (.seq [.none].toArray 0), [].toArray⟩),
  (130, ⟨(.type "tuple"), none, (.seq [.none].toArray 0), [].toArray⟩),
  (180, ⟨(.type "tuple"), none, (.seq [.none].toArray 0), [].toArray⟩),
  (293, ⟨(.type "tuple"), none, (.seq [.none].toArray 0), [].toArray⟩),
  (1131, ⟨(.type "function"), none, (.func (fdO (tS 147) (u "law") .none (.str (u "law_ov0092_01") 1634) (.ref 1130))), [].toArray⟩),
  (1087, ⟨(.type "function"), none, (.func (fdO (tS 139) (u "_law_take") .none (.str (u "law_ov0092_01") 1634) (.ref 1086))), [].toArray⟩),
  (1092, ⟨(.type "function"), none, (.func (fdO (tS 140) (u "_law_tree") .none (.str (u "law_ov0092_01") 1634) (.ref 1091))), [].toArray⟩),
  (1097, ⟨(.type "function"), none, (.func (fdO (tS 141) (u "_law_made") .none (.str (u "law_ov0092_01") 1634) (.ref 1096))), [].toArray⟩),
  (1102, ⟨(.type "function"), none, (.func (fdO (tS 142) (u "_law_worth") .none (.str (u "law_ov0092_01") 1634) (.ref 1101))), [].toArray⟩),
  (1109, ⟨(.type "function"), none, (.func (fdO (tS 143) (u "_law_heads") .none (.str (u "law_ov0092_01") 1634) (.ref 1108))), [].toArray⟩),
  (1114, ⟨(.type "function"), none, (.func (fdO (tS 144) (u "_law_lay") .none (.str (u "law_ov0092_01") 1634) (.ref 1113))), [].toArray⟩),
  (1119, ⟨(.type "function"), none, (.func (fdO (tS 145) (u "_law_odd") .none (.str (u "law_ov0092_01") 1634) (.ref 1118))), [].toArray⟩),
  (1126, ⟨(.type "function"), none, (.func (fdO (tS 146) (u "_law_same") .none (.str (u "law_ov0092_01") 1634) (.ref 1125))), [].toArray⟩),
  (215, ⟨(.type "function"), none, (.func (fdO (tS 20) (u "length") .none (.str (u "vectorcove.values") 305) (.ref 214))), [].toArray⟩),
  (222, ⟨(.type "function"), none, (.func (fdO (tS 21) (u "is_atomic") .none (.str (u "vectorcove.values") 305) (.ref 221))), [].toArray⟩),
  (229, ⟨(.type "function"), none, (.func (fdO (tS 22) (u "share") .none (.str (u "vectorcove.values") 305) (.ref 228))), [].toArray⟩),
  (49, ⟨(.type "function"), none, (.func (fdO (tS 3) (u "row_targets") .none (.str (u "vectorcove.code") 194) (.ref 48))), [].toArray⟩),
  (56, ⟨(.type "function"), none, (.func (fdO (tS 4) (u "with_targets") .none (.str (u "vectorcove.code") 194) (.ref 55))), [].toArray⟩),
  (63, ⟨(.type "function"), none, (.func (fdO (tS 5) (u "goes_on") .none (.str (u "vectorcove.code") 194) (.ref 62))), [].toArray⟩),
  (70, ⟨(.type "function"), none, (.func (fdO (tS 6) (u "height_change") .none (.str (u "vectorcove.code") 194) (.ref 69))), [].toArray⟩),
  (77, ⟨(.type "function"), none, (.func (fdO (tS 7) (u "loop_change") .none (.str (u "vectorcove.code") 194) (.ref 76))), [].toArray⟩),
  (82, ⟨(.type "function"), none, (.func (fdO (tS 8) (u "target_states") .none (.str (u "vectorcove.code") 194) (.ref 81))), [].toArray⟩),
  (89, ⟨(.type "function"), none, (.func (fdO (tS 9) (u "greatest_height") .none (.str (u "vectorcove.code") 194) (.ref 88))), [].toArray⟩),
  (236, ⟨(.type "function"), none, (.func (fdO (tS 24) (u "operator_names") .none (.str (u "vectorcove.compiler") 479) (.ref 235))), [].toArray⟩),
  (243, ⟨(.type "function"), none, (.func (fdO (tS 25) (u "is_index") .none (.str (u "vectorcove.compiler") 479) (.ref 242))), [].toArray⟩),
  (250, ⟨(.type "function"), none, (.func (fdO (tS 26) (u "plain_arguments") .none (.str (u "vectorcove.compiler") 479) (.ref 249))), [].toArray⟩),
  (257, ⟨(.type "function"), none, (.func (fdO (tS 27) (u "right_count") .none (.str (u "vectorcove.compiler") 479) (.ref 256))), [].toArray⟩),
  (460, ⟨(.type "function"), none, (.func (fdO (tS 31) (u "compile_expr") (.ref 453) (.str (u "vectorcove.compiler") 479) (.ref 459))), [].toArray⟩),
  (467, ⟨(.type "function"), none, (.func (fdO (tS 33) (u "get_attr") .none (.str (u "vectorcove.attrs") 802) (.ref 466))), [].toArray⟩),
  (474, ⟨(.type "function"), none, (.func (fdO (tS 34) (u "dim_of") .none (.str (u "vectorcove.attrs") 802) (.ref 473))), [].toArray⟩),
  (517, ⟨(.type "function"), none, (.func (fdO (tS 44) (u "gcd") .none (.str (u "vectorcove.rational") 867) (.ref 516))), [].toArray⟩),
  (524, ⟨(.type "function"), none, (.func (fdO (tS 45) (u "make") .none (.str (u "vectorcove.rational") 867) (.ref 523))), [].toArray⟩),
  (531, ⟨(.type "function"), none, (.func (fdO (tS 46) (u "from_int") .none (.str (u "vectorcove.rational") 867) (.ref 530))), [].toArray⟩),
  (538, ⟨(.type "function"), none, (.func (fdO (tS 47) (u "is_na") .none (.str (u "vectorcove.rational") 867) (.ref 537))), [].toArray⟩),
  (559, ⟨(.type "function"), none, (.func (fdO (tS 50) (u "neg") .none (.str (u "vectorcove.rational") 867) (.ref 558))), [].toArray⟩),
  (566, ⟨(.type "function"), none, (.func (fdO (tS 51) (u "add") .none (.str (u "vectorcove.rational") 867) (.ref 565))), [].toArray⟩),
  (573, ⟨(.type "function"), none, (.func (fdO (tS 52) (u "sub") .none (.str (u "vectorcove.rational") 867) (.ref 572))), [].toArray⟩),
  (580, ⟨(.type "function"), none, (.func (fdO (tS 53) (u "mul") .none (.str (u "vectorcove.rational") 867) (.ref 579))), [].toArray⟩),
  (671, ⟨(.type "function"), none, (.func (fdO (tS 66) (u "compare") .none (.str (u "vectorcove.rational") 867) (.ref 670))), [].toArray⟩),
  (678, ⟨(.type "function"), none, (.func (fdO (tS 70) (u "recycle_length") .none (.str (u "vectorcove.arith") 1073) (.ref 677))), [].toArray⟩),
  (685, ⟨(.type "function"), none, (.func (fdO (tS 71) (u "note_recycling") .none (.str (u "vectorcove.arith") 1073) (.ref 684))), [].toArray⟩),
  (699, ⟨(.type "function"), none, (.func (fdO (tS 73) (u "result_dim") .none (.str (u "vectorcove.arith") 1073) (.ref 698))), [].toArray⟩),
  (706, ⟨(.type "function"), none, (.func (fdO (tS 74) (u "note_array_of_one") .none (.str (u "vectorcove.arith") 1073) (.ref 705))), [].toArray⟩),
  (713, ⟨(.type "function"), none, (.func (fdO (tS 75) (u "common_length") .none (.str (u "vectorcove.arith") 1073) (.ref 712))), [].toArray⟩),
  (720, ⟨(.type "function"), none, (.func (fdO (tS 76) (u "attribute") .none (.str (u "vectorcove.arith") 1073) (.ref 719))), [].toArray⟩),
  (727, ⟨(.type "function"), none, (.func (fdO (tS 77) (u "shape_attrs") .none (.str (u "vectorcove.arith") 1073) (.ref 726))), [].toArray⟩),
  (734, ⟨(.type "function"), none, (.func (fdO (tS 78) (u "result_attrs") .none (.str (u "vectorcove.arith") 1073) (.ref 733))), [].toArray⟩),
  (741, ⟨(.type "function"), none, (.func (fdO (tS 79) (u "integer_op") .none (.str (u "vectorcove.arith") 1073) (.ref 740))), [].toArray⟩),
  (748, ⟨(.type "function"), none, (.func (fdO (tS 80) (u "within") .none (.str (u "vectorcove.arith") 1073) (.ref 747))), [].toArray⟩),
  (755, ⟨(.type "function"), none, (.func (fdO (tS 81) (u "double_op") .none (.str (u "vectorcove.arith") 1073) (.ref 754))), [].toArray⟩),
  (762, ⟨(.type "function"), none, (.func (fdO (tS 82) (u "number_items") .none (.str (u "vectorcove.arith") 1073) (.ref 761))), [].toArray⟩),
  (933, ⟨(.type "function"), none, (.func (fdO (tS 112) (u "double_items") .none (.str (u "vectorcove.compare") 1414) (.ref 932))), [].toArray⟩),
  (767, ⟨(.type "function"), none, (.func (fdO (tS 83) (u "double_items") .none (.str (u "vectorcove.arith") 1073) (.ref 766))), [].toArray⟩),
  (774, ⟨(.type "function"), none, (.func (fdO (tS 85) (u "integer_result") .none (.str (u "vectorcove.arith") 1073) (.ref 773))), [].toArray⟩),
  (779, ⟨(.type "function"), none, (.func (fdO (tS 86) (u "double_result") .none (.str (u "vectorcove.arith") 1073) (.ref 778))), [].toArray⟩),
  (786, ⟨(.type "function"), none, (.func (fdO (tS 87) (u "arith") .none (.str (u "vectorcove.arith") 1073) (.ref 785))), [].toArray⟩),
  (793, ⟨(.type "function"), none, (.func (fdO (tS 88) (u "keep_all") .none (.str (u "vectorcove.arith") 1073) (.ref 792))), [].toArray⟩),
  (800, ⟨(.type "function"), none, (.func (fdO (tS 89) (u "check_unary") .none (.str (u "vectorcove.arith") 1073) (.ref 799))), [].toArray⟩),
  (805, ⟨(.type "function"), none, (.func (fdO (tS 90) (u "negate") .none (.str (u "vectorcove.arith") 1073) (.ref 804))), [].toArray⟩),
  (909, ⟨(.type "function"), none, (.func (fdO (tS 108) (u "holds") .none (.str (u "vectorcove.compare") 1414) (.ref 908))), [].toArray⟩),
  (916, ⟨(.type "function"), none, (.func (fdO (tS 109) (u "plain_order") .none (.str (u "vectorcove.compare") 1414) (.ref 915))), [].toArray⟩),
  (923, ⟨(.type "function"), none, (.func (fdO (tS 110) (u "comparable") .none (.str (u "vectorcove.compare") 1414) (.ref 922))), [].toArray⟩),
  (939, ⟨(.type "function"), none, (.func (fdO (tS 114) (u "compare_op") (.ref 934) (.str (u "vectorcove.compare") 1414) (.ref 938))), [].toArray⟩),
  (960, ⟨(.type "function"), none, (.func (fdO (tS 118) (u "not_item") .none (.str (u "vectorcove.logic") 1461) (.ref 959))), [].toArray⟩),
  (967, ⟨(.type "function"), none, (.func (fdO (tS 119) (u "truth_item") .none (.str (u "vectorcove.logic") 1461) (.ref 966))), [].toArray⟩),
  (972, ⟨(.type "function"), none, (.func (fdO (tS 120) (u "truth_items") .none (.str (u "vectorcove.logic") 1461) (.ref 971))), [].toArray⟩),
  (1003, ⟨(.type "function"), none, (.func (fdO (tS 125) (u "logic_not") .none (.str (u "vectorcove.logic") 1461) (.ref 1002))), [].toArray⟩),
  (1010, ⟨(.type "function"), none, (.func (fdO (tS 127) (u "arith_names") .none (.str (u "vectorcove.fold") 1537) (.ref 1009))), [].toArray⟩),
  (1017, ⟨(.type "function"), none, (.func (fdO (tS 128) (u "compare_names") .none (.str (u "vectorcove.fold") 1537) (.ref 1016))), [].toArray⟩),
  (1024, ⟨(.type "function"), none, (.func (fdO (tS 129) (u "safe_names") .none (.str (u "vectorcove.fold") 1537) (.ref 1023))), [].toArray⟩),
  (1031, ⟨(.type "function"), none, (.func (fdO (tS 130) (u "is_constant") .none (.str (u "vectorcove.fold") 1537) (.ref 1030))), [].toArray⟩),
  (1038, ⟨(.type "function"), none, (.func (fdO (tS 131) (u "plain_call_name") .none (.str (u "vectorcove.fold") 1537) (.ref 1037))), [].toArray⟩),
  (1045, ⟨(.type "function"), none, (.func (fdO (tS 132) (u "unary_value") .none (.str (u "vectorcove.fold") 1537) (.ref 1044))), [].toArray⟩),
  (1052, ⟨(.type "function"), none, (.func (fdO (tS 133) (u "binary_value") .none (.str (u "vectorcove.fold") 1537) (.ref 1051))), [].toArray⟩),
  (1059, ⟨(.type "function"), none, (.func (fdO (tS 134) (u "call_value") .none (.str (u "vectorcove.fold") 1537) (.ref 1058))), [].toArray⟩),
  (1066, ⟨(.type "function"), none, (.func (fdO (tS 135) (u "fold") .none (.str (u "vectorcove.fold") 1537) (.ref 1065))), [].toArray⟩),
  (1073, ⟨(.type "function"), none, (.func (fdO (tS 136) (u "fold_uses") .none (.str (u "vectorcove.fold") 1537) (.ref 1072))), [].toArray⟩),
  (1080, ⟨(.type "function"), none, (.func (fdO (tS 137) (u "folded") .none (.str (u "vectorcove.fold") 1537) (.ref 1079))), [].toArray⟩),
  (35, ⟨(.type "function"), none, (.func (fdO (cS 2 0) (u "Code.__init__") .none (.str (u "vectorcove.code") 194) (.ref 34))), [].toArray⟩),
  (137, ⟨(.type "function"), none, (.func (fdO (cS 15 0) (u "Vector.__init__") (.ref 130) (.str (u "vectorcove.values") 305) (.ref 136))), [].toArray⟩),
  (165, ⟨(.type "function"), none, (.func (fdO (cS 16 0) (u "Symbol.__init__") .none (.str (u "vectorcove.values") 305) (.ref 164))), [].toArray⟩),
  (187, ⟨(.type "function"), none, (.func (fdO (cS 17 0) (u "Call.__init__") (.ref 180) (.str (u "vectorcove.values") 305) (.ref 186))), [].toArray⟩),
  (501, ⟨(.type "function"), none, (.func (fdO (cS 37 0) (u "Refusal.__init__") .none (.str (u "vectorcove.errors") 820) (.ref 500))), [].toArray⟩),
  (300, ⟨(.type "function"), none, (.func (fdO (cS 30 0) (u "Compiler.__init__") (.ref 293) (.str (u "vectorcove.compiler") 479) (.ref 299))), [].toArray⟩),
  (307, ⟨(.type "function"), none, (.func (fdO (cS 30 1) (u "Compiler.compile_expr") .none (.str (u "vectorcove.compiler") 479) (.ref 306))), [].toArray⟩),
  (314, ⟨(.type "function"), none, (.func (fdO (cS 30 2) (u "Compiler.emit") .none (.str (u "vectorcove.compiler") 479) (.ref 313))), [].toArray⟩),
  (321, ⟨(.type "function"), none, (.func (fdO (cS 30 3) (u "Compiler.aim") .none (.str (u "vectorcove.compiler") 479) (.ref 320))), [].toArray⟩),
  (328, ⟨(.type "function"), none, (.func (fdO (cS 30 4) (u "Compiler.add_const") .none (.str (u "vectorcove.compiler") 479) (.ref 327))), [].toArray⟩),
  (335, ⟨(.type "function"), none, (.func (fdO (cS 30 5) (u "Compiler.push_const") .none (.str (u "vectorcove.compiler") 479) (.ref 334))), [].toArray⟩),
  (342, ⟨(.type "function"), none, (.func (fdO (cS 30 6) (u "Compiler.expr") .none (.str (u "vectorcove.compiler") 479) (.ref 341))), [].toArray⟩),
  (349, ⟨(.type "function"), none, (.func (fdO (cS 30 7) (u "Compiler.call") .none (.str (u "vectorcove.compiler") 479) (.ref 348))), [].toArray⟩),
  (354, ⟨(.type "function"), none, (.func (fdO (cS 30 8) (u "Compiler.guarded") .none (.str (u "vectorcove.compiler") 479) (.ref 353))), [].toArray⟩),
  (361, ⟨(.type "function"), none, (.func (fdO (cS 30 9) (u "Compiler.plain_way") .none (.str (u "vectorcove.compiler") 479) (.ref 360))), [].toArray⟩),
  (368, ⟨(.type "function"), none, (.func (fdO (cS 30 10) (u "Compiler.operator") .none (.str (u "vectorcove.compiler") 479) (.ref 367))), [].toArray⟩),
  (382, ⟨(.type "function"), none, (.func (fdO (cS 30 12) (u "Compiler.control") .none (.str (u "vectorcove.compiler") 479) (.ref 381))), [].toArray⟩),
  (1130, ⟨(.type "code"), none, (.fields [(.str (u "law") 1695), (.str (u "law") 1696), (.str (u "/claim/cut.py") 1697), (.int (1187) 0), (.int (1) 0), (.int (0) 0), (.int (0) 0), (.int (3) 0), (.ref 1127), (.bool true), (.int (181) 0), (.ref 1128), .none, .none, .none, (.ref 1129), (.int (1698) 0), (.int (1187) 0), (.str (u "/claim/cut.py") 1699)].toArray), [].toArray⟩),
  (1086, ⟨(.type "code"), none, (.fields [(.str (u "_law_take") 1636), (.str (u "_law_take") 1637), (.str (u "/claim/cut.py") 1638), (.int (1091) 0), (.int (2) 0), (.int (0) 0), (.int (0) 0), (.int (3) 0), (.ref 1081), (.bool true), (.int (181) 0), (.ref 1082), .none, (.ref 1083), (.ref 1084), (.ref 1085), (.int (1641) 0), (.int (1091) 0), (.str (u "/claim/cut.py") 1642)].toArray), [].toArray⟩),
  (1091, ⟨(.type "code"), none, (.fields [(.str (u "_law_tree") 1644), (.str (u "_law_tree") 1645), (.str (u "/claim/cut.py") 1646), (.int (1097) 0), (.int (2) 0), (.int (0) 0), (.int (0) 0), (.int (3) 0), (.ref 1088), (.bool true), (.int (181) 0), (.ref 1089), .none, .none, .none, (.ref 1090), (.int (1647) 0), (.int (1097) 0), (.str (u "/claim/cut.py") 1648)].toArray), [].toArray⟩),
  (1096, ⟨(.type "code"), none, (.fields [(.str (u "_law_made") 1650), (.str (u "_law_made") 1651), (.str (u "/claim/cut.py") 1652), (.int (1111) 0), (.int (1) 0), (.int (0) 0), (.int (0) 0), (.int (3) 0), (.ref 1093), (.bool true), (.int (181) 0), (.ref 1094), .none, .none, .none, (.ref 1095), (.int (1653) 0), (.int (1111) 0), (.str (u "/claim/cut.py") 1654)].toArray), [].toArray⟩),
  (1101, ⟨(.type "code"), none, (.fields [(.str (u "_law_worth") 1656), (.str (u "_law_worth") 1657), (.str (u "/claim/cut.py") 1658), (.int (1119) 0), (.int (1) 0), (.int (0) 0), (.int (0) 0), (.int (3) 0), (.ref 1098), (.bool true), (.int (181) 0), (.ref 1099), .none, .none, .none, (.ref 1100), (.int (1659) 0), (.int (1119) 0), (.str (u "/claim/cut.py") 1660)].toArray), [].toArray⟩),
  (1108, ⟨(.type "code"), none, (.fields [(.str (u "_law_heads") 1662), (.str (u "_law_heads") 1663), (.str (u "/claim/cut.py") 1664), (.int (1141) 0), (.int (2) 0), (.int (0) 0), (.int (0) 0), (.int (3) 0), (.ref 1103), (.bool true), (.int (181) 0), (.ref 1104), .none, (.ref 1105), (.ref 1106), (.ref 1107), (.int (1668) 0), (.int (1141) 0), (.str (u "/claim/cut.py") 1669)].toArray), [].toArray⟩),
  (1113, ⟨(.type "code"), none, (.fields [(.str (u "_law_lay") 1671), (.str (u "_law_lay") 1672), (.str (u "/claim/cut.py") 1673), (.int (1148) 0), (.int (2) 0), (.int (0) 0), (.int (0) 0), (.int (3) 0), (.ref 1110), (.bool true), (.int (181) 0), (.ref 1111), .none, .none, .none, (.ref 1112), (.int (1674) 0), (.int (1148) 0), (.str (u "/claim/cut.py") 1675)].toArray), [].toArray⟩),
  (1118, ⟨(.type "code"), none, (.fields [(.str (u "_law_odd") 1677), (.str (u "_law_odd") 1678), (.str (u "/claim/cut.py") 1679), (.int (1171) 0), (.int (1) 0), (.int (0) 0), (.int (0) 0), (.int (3) 0), (.ref 1115), (.bool true), (.int (181) 0), (.ref 1116), .none, .none, .none, (.ref 1117), (.int (1680) 0), (.int (1171) 0), (.str (u "/claim/cut.py") 1681)].toArray), [].toArray⟩),
  (1125, ⟨(.type "code"), none, (.fields [(.str (u "_law_same") 1683), (.str (u "_law_same") 1684), (.str (u "/claim/cut.py") 1685), (.int (1175) 0), (.int (3) 0), (.int (0) 0), (.int (0) 0), (.int (3) 0), (.ref 1120), (.bool true), (.int (181) 0), (.ref 1121), .none, (.ref 1122), (.ref 1123), (.ref 1124), (.int (1692) 0), (.int (1175) 0), (.str (u "/claim/cut.py") 1693)].toArray), [].toArray⟩),
  (214, ⟨(.type "code"), none, (.fields [(.str (u "length") 457), (.str (u "length") 458), (.str (u "/claim/cut.py") 459), (.int (129) 0), (.int (1) 0), (.int (0) 0), (.int (0) 0), (.int (3) 0), (.ref 209), (.bool true), (.int (181) 0), (.ref 210), .none, (.ref 211), (.ref 212), (.ref 213), (.int (462) 0), (.int (129) 0), (.str (u "/claim/cut.py") 463)].toArray), [].toArray⟩),
  (221, ⟨(.type "code"), none, (.fields [(.str (u "is_atomic") 465), (.str (u "is_atomic") 466), (.str (u "/claim/cut.py") 467), (.int (140) 0), (.int (1) 0), (.int (0) 0), (.int (0) 0), (.int (3) 0), (.ref 216), (.bool true), (.int (181) 0), (.ref 217), .none, (.ref 218), (.ref 219), (.ref 220), (.int (469) 0), (.int (140) 0), (.str (u "/claim/cut.py") 470)].toArray), [].toArray⟩),
  (228, ⟨(.type "code"), none, (.fields [(.str (u "share") 472), (.str (u "share") 473), (.str (u "/claim/cut.py") 474), (.int (142) 0), (.int (1) 0), (.int (0) 0), (.int (0) 0), (.int (3) 0), (.ref 223), (.bool true), (.int (181) 0), (.ref 224), .none, (.ref 225), (.ref 226), (.ref 227), (.int (476) 0), (.int (142) 0), (.str (u "/claim/cut.py") 477)].toArray), [].toArray⟩),
  (48, ⟨(.type "code"), none, (.fields [(.str (u "row_targets") 228), (.str (u "row_targets") 229), (.str (u "/claim/cut.py") 230), (.int (12) 0), (.int (1) 0), (.int (0) 0), (.int (0) 0), (.int (3) 0), (.ref 43), (.bool true), (.int (181) 0), (.ref 44), .none, (.ref 45), (.ref 46), (.ref 47), (.int (233) 0), (.int (12) 0), (.str (u "/claim/cut.py") 234)].toArray), [].toArray⟩),
  (55, ⟨(.type "code"), none, (.fields [(.str (u "with_targets") 236), (.str (u "with_targets") 237), (.str (u "/claim/cut.py") 238), (.int (21) 0), (.int (2) 0), (.int (0) 0), (.int (0) 0), (.int (3) 0), (.ref 50), (.bool true), (.int (181) 0), (.ref 51), .none, (.ref 52), (.ref 53), (.ref 54), (.int (242) 0), (.int (21) 0), (.str (u "/claim/cut.py") 243)].toArray), [].toArray⟩),
  (62, ⟨(.type "code"), none, (.fields [(.str (u "goes_on") 245), (.str (u "goes_on") 246), (.str (u "/claim/cut.py") 247), (.int (30) 0), (.int (1) 0), (.int (0) 0), (.int (0) 0), (.int (3) 0), (.ref 57), (.bool true), (.int (181) 0), (.ref 58), .none, (.ref 59), (.ref 60), (.ref 61), (.int (249) 0), (.int (30) 0), (.str (u "/claim/cut.py") 250)].toArray), [].toArray⟩),
  (69, ⟨(.type "code"), none, (.fields [(.str (u "height_change") 252), (.str (u "height_change") 253), (.str (u "/claim/cut.py") 254), (.int (32) 0), (.int (1) 0), (.int (0) 0), (.int (0) 0), (.int (3) 0), (.ref 64), (.bool true), (.int (181) 0), (.ref 65), .none, (.ref 66), (.ref 67), (.ref 68), (.int (257) 0), (.int (32) 0), (.str (u "/claim/cut.py") 258)].toArray), [].toArray⟩),
  (76, ⟨(.type "code"), none, (.fields [(.str (u "loop_change") 260), (.str (u "loop_change") 261), (.str (u "/claim/cut.py") 262), (.int (43) 0), (.int (1) 0), (.int (0) 0), (.int (0) 0), (.int (3) 0), (.ref 71), (.bool true), (.int (181) 0), (.ref 72), .none, (.ref 73), (.ref 74), (.ref 75), (.int (264) 0), (.int (43) 0), (.str (u "/claim/cut.py") 265)].toArray), [].toArray⟩),
  (81, ⟨(.type "code"), none, (.fields [(.str (u "target_states") 267), (.str (u "target_states") 268), (.str (u "/claim/cut.py") 269), (.int (49) 0), (.int (3) 0), (.int (0) 0), (.int (0) 0), (.int (3) 0), (.ref 78), (.bool true), (.int (181) 0), (.ref 79), .none, .none, .none, (.ref 80), (.int (270) 0), (.int (49) 0), (.str (u "/claim/cut.py") 271)].toArray), [].toArray⟩),
  (88, ⟨(.type "code"), none, (.fields [(.str (u "greatest_height") 273), (.str (u "greatest_height") 274), (.str (u "/claim/cut.py") 275), (.int (55) 0), (.int (1) 0), (.int (0) 0), (.int (0) 0), (.int (3) 0), (.ref 83), (.bool true), (.int (181) 0), (.ref 84), .none, (.ref 85), (.ref 86), (.ref 87), (.int (286) 0), (.int (55) 0), (.str (u "/claim/cut.py") 287)].toArray), [].toArray⟩),
  (235, ⟨(.type "code"), none, (.fields [(.str (u "operator_names") 481), (.str (u "operator_names") 482), (.str (u "/claim/cut.py") 483), (.int (147) 0), (.int (0) 0), (.int (0) 0), (.int (0) 0), (.int (3) 0), (.ref 230), (.bool true), (.int (181) 0), (.ref 231), .none, (.ref 232), (.ref 233), (.ref 234), (.int (484) 0), (.int (147) 0), (.str (u "/claim/cut.py") 485)].toArray), [].toArray⟩),
  (242, ⟨(.type "code"), none, (.fields [(.str (u "is_index") 487), (.str (u "is_index") 488), (.str (u "/claim/cut.py") 489), (.int (149) 0), (.int (1) 0), (.int (0) 0), (.int (0) 0), (.int (3) 0), (.ref 237), (.bool true), (.int (181) 0), (.ref 238), .none, (.ref 239), (.ref 240), (.ref 241), (.int (491) 0), (.int (149) 0), (.str (u "/claim/cut.py") 492)].toArray), [].toArray⟩),
  (249, ⟨(.type "code"), none, (.fields [(.str (u "plain_arguments") 494), (.str (u "plain_arguments") 495), (.str (u "/claim/cut.py") 496), (.int (151) 0), (.int (1) 0), (.int (0) 0), (.int (0) 0), (.int (3) 0), (.ref 244), (.bool true), (.int (181) 0), (.ref 245), .none, (.ref 246), (.ref 247), (.ref 248), (.int (502) 0), (.int (151) 0), (.str (u "/claim/cut.py") 503)].toArray), [].toArray⟩),
  (256, ⟨(.type "code"), none, (.fields [(.str (u "right_count") 505), (.str (u "right_count") 506), (.str (u "/claim/cut.py") 507), (.int (165) 0), (.int (2) 0), (.int (0) 0), (.int (0) 0), (.int (3) 0), (.ref 251), (.bool true), (.int (181) 0), (.ref 252), .none, (.ref 253), (.ref 254), (.ref 255), (.int (511) 0), (.int (165) 0), (.str (u "/claim/cut.py") 512)].toArray), [].toArray⟩),
  (459, ⟨(.type "code"), none, (.fields [(.str (u "compile_expr") 794), (.str (u "compile_expr") 795), (.str (u "/claim/cut.py") 796), (.int (424) 0), (.int (2) 0), (.int (0) 0), (.int (0) 0), (.int (3) 0), (.ref 454), (.bool true), (.int (181) 0), (.ref 455), .none, (.ref 456), (.ref 457), (.ref 458), (.int (799) 0), (.int (424) 0), (.str (u "/claim/cut.py") 800)].toArray), [].toArray⟩),
  (466, ⟨(.type "code"), none, (.fields [(.str (u "get_attr") 804), (.str (u "get_attr") 805), (.str (u "/claim/cut.py") 806), (.int (427) 0), (.int (2) 0), (.int (0) 0), (.int (0) 0), (.int (3) 0), (.ref 461), (.bool true), (.int (181) 0), (.ref 462), .none, (.ref 463), (.ref 464), (.ref 465), (.int (809) 0), (.int (427) 0), (.str (u "/claim/cut.py") 810)].toArray), [].toArray⟩),
  (473, ⟨(.type "code"), none, (.fields [(.str (u "dim_of") 812), (.str (u "dim_of") 813), (.str (u "/claim/cut.py") 814), (.int (431) 0), (.int (1) 0), (.int (0) 0), (.int (0) 0), (.int (3) 0), (.ref 468), (.bool true), (.int (181) 0), (.ref 469), .none, (.ref 470), (.ref 471), (.ref 472), (.int (817) 0), (.int (431) 0), (.str (u "/claim/cut.py") 818)].toArray), [].toArray⟩),
  (516, ⟨(.type "code"), none, (.fields [(.str (u "gcd") 883), (.str (u "gcd") 884), (.str (u "/claim/cut.py") 885), (.int (449) 0), (.int (2) 0), (.int (0) 0), (.int (0) 0), (.int (3) 0), (.ref 511), (.bool true), (.int (181) 0), (.ref 512), .none, (.ref 513), (.ref 514), (.ref 515), (.int (888) 0), (.int (449) 0), (.str (u "/claim/cut.py") 889)].toArray), [].toArray⟩),
  (523, ⟨(.type "code"), none, (.fields [(.str (u "make") 891), (.str (u "make") 892), (.str (u "/claim/cut.py") 893), (.int (453) 0), (.int (2) 0), (.int (0) 0), (.int (0) 0), (.int (3) 0), (.ref 518), (.bool true), (.int (181) 0), (.ref 519), .none, (.ref 520), (.ref 521), (.ref 522), (.int (897) 0), (.int (453) 0), (.str (u "/claim/cut.py") 898)].toArray), [].toArray⟩),
  (530, ⟨(.type "code"), none, (.fields [(.str (u "from_int") 900), (.str (u "from_int") 901), (.str (u "/claim/cut.py") 902), (.int (463) 0), (.int (1) 0), (.int (0) 0), (.int (0) 0), (.int (3) 0), (.ref 525), (.bool true), (.int (181) 0), (.ref 526), .none, (.ref 527), (.ref 528), (.ref 529), (.int (904) 0), (.int (463) 0), (.str (u "/claim/cut.py") 905)].toArray), [].toArray⟩),
  (537, ⟨(.type "code"), none, (.fields [(.str (u "is_na") 907), (.str (u "is_na") 908), (.str (u "/claim/cut.py") 909), (.int (467) 0), (.int (1) 0), (.int (0) 0), (.int (0) 0), (.int (3) 0), (.ref 532), (.bool true), (.int (181) 0), (.ref 533), .none, (.ref 534), (.ref 535), (.ref 536), (.int (911) 0), (.int (467) 0), (.str (u "/claim/cut.py") 912)].toArray), [].toArray⟩),
  (558, ⟨(.type "code"), none, (.fields [(.str (u "neg") 929), (.str (u "neg") 930), (.str (u "/claim/cut.py") 931), (.int (475) 0), (.int (1) 0), (.int (0) 0), (.int (0) 0), (.int (3) 0), (.ref 553), (.bool true), (.int (181) 0), (.ref 554), .none, (.ref 555), (.ref 556), (.ref 557), (.int (933) 0), (.int (475) 0), (.str (u "/claim/cut.py") 934)].toArray), [].toArray⟩),
  (565, ⟨(.type "code"), none, (.fields [(.str (u "add") 936), (.str (u "add") 937), (.str (u "/claim/cut.py") 938), (.int (479) 0), (.int (2) 0), (.int (0) 0), (.int (0) 0), (.int (3) 0), (.ref 560), (.bool true), (.int (181) 0), (.ref 561), .none, (.ref 562), (.ref 563), (.ref 564), (.int (941) 0), (.int (479) 0), (.str (u "/claim/cut.py") 942)].toArray), [].toArray⟩),
  (572, ⟨(.type "code"), none, (.fields [(.str (u "sub") 944), (.str (u "sub") 945), (.str (u "/claim/cut.py") 946), (.int (489) 0), (.int (2) 0), (.int (0) 0), (.int (0) 0), (.int (3) 0), (.ref 567), (.bool true), (.int (181) 0), (.ref 568), .none, (.ref 569), (.ref 570), (.ref 571), (.int (949) 0), (.int (489) 0), (.str (u "/claim/cut.py") 950)].toArray), [].toArray⟩),
  (579, ⟨(.type "code"), none, (.fields [(.str (u "mul") 952), (.str (u "mul") 953), (.str (u "/claim/cut.py") 954), (.int (491) 0), (.int (2) 0), (.int (0) 0), (.int (0) 0), (.int (3) 0), (.ref 574), (.bool true), (.int (181) 0), (.ref 575), .none, (.ref 576), (.ref 577), (.ref 578), (.int (957) 0), (.int (491) 0), (.str (u "/claim/cut.py") 958)].toArray), [].toArray⟩),
  (670, ⟨(.type "code"), none, (.fields [(.str (u "compare") 1063), (.str (u "compare") 1064), (.str (u "/claim/cut.py") 1065), (.int (601) 0), (.int (2) 0), (.int (0) 0), (.int (0) 0), (.int (3) 0), (.ref 665), (.bool true), (.int (181) 0), (.ref 666), .none, (.ref 667), (.ref 668), (.ref 669), (.int (1070) 0), (.int (601) 0), (.str (u "/claim/cut.py") 1071)].toArray), [].toArray⟩),
  (677, ⟨(.type "code"), none, (.fields [(.str (u "recycle_length") 1081), (.str (u "recycle_length") 1082), (.str (u "/claim/cut.py") 1083), (.int (622) 0), (.int (2) 0), (.int (0) 0), (.int (0) 0), (.int (3) 0), (.ref 672), (.bool true), (.int (181) 0), (.ref 673), .none, (.ref 674), (.ref 675), (.ref 676), (.int (1086) 0), (.int (622) 0), (.str (u "/claim/cut.py") 1087)].toArray), [].toArray⟩),
  (684, ⟨(.type "code"), none, (.fields [(.str (u "note_recycling") 1089), (.str (u "note_recycling") 1090), (.str (u "/claim/cut.py") 1091), (.int (626) 0), (.int (3) 0), (.int (0) 0), (.int (0) 0), (.int (3) 0), (.ref 679), (.bool true), (.int (181) 0), (.ref 680), .none, (.ref 681), (.ref 682), (.ref 683), (.int (1095) 0), (.int (626) 0), (.str (u "/claim/cut.py") 1096)].toArray), [].toArray⟩),
  (698, ⟨(.type "code"), none, (.fields [(.str (u "result_dim") 1107), (.str (u "result_dim") 1108), (.str (u "/claim/cut.py") 1109), (.int (634) 0), (.int (2) 0), (.int (0) 0), (.int (0) 0), (.int (3) 0), (.ref 693), (.bool true), (.int (181) 0), (.ref 694), .none, (.ref 695), (.ref 696), (.ref 697), (.int (1117) 0), (.int (634) 0), (.str (u "/claim/cut.py") 1118)].toArray), [].toArray⟩),
  (705, ⟨(.type "code"), none, (.fields [(.str (u "note_array_of_one") 1120), (.str (u "note_array_of_one") 1121), (.str (u "/claim/cut.py") 1122), (.int (654) 0), (.int (3) 0), (.int (0) 0), (.int (0) 0), (.int (3) 0), (.ref 700), (.bool true), (.int (181) 0), (.ref 701), .none, (.ref 702), (.ref 703), (.ref 704), (.int (1129) 0), (.int (654) 0), (.str (u "/claim/cut.py") 1130)].toArray), [].toArray⟩),
  (712, ⟨(.type "code"), none, (.fields [(.str (u "common_length") 1132), (.str (u "common_length") 1133), (.str (u "/claim/cut.py") 1134), (.int (660) 0), (.int (3) 0), (.int (0) 0), (.int (0) 0), (.int (3) 0), (.ref 707), (.bool true), (.int (181) 0), (.ref 708), .none, (.ref 709), (.ref 710), (.ref 711), (.int (1138) 0), (.int (660) 0), (.str (u "/claim/cut.py") 1139)].toArray), [].toArray⟩),
  (719, ⟨(.type "code"), none, (.fields [(.str (u "attribute") 1141), (.str (u "attribute") 1142), (.str (u "/claim/cut.py") 1143), (.int (665) 0), (.int (2) 0), (.int (0) 0), (.int (0) 0), (.int (3) 0), (.ref 714), (.bool true), (.int (181) 0), (.ref 715), .none, (.ref 716), (.ref 717), (.ref 718), (.int (1146) 0), (.int (665) 0), (.str (u "/claim/cut.py") 1147)].toArray), [].toArray⟩),
  (726, ⟨(.type "code"), none, (.fields [(.str (u "shape_attrs") 1149), (.str (u "shape_attrs") 1150), (.str (u "/claim/cut.py") 1151), (.int (669) 0), (.int (3) 0), (.int (0) 0), (.int (0) 0), (.int (3) 0), (.ref 721), (.bool true), (.int (181) 0), (.ref 722), .none, (.ref 723), (.ref 724), (.ref 725), (.int (1159) 0), (.int (669) 0), (.str (u "/claim/cut.py") 1160)].toArray), [].toArray⟩),
  (733, ⟨(.type "code"), none, (.fields [(.str (u "result_attrs") 1162), (.str (u "result_attrs") 1163), (.str (u "/claim/cut.py") 1164), (.int (685) 0), (.int (3) 0), (.int (0) 0), (.int (0) 0), (.int (3) 0), (.ref 728), (.bool true), (.int (181) 0), (.ref 729), .none, (.ref 730), (.ref 731), (.ref 732), (.int (1171) 0), (.int (685) 0), (.str (u "/claim/cut.py") 1172)].toArray), [].toArray⟩),
  (740, ⟨(.type "code"), none, (.fields [(.str (u "integer_op") 1174), (.str (u "integer_op") 1175), (.str (u "/claim/cut.py") 1176), (.int (694) 0), (.int (3) 0), (.int (0) 0), (.int (0) 0), (.int (3) 0), (.ref 735), (.bool true), (.int (181) 0), (.ref 736), .none, (.ref 737), (.ref 738), (.ref 739), (.int (1181) 0), (.int (694) 0), (.str (u "/claim/cut.py") 1182)].toArray), [].toArray⟩),
  (747, ⟨(.type "code"), none, (.fields [(.str (u "within") 1184), (.str (u "within") 1185), (.str (u "/claim/cut.py") 1186), (.int (712) 0), (.int (1) 0), (.int (0) 0), (.int (0) 0), (.int (3) 0), (.ref 742), (.bool true), (.int (181) 0), (.ref 743), .none, (.ref 744), (.ref 745), (.ref 746), (.int (1188) 0), (.int (712) 0), (.str (u "/claim/cut.py") 1189)].toArray), [].toArray⟩),
  (754, ⟨(.type "code"), none, (.fields [(.str (u "double_op") 1191), (.str (u "double_op") 1192), (.str (u "/claim/cut.py") 1193), (.int (716) 0), (.int (3) 0), (.int (0) 0), (.int (0) 0), (.int (3) 0), (.ref 749), (.bool true), (.int (181) 0), (.ref 750), .none, (.ref 751), (.ref 752), (.ref 753), (.int (1197) 0), (.int (716) 0), (.str (u "/claim/cut.py") 1198)].toArray), [].toArray⟩),
  (761, ⟨(.type "code"), none, (.fields [(.str (u "number_items") 1200), (.str (u "number_items") 1201), (.str (u "/claim/cut.py") 1202), (.int (730) 0), (.int (1) 0), (.int (0) 0), (.int (0) 0), (.int (3) 0), (.ref 756), (.bool true), (.int (181) 0), (.ref 757), .none, (.ref 758), (.ref 759), (.ref 760), (.int (1204) 0), (.int (730) 0), (.str (u "/claim/cut.py") 1205)].toArray), [].toArray⟩),
  (932, ⟨(.type "code"), none, (.fields [(.str (u "double_items") 1448), (.str (u "double_items") 1449), (.str (u "/claim/cut.py") 1450), (.int (926) 0), (.int (1) 0), (.int (0) 0), (.int (0) 0), (.int (3) 0), (.ref 929), (.bool true), (.int (181) 0), (.ref 930), .none, .none, .none, (.ref 931), (.int (1451) 0), (.int (926) 0), (.str (u "/claim/cut.py") 1452)].toArray), [].toArray⟩),
  (766, ⟨(.type "code"), none, (.fields [(.str (u "double_items") 1207), (.str (u "double_items") 1208), (.str (u "/claim/cut.py") 1209), (.int (736) 0), (.int (1) 0), (.int (0) 0), (.int (0) 0), (.int (3) 0), (.ref 763), (.bool true), (.int (181) 0), (.ref 764), .none, .none, .none, (.ref 765), (.int (1210) 0), (.int (736) 0), (.str (u "/claim/cut.py") 1211)].toArray), [].toArray⟩),
  (773, ⟨(.type "code"), none, (.fields [(.str (u "integer_result") 1214), (.str (u "integer_result") 1215), (.str (u "/claim/cut.py") 1216), (.int (742) 0), (.int (5) 0), (.int (0) 0), (.int (0) 0), (.int (3) 0), (.ref 768), (.bool true), (.int (181) 0), (.ref 769), .none, (.ref 770), (.ref 771), (.ref 772), (.int (1228) 0), (.int (742) 0), (.str (u "/claim/cut.py") 1229)].toArray), [].toArray⟩),
  (778, ⟨(.type "code"), none, (.fields [(.str (u "double_result") 1231), (.str (u "double_result") 1232), (.str (u "/claim/cut.py") 1233), (.int (755) 0), (.int (4) 0), (.int (0) 0), (.int (0) 0), (.int (3) 0), (.ref 775), (.bool true), (.int (181) 0), (.ref 776), .none, .none, .none, (.ref 777), (.int (1234) 0), (.int (755) 0), (.str (u "/claim/cut.py") 1235)].toArray), [].toArray⟩),
  (785, ⟨(.type "code"), none, (.fields [(.str (u "arith") 1237), (.str (u "arith") 1238), (.str (u "/claim/cut.py") 1239), (.int (757) 0), (.int (4) 0), (.int (0) 0), (.int (0) 0), (.int (3) 0), (.ref 780), (.bool true), (.int (181) 0), (.ref 781), .none, (.ref 782), (.ref 783), (.ref 784), (.int (1248) 0), (.int (757) 0), (.str (u "/claim/cut.py") 1249)].toArray), [].toArray⟩),
  (792, ⟨(.type "code"), none, (.fields [(.str (u "keep_all") 1251), (.str (u "keep_all") 1252), (.str (u "/claim/cut.py") 1253), (.int (767) 0), (.int (2) 0), (.int (0) 0), (.int (0) 0), (.int (3) 0), (.ref 787), (.bool true), (.int (181) 0), (.ref 788), .none, (.ref 789), (.ref 790), (.ref 791), (.int (1256) 0), (.int (767) 0), (.str (u "/claim/cut.py") 1257)].toArray), [].toArray⟩),
  (799, ⟨(.type "code"), none, (.fields [(.str (u "check_unary") 1259), (.str (u "check_unary") 1260), (.str (u "/claim/cut.py") 1261), (.int (771) 0), (.int (1) 0), (.int (0) 0), (.int (0) 0), (.int (3) 0), (.ref 794), (.bool true), (.int (181) 0), (.ref 795), .none, (.ref 796), (.ref 797), (.ref 798), (.int (1263) 0), (.int (771) 0), (.str (u "/claim/cut.py") 1264)].toArray), [].toArray⟩),
  (804, ⟨(.type "code"), none, (.fields [(.str (u "negate") 1266), (.str (u "negate") 1267), (.str (u "/claim/cut.py") 1268), (.int (774) 0), (.int (2) 0), (.int (0) 0), (.int (0) 0), (.int (3) 0), (.ref 801), (.bool true), (.int (181) 0), (.ref 802), .none, .none, .none, (.ref 803), (.int (1269) 0), (.int (774) 0), (.str (u "/claim/cut.py") 1270)].toArray), [].toArray⟩),
  (908, ⟨(.type "code"), none, (.fields [(.str (u "holds") 1416), (.str (u "holds") 1417), (.str (u "/claim/cut.py") 1418), (.int (888) 0), (.int (2) 0), (.int (0) 0), (.int (0) 0), (.int (3) 0), (.ref 903), (.bool true), (.int (181) 0), (.ref 904), .none, (.ref 905), (.ref 906), (.ref 907), (.int (1422) 0), (.int (888) 0), (.str (u "/claim/cut.py") 1423)].toArray), [].toArray⟩),
  (915, ⟨(.type "code"), none, (.fields [(.str (u "plain_order") 1425), (.str (u "plain_order") 1426), (.str (u "/claim/cut.py") 1427), (.int (904) 0), (.int (2) 0), (.int (0) 0), (.int (0) 0), (.int (3) 0), (.ref 910), (.bool true), (.int (181) 0), (.ref 911), .none, (.ref 912), (.ref 913), (.ref 914), (.int (1430) 0), (.int (904) 0), (.str (u "/claim/cut.py") 1431)].toArray), [].toArray⟩),
  (922, ⟨(.type "code"), none, (.fields [(.str (u "comparable") 1433), (.str (u "comparable") 1434), (.str (u "/claim/cut.py") 1435), (.int (910) 0), (.int (3) 0), (.int (0) 0), (.int (0) 0), (.int (3) 0), (.ref 917), (.bool true), (.int (181) 0), (.ref 918), .none, (.ref 919), (.ref 920), (.ref 921), (.int (1439) 0), (.int (910) 0), (.str (u "/claim/cut.py") 1440)].toArray), [].toArray⟩),
  (938, ⟨(.type "code"), none, (.fields [(.str (u "compare_op") 1455), (.str (u "compare_op") 1456), (.str (u "/claim/cut.py") 1457), (.int (931) 0), (.int (5) 0), (.int (0) 0), (.int (0) 0), (.int (3) 0), (.ref 935), (.bool true), (.int (181) 0), (.ref 936), .none, .none, .none, (.ref 937), (.int (1458) 0), (.int (931) 0), (.str (u "/claim/cut.py") 1459)].toArray), [].toArray⟩),
  (959, ⟨(.type "code"), none, (.fields [(.str (u "not_item") 1479), (.str (u "not_item") 1480), (.str (u "/claim/cut.py") 1481), (.int (964) 0), (.int (1) 0), (.int (0) 0), (.int (0) 0), (.int (3) 0), (.ref 954), (.bool true), (.int (181) 0), (.ref 955), .none, (.ref 956), (.ref 957), (.ref 958), (.int (1483) 0), (.int (964) 0), (.str (u "/claim/cut.py") 1484)].toArray), [].toArray⟩),
  (966, ⟨(.type "code"), none, (.fields [(.str (u "truth_item") 1486), (.str (u "truth_item") 1487), (.str (u "/claim/cut.py") 1488), (.int (968) 0), (.int (2) 0), (.int (0) 0), (.int (0) 0), (.int (3) 0), (.ref 961), (.bool true), (.int (181) 0), (.ref 962), .none, (.ref 963), (.ref 964), (.ref 965), (.int (1491) 0), (.int (968) 0), (.str (u "/claim/cut.py") 1492)].toArray), [].toArray⟩),
  (971, ⟨(.type "code"), none, (.fields [(.str (u "truth_items") 1494), (.str (u "truth_items") 1495), (.str (u "/claim/cut.py") 1496), (.int (976) 0), (.int (1) 0), (.int (0) 0), (.int (0) 0), (.int (3) 0), (.ref 968), (.bool true), (.int (181) 0), (.ref 969), .none, .none, .none, (.ref 970), (.int (1497) 0), (.int (976) 0), (.str (u "/claim/cut.py") 1498)].toArray), [].toArray⟩),
  (1002, ⟨(.type "code"), none, (.fields [(.str (u "logic_not") 1531), (.str (u "logic_not") 1532), (.str (u "/claim/cut.py") 1533), (.int (996) 0), (.int (1) 0), (.int (0) 0), (.int (0) 0), (.int (3) 0), (.ref 999), (.bool true), (.int (181) 0), (.ref 1000), .none, .none, .none, (.ref 1001), (.int (1534) 0), (.int (996) 0), (.str (u "/claim/cut.py") 1535)].toArray), [].toArray⟩),
  (1009, ⟨(.type "code"), none, (.fields [(.str (u "arith_names") 1539), (.str (u "arith_names") 1540), (.str (u "/claim/cut.py") 1541), (.int (1009) 0), (.int (0) 0), (.int (0) 0), (.int (0) 0), (.int (3) 0), (.ref 1004), (.bool true), (.int (181) 0), (.ref 1005), .none, (.ref 1006), (.ref 1007), (.ref 1008), (.int (1542) 0), (.int (1009) 0), (.str (u "/claim/cut.py") 1543)].toArray), [].toArray⟩),
  (1016, ⟨(.type "code"), none, (.fields [(.str (u "compare_names") 1545), (.str (u "compare_names") 1546), (.str (u "/claim/cut.py") 1547), (.int (1011) 0), (.int (0) 0), (.int (0) 0), (.int (0) 0), (.int (3) 0), (.ref 1011), (.bool true), (.int (181) 0), (.ref 1012), .none, (.ref 1013), (.ref 1014), (.ref 1015), (.int (1548) 0), (.int (1011) 0), (.str (u "/claim/cut.py") 1549)].toArray), [].toArray⟩),
  (1023, ⟨(.type "code"), none, (.fields [(.str (u "safe_names") 1551), (.str (u "safe_names") 1552), (.str (u "/claim/cut.py") 1553), (.int (1013) 0), (.int (0) 0), (.int (0) 0), (.int (0) 0), (.int (3) 0), (.ref 1018), (.bool true), (.int (181) 0), (.ref 1019), .none, (.ref 1020), (.ref 1021), (.ref 1022), (.int (1554) 0), (.int (1013) 0), (.str (u "/claim/cut.py") 1555)].toArray), [].toArray⟩),
  (1030, ⟨(.type "code"), none, (.fields [(.str (u "is_constant") 1557), (.str (u "is_constant") 1558), (.str (u "/claim/cut.py") 1559), (.int (1015) 0), (.int (1) 0), (.int (0) 0), (.int (0) 0), (.int (3) 0), (.ref 1025), (.bool true), (.int (181) 0), (.ref 1026), .none, (.ref 1027), (.ref 1028), (.ref 1029), (.int (1561) 0), (.int (1015) 0), (.str (u "/claim/cut.py") 1562)].toArray), [].toArray⟩),
  (1037, ⟨(.type "code"), none, (.fields [(.str (u "plain_call_name") 1564), (.str (u "plain_call_name") 1565), (.str (u "/claim/cut.py") 1566), (.int (1017) 0), (.int (1) 0), (.int (0) 0), (.int (0) 0), (.int (3) 0), (.ref 1032), (.bool true), (.int (181) 0), (.ref 1033), .none, (.ref 1034), (.ref 1035), (.ref 1036), (.int (1569) 0), (.int (1017) 0), (.str (u "/claim/cut.py") 1570)].toArray), [].toArray⟩),
  (1044, ⟨(.type "code"), none, (.fields [(.str (u "unary_value") 1572), (.str (u "unary_value") 1573), (.str (u "/claim/cut.py") 1574), (.int (1024) 0), (.int (3) 0), (.int (0) 0), (.int (0) 0), (.int (3) 0), (.ref 1039), (.bool true), (.int (181) 0), (.ref 1040), .none, (.ref 1041), (.ref 1042), (.ref 1043), (.int (1578) 0), (.int (1024) 0), (.str (u "/claim/cut.py") 1579)].toArray), [].toArray⟩),
  (1051, ⟨(.type "code"), none, (.fields [(.str (u "binary_value") 1581), (.str (u "binary_value") 1582), (.str (u "/claim/cut.py") 1583), (.int (1034) 0), (.int (4) 0), (.int (0) 0), (.int (0) 0), (.int (3) 0), (.ref 1046), (.bool true), (.int (181) 0), (.ref 1047), .none, (.ref 1048), (.ref 1049), (.ref 1050), (.int (1588) 0), (.int (1034) 0), (.str (u "/claim/cut.py") 1589)].toArray), [].toArray⟩),
  (1058, ⟨(.type "code"), none, (.fields [(.str (u "call_value") 1591), (.str (u "call_value") 1592), (.str (u "/claim/cut.py") 1593), (.int (1044) 0), (.int (2) 0), (.int (0) 0), (.int (0) 0), (.int (3) 0), (.ref 1053), (.bool true), (.int (181) 0), (.ref 1054), .none, (.ref 1055), (.ref 1056), (.ref 1057), (.int (1598) 0), (.int (1044) 0), (.str (u "/claim/cut.py") 1599)].toArray), [].toArray⟩),
  (1065, ⟨(.type "code"), none, (.fields [(.str (u "fold") 1601), (.str (u "fold") 1602), (.str (u "/claim/cut.py") 1603), (.int (1057) 0), (.int (2) 0), (.int (0) 0), (.int (0) 0), (.int (3) 0), (.ref 1060), (.bool true), (.int (181) 0), (.ref 1061), .none, (.ref 1062), (.ref 1063), (.ref 1064), (.int (1611) 0), (.int (1057) 0), (.str (u "/claim/cut.py") 1612)].toArray), [].toArray⟩),
  (1072, ⟨(.type "code"), none, (.fields [(.str (u "fold_uses") 1614), (.str (u "fold_uses") 1615), (.str (u "/claim/cut.py") 1616), (.int (1073) 0), (.int (1) 0), (.int (0) 0), (.int (0) 0), (.int (3) 0), (.ref 1067), (.bool true), (.int (181) 0), (.ref 1068), .none, (.ref 1069), (.ref 1070), (.ref 1071), (.int (1622) 0), (.int (1073) 0), (.str (u "/claim/cut.py") 1623)].toArray), [].toArray⟩),
  (1079, ⟨(.type "code"), none, (.fields [(.str (u "folded") 1625), (.str (u "folded") 1626), (.str (u "/claim/cut.py") 1627), (.int (1085) 0), (.int (1) 0), (.int (0) 0), (.int (0) 0), (.int (3) 0), (.ref 1074), (.bool true), (.int (181) 0), (.ref 1075), .none, (.ref 1076), (.ref 1077), (.ref 1078), (.int (1631) 0), (.int (1085) 0), (.str (u "/claim/cut.py") 1632)].toArray), [].toArray⟩),
  (34, ⟨(.type "code"), none, (.fields [(.str (u "__init__") 208), (.str (u "Code.__init__") 209), (.str (u "/claim/cut.py") 210), (.int (7) 0), (.int (2) 0), (.int (0) 0), (.int (0) 0), (.int (3) 0), (.ref 29), (.bool true), (.int (181) 0), (.ref 30), .none, (.ref 31), (.ref 32), (.ref 33), (.int (213) 0), (.int (7) 0), (.str (u "/claim/cut.py") 214)].toArray), [].toArray⟩),
  (136, ⟨(.type "code"), none, (.fields [(.str (u "__init__") 348), (.str (u "Vector.__init__") 349), (.str (u "/claim/cut.py") 350), (.int (102) 0), (.int (4) 0), (.int (0) 0), (.int (0) 0), (.int (3) 0), (.ref 131), (.bool true), (.int (181) 0), (.ref 132), .none, (.ref 133), (.ref 134), (.ref 135), (.int (355) 0), (.int (102) 0), (.str (u "/claim/cut.py") 356)].toArray), [].toArray⟩),
  (164, ⟨(.type "code"), none, (.fields [(.str (u "__init__") 390), (.str (u "Symbol.__init__") 391), (.str (u "/claim/cut.py") 392), (.int (113) 0), (.int (2) 0), (.int (0) 0), (.int (0) 0), (.int (3) 0), (.ref 159), (.bool true), (.int (181) 0), (.ref 160), .none, (.ref 161), (.ref 162), (.ref 163), (.int (395) 0), (.int (113) 0), (.str (u "/claim/cut.py") 396)].toArray), [].toArray⟩),
  (186, ⟨(.type "code"), none, (.fields [(.str (u "__init__") 421), (.str (u "Call.__init__") 422), (.str (u "/claim/cut.py") 423), (.int (119) 0), (.int (4) 0), (.int (0) 0), (.int (0) 0), (.int (3) 0), (.ref 181), (.bool true), (.int (181) 0), (.ref 182), .none, (.ref 183), (.ref 184), (.ref 185), (.int (428) 0), (.int (119) 0), (.str (u "/claim/cut.py") 429)].toArray), [].toArray⟩),
  (500, ⟨(.type "code"), none, (.fields [(.str (u "__init__") 854), (.str (u "Refusal.__init__") 855), (.str (u "/claim/cut.py") 856), (.int (441) 0), (.int (2) 0), (.int (0) 0), (.int (0) 0), (.int (3) 0), (.ref 495), (.bool true), (.int (181) 0), (.ref 496), .none, (.ref 497), (.ref 498), (.ref 499), (.int (859) 0), (.int (441) 0), (.str (u "/claim/cut.py") 860)].toArray), [].toArray⟩),
  (299, ⟨(.type "code"), none, (.fields [(.str (u "__init__") 565), (.str (u "Compiler.__init__") 566), (.str (u "/claim/cut.py") 567), (.int (196) 0), (.int (2) 0), (.int (0) 0), (.int (0) 0), (.int (3) 0), (.ref 294), (.bool true), (.int (181) 0), (.ref 295), .none, (.ref 296), (.ref 297), (.ref 298), (.int (570) 0), (.int (196) 0), (.str (u "/claim/cut.py") 571)].toArray), [].toArray⟩),
  (306, ⟨(.type "code"), none, (.fields [(.str (u "compile_expr") 573), (.str (u "Compiler.compile_expr") 574), (.str (u "/claim/cut.py") 575), (.int (203) 0), (.int (2) 0), (.int (0) 0), (.int (0) 0), (.int (3) 0), (.ref 301), (.bool true), (.int (181) 0), (.ref 302), .none, (.ref 303), (.ref 304), (.ref 305), (.int (579) 0), (.int (203) 0), (.str (u "/claim/cut.py") 580)].toArray), [].toArray⟩),
  (313, ⟨(.type "code"), none, (.fields [(.str (u "emit") 582), (.str (u "Compiler.emit") 583), (.str (u "/claim/cut.py") 584), (.int (212) 0), (.int (2) 0), (.int (0) 0), (.int (0) 0), (.int (3) 0), (.ref 308), (.bool true), (.int (181) 0), (.ref 309), .none, (.ref 310), (.ref 311), (.ref 312), (.int (587) 0), (.int (212) 0), (.str (u "/claim/cut.py") 588)].toArray), [].toArray⟩),
  (320, ⟨(.type "code"), none, (.fields [(.str (u "aim") 590), (.str (u "Compiler.aim") 591), (.str (u "/claim/cut.py") 592), (.int (217) 0), (.int (2) 0), (.int (0) 0), (.int (0) 0), (.int (3) 0), (.ref 315), (.bool true), (.int (181) 0), (.ref 316), .none, (.ref 317), (.ref 318), (.ref 319), (.int (597) 0), (.int (217) 0), (.str (u "/claim/cut.py") 598)].toArray), [].toArray⟩),
  (327, ⟨(.type "code"), none, (.fields [(.str (u "add_const") 600), (.str (u "Compiler.add_const") 601), (.str (u "/claim/cut.py") 602), (.int (223) 0), (.int (2) 0), (.int (0) 0), (.int (0) 0), (.int (3) 0), (.ref 322), (.bool true), (.int (181) 0), (.ref 323), .none, (.ref 324), (.ref 325), (.ref 326), (.int (605) 0), (.int (223) 0), (.str (u "/claim/cut.py") 606)].toArray), [].toArray⟩),
  (334, ⟨(.type "code"), none, (.fields [(.str (u "push_const") 608), (.str (u "Compiler.push_const") 609), (.str (u "/claim/cut.py") 610), (.int (227) 0), (.int (2) 0), (.int (0) 0), (.int (0) 0), (.int (3) 0), (.ref 329), (.bool true), (.int (181) 0), (.ref 330), .none, (.ref 331), (.ref 332), (.ref 333), (.int (613) 0), (.int (227) 0), (.str (u "/claim/cut.py") 614)].toArray), [].toArray⟩),
  (341, ⟨(.type "code"), none, (.fields [(.str (u "expr") 616), (.str (u "Compiler.expr") 617), (.str (u "/claim/cut.py") 618), (.int (230) 0), (.int (2) 0), (.int (0) 0), (.int (0) 0), (.int (3) 0), (.ref 336), (.bool true), (.int (181) 0), (.ref 337), .none, (.ref 338), (.ref 339), (.ref 340), (.int (621) 0), (.int (230) 0), (.str (u "/claim/cut.py") 622)].toArray), [].toArray⟩),
  (348, ⟨(.type "code"), none, (.fields [(.str (u "call") 624), (.str (u "Compiler.call") 625), (.str (u "/claim/cut.py") 626), (.int (242) 0), (.int (3) 0), (.int (0) 0), (.int (0) 0), (.int (3) 0), (.ref 343), (.bool true), (.int (181) 0), (.ref 344), .none, (.ref 345), (.ref 346), (.ref 347), (.int (631) 0), (.int (242) 0), (.str (u "/claim/cut.py") 632)].toArray), [].toArray⟩),
  (353, ⟨(.type "code"), none, (.fields [(.str (u "guarded") 634), (.str (u "Compiler.guarded") 635), (.str (u "/claim/cut.py") 636), (.int (262) 0), (.int (5) 0), (.int (0) 0), (.int (0) 0), (.int (3) 0), (.ref 350), (.bool true), (.int (181) 0), (.ref 351), .none, .none, .none, (.ref 352), (.int (637) 0), (.int (262) 0), (.str (u "/claim/cut.py") 638)].toArray), [].toArray⟩),
  (360, ⟨(.type "code"), none, (.fields [(.str (u "plain_way") 640), (.str (u "Compiler.plain_way") 641), (.str (u "/claim/cut.py") 642), (.int (275) 0), (.int (4) 0), (.int (0) 0), (.int (0) 0), (.int (3) 0), (.ref 355), (.bool true), (.int (181) 0), (.ref 356), .none, (.ref 357), (.ref 358), (.ref 359), (.int (649) 0), (.int (275) 0), (.str (u "/claim/cut.py") 650)].toArray), [].toArray⟩),
  (367, ⟨(.type "code"), none, (.fields [(.str (u "operator") 652), (.str (u "Compiler.operator") 653), (.str (u "/claim/cut.py") 654), (.int (283) 0), (.int (3) 0), (.int (0) 0), (.int (0) 0), (.int (3) 0), (.ref 362), (.bool true), (.int (181) 0), (.ref 363), .none, (.ref 364), (.ref 365), (.ref 366), (.int (659) 0), (.int (283) 0), (.str (u "/claim/cut.py") 660)].toArray), [].toArray⟩),
  (381, ⟨(.type "code"), none, (.fields [(.str (u "control") 674), (.str (u "Compiler.control") 675), (.str (u "/claim/cut.py") 676), (.int (300) 0), (.int (3) 0), (.int (0) 0), (.int (0) 0), (.int (3) 0), (.ref 376), (.bool true), (.int (181) 0), (.ref 377), .none, (.ref 378), (.ref 379), (.ref 380), (.int (680) 0), (.int (300) 0), (.str (u "/claim/cut.py") 681)].toArray), [].toArray⟩)
]
noncomputable def asK : List Nat := [2, 3, 6, 7, 38, 37, 36, 39, 40, 147, 146, 145, 148, 149, 168, 167, 166, 169, 170, 190, 189, 188, 191, 192, 504, 503, 488, 502, 484, 483, 475, 482, 485, 448, 447, 446, 449, 450, 453, 934, 130, 180, 293, 1131, 1087, 1092, 1097, 1102, 1109, 1114, 1119, 1126, 215, 222, 229, 49, 56, 63, 70, 77, 82, 89, 236, 243, 250, 257, 460, 467, 474, 517, 524, 531, 538, 559, 566, 573, 580, 671, 678, 685, 699, 706, 713, 720, 727, 734, 741, 748, 755, 762, 933, 767, 774, 779, 786, 793, 800, 805, 909, 916, 923, 939, 960, 967, 972, 1003, 1010, 1017, 1024, 1031, 1038, 1045, 1052, 1059, 1066, 1073, 1080, 35, 137, 165, 187, 501, 300, 307, 314, 321, 328, 335, 342, 349, 354, 361, 368, 382, 1130, 1086, 1091, 1096, 1101, 1108, 1113, 1118, 1125, 214, 221, 228, 48, 55, 62, 69, 76, 81, 88, 235, 242, 249, 256, 459, 466, 473, 516, 523, 530, 537, 558, 565, 572, 579, 670, 677, 684, 698, 705, 712, 719, 726, 733, 740, 747, 754, 761, 932, 766, 773, 778, 785, 792, 799, 804, 908, 915, 922, 938, 959, 966, 971, 1002, 1009, 1016, 1023, 1030, 1037, 1044, 1051, 1058, 1065, 1072, 1079, 34, 136, 164, 186, 500, 299, 306, 313, 320, 327, 334, 341, 348, 353, 360, 367, 381]
theorem asK_is (P : Params) : asK = (K P).map (·.1) := by kernel_rfl
noncomputable def lives (o : Obj) : Bool := match o with
  | ⟨_, _, .freed, _⟩ => false
  | _ => true
theorem alive_of {o : Obj} (h : lives o = true) : alive o = some o := by
  obtain ⟨c, d, dt, sl⟩ := o
  cases dt <;> first | rfl | cases h
theorem K_lives (P : Params) : ((K P).all fun p => lives p.2) = true := by kernel_rfl
noncomputable def allOk (w : World) (s : SharedT) : Bool := staticsOk mods (boot_heap w.params) s.abs.heap && namesBound pw s.abs.heap && gensDone s.abs && laidKept (boot_heap w.params) s.abs.heap && asK.all (fun a => Nat.blt a s.n)
end Mine
end
section
open PySem PySem.W PyProof.Rows
namespace Mine
noncomputable def lookK (s : SharedT) : Bool × List (Option Obj) × Bool := (asK.all (fun a => Nat.blt a s.n), asK.map s.tree.get, (Nat.blt 1 s.n && match s.tree.get 1 with | some o => lives o | none => false))
theorem bigD : ∀ (w : World) (os : OsState), (runQ pw w 11 (some (.ref 6)) 6600 (boot w os) (topStub pw)).map (fun s => (lookK s, allOk w s, openSeen qq loose mods (fun _ => true) true s.abs)) = some ((true, (K w.params).map fun p => some p.2, true), true, openGood qq loose) := by
  intro w os
  kernel_rfl
end Mine
end
section
open PySem PySem.W PyProof.Rows
namespace Mine
noncomputable def Yf (s : Shared) : List (Option Obj) × Bool := (asK.map s.heap.get?, (s.heap.get? 1).isSome)
noncomputable def Ya (w : World) : List (Option Obj) × Bool := ((K w.params).map fun p => some p.2, true)
theorem opens (w : World) : (fencedOpening treeTable pw w 6600).map (fun s => (s.heap, s.gens, s.drawn, s.toks)) = some (boot_heap w.params, Array.mk [], boot_drawn, boot_toks) :=
  boot_open (p := pw) (by kernel_rfl) (by decide) (fun s => by kernel_rfl) w
theorem boot_size (P : Params) : ((boot_heap P).isNs mainGlobals, (boot_heap P).objs.size, (boot_heap P).nsMap mainGlobals "__annotations__") = (true, 11, some (.ref 6)) := by kernel_rfl
theorem get_of_tree {s : SharedT} {a : Nat} {o : Obj} (hn : Nat.blt a s.n = true) (hg : s.tree.get a = some o) (hl : lives o = true) : s.abs.heap.get? a = some o := by
  show (absHeap s.tree s.n s.life).get? a = some o
  rw [abs_get (Nat.blt_eq.mp hn) hg, alive_of hl]
theorem yf_of {w : World} {s : SharedT} (h : lookK s = (true, (K w.params).map fun p => some p.2, true)) : Yf s.abs = Ya w := by
  have h1 : asK.all (fun a => Nat.blt a s.n) = true := congrArg (·.1) h
  have h2 : asK.map s.tree.get = (K w.params).map fun p => some p.2 := congrArg (·.2.1) h
  have h3 : (Nat.blt 1 s.n && match s.tree.get 1 with | some o => lives o | none => false) = true := congrArg (·.2.2) h
  have e1 : asK.map s.abs.heap.get? = (K w.params).map fun p => some p.2 := by
    rw [← h2]
    refine List.map_congr_left fun a ha => ?_
    have hn := List.all_eq_true.mp h1 a ha
    rw [asK_is w.params] at ha h2
    obtain ⟨p, hp, rfl⟩ := List.mem_map.mp ha
    rw [List.map_map] at h2
    have hg : s.tree.get p.1 = some p.2 := List.map_inj_left.mp h2 p hp
    rw [hg]
    exact get_of_tree hn hg (List.all_eq_true.mp (K_lives w.params) p hp)
  have e2 : (s.abs.heap.get? 1).isSome = true := by
    obtain ⟨hn, hm⟩ := Bool.and_eq_true_iff.mp h3
    cases hg : s.tree.get 1 with
    | none => rw [hg] at hm; cases hm
    | some o => rw [hg] at hm; rw [get_of_tree hn hg hm]; rfl
  exact Prod.ext e1 e2
theorem ends_of {p : Program} {w : World} {N n₀ : Nat} {ann : Option Value} {s₀ s₁ : Shared} (e : fencedOpening treeTable p w N = some s₀) (z : (s₀.heap.isNs mainGlobals && s₀.gens.size == 0) = true) (z2 : s₀.heap.objs.size = n₀) (z3 : s₀.heap.nsMap mainGlobals "__annotations__" = ann)
    (r : topRun treeTable p w n₀ ann N s₀ (topStub p) = some s₁) (b : (staticsOk (importedModules p.main.body) s₀.heap s₁.heap && namesBound p s₁.heap && gensDone s₁ && laidKept s₀.heap s₁.heap) = true) : openEnds treeTable p w N = some s₁ := by
  subst z2 z3
  unfold openEnds
  rw [e]
  show topFrom treeTable p w N s₀ = some s₁
  unfold topFrom
  rw [z]
  show (topRun treeTable p w s₀.heap.objs.size (s₀.heap.nsMap mainGlobals "__annotations__") N s₀ (topStub p)).bind _ = some s₁
  rw [r]
  show (match staticsOk (importedModules p.main.body) s₀.heap s₁.heap && namesBound p s₁.heap && gensDone s₁ && laidKept s₀.heap s₁.heap with | true => some s₁ | false => none) = some s₁
  rw [b]
theorem map_of {α β γ : Type} {o : Option α} {f : α → β} {g : α → γ} {a : α} {b : β} {c : γ} (h : o = some a) (h1 : f a = b) (h2 : g a = c) : o.map (fun s => (f s, g s)) = some (b, c) := by subst h h1 h2; rfl
theorem three {α β γ δ : Type} {o : Option α} {f : α → β} {g : α → γ} {k : α → δ} {b : β} {c : γ} {d : δ} (h : o.map (fun s => (f s, g s, k s)) = some (b, c, d)) : ∃ a, o = some a ∧ f a = b ∧ g a = c ∧ k a = d := by
  cases o with
  | none => cases h
  | some a => cases h; exact ⟨a, rfl, rfl, rfl, rfl⟩
theorem allOk_of {w : World} {s : SharedT} (h : allOk w s = true) : (staticsOk mods (boot_heap w.params) s.abs.heap && namesBound pw s.abs.heap && gensDone s.abs && laidKept (boot_heap w.params) s.abs.heap) = true := (Bool.and_eq_true_iff.mp h).1
theorem ran (w : World) (os : OsState) : ∃ sT : SharedT, topRun treeTable pw w 11 (some (.ref 6)) 6600 ⟨boot_heap w.params, Array.mk [], boot_drawn, boot_toks, os⟩ (topStub pw) = some sT.abs ∧ lookK sT = (true, (K w.params).map fun p => some p.2, true) ∧ allOk w sT = true ∧ openSeen qq loose mods (fun zz => true) true sT.abs = openGood qq loose := by
  obtain ⟨sT, h1, a1, a2, a3⟩ := three (bigD w os)
  rw [runQ_eq] at h1
  exact ⟨sT, boot_is w os ▸ runG_of h1, a1, a2, a3⟩
theorem left_ : LeftO pw qq loose (fun zz => true) Yf Ya 6600 := fun w => by
  obtain ⟨⟨h, gs, d, k, os⟩, e, e'⟩ := Option.map_eq_some_iff.mp (opens w)
  obtain ⟨rfl, rfl, rfl, rfl⟩ : h = boot_heap w.params ∧ gs = Array.mk [] ∧ d = boot_drawn ∧ k = boot_toks := by simpa using e'
  obtain ⟨sT, r, a1, a2, a3⟩ := ran w os
  have z := boot_size w.params
  have z1 : (boot_heap w.params).isNs mainGlobals = true := congrArg (·.1) z
  exact map_of (ends_of e (by show ((boot_heap w.params).isNs mainGlobals && true) = true; rw [z1]; rfl) (congrArg (·.2.1) z) (congrArg (·.2.2) z) r (allOk_of a2)) a3 (yf_of a1)
end Mine
end
section
open PySem PySem.W PyProof.Rows
namespace Mine
noncomputable abbrev lw : OpenLaw := PySem.Challenge.rw_ov0092_01
theorem w1 : namesResolve lw.row.prog = true := by rw [PySem.W.Fast.te8377067652309620493]; kernel_rfl
noncomputable abbrev lwb : List Stmt := lw.row.prog.main.body
noncomputable def lk0 : Look := { strict := false, foot := none, bare := [] }
theorem r1 : readsOut lw.row.prog lwb "vars" = false := by rw [PySem.W.Fast.te13343964577679436407]; kernel_rfl
theorem r2 : readsOut lw.row.prog lwb "dir" = false := by rw [PySem.W.Fast.te13343964577679436407]; kernel_rfl
theorem r3 : readsOut lw.row.prog lwb "locals" = false := by rw [PySem.W.Fast.te13343964577679436407]; kernel_rfl
theorem w2a : (["vars", "dir", "locals"] : List Str).filter (readsOut lw.row.prog lwb) = [] := by simp only [List.filter, r1, r2, r3]
theorem w2s : (!(importedModules lwb).all cThrough.contains) = false := by kernel_rfl
theorem nr_app {lk : Look} {a b : List Stmt} (h1 : noRoadLSs lk a = true) (h2 : noRoadLSs lk b = true) : noRoadLSs lk (a ++ b) = true := by
  induction a with
  | nil => exact h2
  | cons s r ih => exact Bool.and_eq_true_iff.mpr ⟨(Bool.and_eq_true_iff.mp h1).1, ih (Bool.and_eq_true_iff.mp h1).2⟩
theorem nr_cut {lk : Look} {l : List Stmt} (n : Nat) (h1 : noRoadLSs lk (l.take n) = true) (h2 : noRoadLSs lk (l.drop n) = true) : noRoadLSs lk l = true := List.take_append_drop n l ▸ nr_app h1 h2
theorem w2_0 : noRoadLSs lk0 ((lwb.drop 0).take 30) = true := by rw [PySem.W.Fast.te8326940854005059898]; kernel_rfl
theorem w2_1 : noRoadLSs lk0 ((lwb.drop 30).take 30) = true := by rw [PySem.W.Fast.te8326940854005059898]; kernel_rfl
theorem w2_2 : noRoadLSs lk0 ((lwb.drop 60).take 25) = true := by rw [PySem.W.Fast.te8326940854005059898]; kernel_rfl
theorem w2_3 : noRoadLSs lk0 ((lwb.drop 85).take 20) = true := by rw [PySem.W.Fast.te8326940854005059898]; kernel_rfl
theorem w2_4 : noRoadLSs lk0 ((lwb.drop 105).take 20) = true := by rw [PySem.W.Fast.te8326940854005059898]; kernel_rfl
theorem w2_5 : noRoadLSs lk0 ((lwb.drop 125).take 15) = true := by rw [PySem.W.Fast.te8326940854005059898]; kernel_rfl
theorem w2_6 : noRoadLSs lk0 (lwb.drop 140) = true := by rw [PySem.W.Fast.te8326940854005059898]; kernel_rfl
theorem nr_at {lk : Look} {l : List Stmt} (a b : Nat) {n : Nat} (h1 : noRoadLSs lk ((l.drop a).take n) = true) (h2 : noRoadLSs lk (l.drop b) = true) (e : a + n = b) : noRoadLSs lk (l.drop a) = true := nr_cut n h1 (by rw [List.drop_drop, e]; exact h2)
theorem w2 : noRoadLSs { strict := !(importedModules lw.row.prog.main.body).all cThrough.contains, foot := none, bare := (["vars", "dir", "locals"] : List Str).filter (readsOut lw.row.prog lw.row.prog.main.body) } lw.row.prog.main.body = true := by
  rw [w2a, w2s]
  exact nr_cut 30 w2_0 (nr_at 30 60 w2_1 (nr_at 60 85 w2_2 (nr_at 85 105 w2_3 (nr_at 105 125 w2_4 (nr_at 125 140 w2_5 w2_6 rfl) rfl) rfl) rfl) rfl)
theorem w3 : (namesMeet lw.row.prog lw.row.prog.main.body fun _ n => attrL n) = true := by
  rw [PySem.W.Fast.te17119622794617984870, PySem.W.Fast.te17868728402115742887]; kernel_rfl
theorem w4 : noRoadLSs { strict := true, foot := some lw.bound', writes := lw.writes, may := lw.may } lw.footing = true := by
  rw [PySem.W.Fast.te8326940854005059898, PySem.W.Fast.te797321630700447069]; kernel_rfl
theorem w5 : (namesMeet lw.prog lw.footing (fun sc n => (!(["type", "isinstance", "issubclass", "getattr", "hasattr"] : List Str).contains n || sc.names.lookup n == some .globalImplicit) &&
    (lw.may != some n || sc.kind == .module || sc.names.lookup n == some .globalImplicit))) = true := by
  rw [PySem.W.Fast.te17119622794617984870]; kernel_rfl
theorem w6 : (namesMeet lw.prog lw.above (fun _ n => !lw.own.contains n)) = true := by
  rw [PySem.W.Fast.te17119622794617984870, PySem.W.Fast.te10792542408131684335]; kernel_rfl
theorem w7 : (namesMeet lw.prog lw.footing fun sc n => sc.kind == .module || sc.names.lookup n != some .globalExplicit) = true := by
  rw [PySem.W.Fast.te17119622794617984870]; kernel_rfl
theorem w8 : lw.namesIt = true := by
  rw [PySem.W.Fast.te16286561074155671207]; kernel_rfl
theorem looks : looksOpen lw.row.prog = true := by
  unfold looksOpen
  iterate 5 (refine look_both ?_ ?_)
  · kernel_rfl
  · kernel_rfl
  · exact w1
  · kernel_rfl
  · exact w2
  · exact w3
theorem part : lw.row.partSaid = true := by
  unfold OpenRow.partSaid
  iterate 13 (refine look_both ?_ ?_)
  · exact looks
  all_goals kernel_rfl
theorem wsd : lw.wellSaid = true := by
  unfold OpenLaw.wellSaid
  iterate 18 (refine look_both ?_ ?_)
  · exact look_both (look_both part (by kernel_rfl)) (by kernel_rfl)
  · kernel_rfl
  · kernel_rfl
  · kernel_rfl
  · kernel_rfl
  · kernel_rfl
  · exact w4
  · kernel_rfl
  · exact w8
  · kernel_rfl
  · kernel_rfl
  · kernel_rfl
  · kernel_rfl
  · exact w5
  · kernel_rfl
  · kernel_rfl
  · kernel_rfl
  · exact w6
  · exact w7
theorem tables_ : lw.row.prog.tablesWhole = true := by
  show TablesWhole.wProgram TablesWhole.holds _ = true
  unfold TablesWhole.wProgram TablesWhole.holds
  rw [PySem.W.Fast.te6116379765354995101, PySem.W.Fast.te15985051520779696433]
  kernel_rfl
end Mine
end
section
namespace Mine
inductive Tree where
  | lit (k : Nat) (i : Int)
  | txt
  | name (y : Bool)
  | un (op : Nat) (a : Tree)
  | bin (op : Nat) (a b : Tree)
inductive AV where
  | none
  | bool (b : Bool)
  | int (i : Int)
  | str (k : Nat)
  | glob (k : Nat)
  | tup (xs : List AV)
  | lst (xs : List AV)
  | loc (i : Nat)
  | tree (t : Tree)
  | node (t : Tree)
  | fin (c : Nat) (ks : List Nat) (vs : List AV)
  | vec (k : Nat) (x : AV)
  | rng (a b : Int)
inductive AO where
  | list (xs : List AV)
  | ns (kvs : List (Nat × AV))
  | inst (c d : Nat)
  | dict (kvs : List (Nat × AV))
  | idict (ks : List Int)
noncomputable abbrev Sto := List AO
noncomputable abbrev Loc := List (Nat × AV)
noncomputable abbrev KE := AV → Sto → Prop
noncomputable abbrev KX := Sto → Prop
noncomputable abbrev KS := Loc → Sto → Prop
noncomputable abbrev KT := Bool → Sto → Prop
noncomputable def treeAV : Tree → AV
  | .lit k i => .tup [.str k, .int i]
  | .txt => .tup [.str 12, .str 13]
  | .name y => .tup [.str 5, .str (if y then 18 else 17)]
  | .un op a => .tup [.str 16, .str op, .lst [.tree a]]
  | .bin op a b => .tup [.str 16, .str op, .lst [.tree a, .tree b]]
noncomputable def itemAV (k : Nat) (i : Int) : AV := if k = 8 then .tup [.int i, .int 1] else .int i
noncomputable def symAV (s : Nat) : AV := .fin 2 [0, 5, 2] [.str 14, .str s, .none]
noncomputable def nodeAV : Tree → AV
  | .lit k i => .vec k (itemAV k i)
  | .txt => .vec 11 (.str 13)
  | .name y => symAV (if y then 18 else 17)
  | .un op a => .fin 3 [0, 1, 6, 2, 7] [.str 15, .lst [symAV op, .node a], .lst [.none, .none], .none, .none]
  | .bin op a b => .fin 3 [0, 1, 6, 2, 7] [.str 15, .lst [symAV op, .node a, .node b], .lst [.none, .none, .none], .none, .none]
noncomputable def expo : AV → AV
  | .tree t => treeAV t
  | .node t => nodeAV t
  | v => v
inductive E where
  | nm (x : Nat) | gl (x : Nat)
  | cN | cB (b : Bool) | cI (i : Int) | cS (k : Nat)
  | attr (e : E) (f : Nat)
  | sub (e i : E)
  | slF (e lo : E) | slT (e hi : E)
  | call (f : E) (args : List E)
  | meth (o : E) (m : Nat) (args : List E)
  | bin (op : Nat) (l r : E)
  | neg (e : E) | not (e : E)
  | and (es : List E) | or (es : List E)
  | cmp (op : Nat) (l r : E)
  | ife (t a b : E)
  | tup (es : List E) | lst (es : List E) | fls (es : List E)
  | dct (ks : List Nat) (es : List E) | idc
  | comp (elt : E) (x : Nat) (it : E)
  | wild
inductive S where
  | asg (x : Nat) (e : E)
  | asgT (xs : List Nat) (e : E)
  | swap (xs : List Nat) (es : List E)
  | setA (o : E) (f : Nat) (e : E)
  | setI (o i e : E)
  | augN (x op : Nat) (e : E)
  | augA (o : E) (f op : Nat) (e : E)
  | augI (o i : E) (op : Nat) (e : E)
  | ex (e : E)
  | ret (e : E) | ret0
  | ite (t : E) (a b : List S)
  | forr (x : Nat) (it : E) (b : List S)
  | forR (x : Nat) (it : E) (b : List S)
  | whil (t : E) (b : List S)
  | tryN (b : List S)
  | rais (msg : E)
  | cont | pass | bad
mutual
noncomputable def dat (n : Nat) (v : AV) : Bool := match v with
  | .none => true
  | .bool _ => true
  | .int _ => true
  | .str k => Nat.blt k 316
  | .tup xs => match n with
    | 0 => false
    | n + 1 => dats n xs
  | .lst xs => match n with
    | 0 => false
    | n + 1 => dats n xs
  | _ => false
noncomputable def dats (n : Nat) (l : List AV) : Bool := match l with
  | [] => true
  | x :: xs => dat n x && dats n xs
end
mutual
noncomputable def veq (a b : AV) : Bool := match a with
  | .none => match b with
    | .none => true
    | _ => false
  | .bool x => match b with
    | .bool y => x == y
    | .int j => decide ((if x then 1 else 0) = j)
    | _ => false
  | .int i => match b with
    | .bool y => decide (i = (if y then 1 else 0))
    | .int j => decide (i = j)
    | _ => false
  | .str x => match b with
    | .str y => Nat.beq x y
    | _ => false
  | .tup x => match b with
    | .tup y => veqs x y
    | _ => false
  | .lst x => match b with
    | .lst y => veqs x y
    | _ => false
  | _ => false
noncomputable def veqs (a b : List AV) : Bool := match a with
  | [] => b.isEmpty
  | x :: xs => match b with
    | [] => false
    | y :: ys => veq x y && veqs xs ys
end
noncomputable def eqAV (a b : AV) : Option Bool := if (dat 8 a && dat 8 b) = true then some (veq a b) else Option.none
mutual
noncomputable def bnd (n : Nat) : AV → Bool
  | .loc i => Nat.blt i n
  | .tup xs => bnds n xs
  | .lst xs => bnds n xs
  | .fin _ _ vs => bnds n vs
  | .vec _ x => bnd n x
  | _ => true
noncomputable def bnds (n : Nat) : List AV → Bool
  | [] => true
  | x :: xs => bnd n x && bnds n xs
end
noncomputable def bndO (n : Nat) : AO → Bool
  | .list xs => bnds n xs
  | .ns kvs => bnds n (kvs.map (·.2))
  | .inst _ d => Nat.blt d n
  | .dict kvs => bnds n (kvs.map (·.2))
  | .idict _ => true
noncomputable def memAV (v : AV) (xs : List AV) : Option Bool := if (dats 7 (xs.map expo) && dat 8 v) = true then some ((xs.map expo).any fun y => veq y v) else Option.none
noncomputable def nsLk : List (Nat × AV) → Nat → Option AV
  | [], _ => Option.none
  | p :: r, k => if p.1 = k then some p.2 else nsLk r k
noncomputable def nsPut : List (Nat × AV) → Nat → AV → List (Nat × AV)
  | [], k, v => [(k, v)]
  | p :: r, k, v => if p.1 = k then (k, v) :: r else p :: nsPut r k v
noncomputable def kvLk : List Nat → List AV → Nat → Option AV
  | k :: ks, v :: vs, x => if k = x then some v else kvLk ks vs x
  | _, _, _ => Option.none
noncomputable def attrOf (σ : Sto) (v : AV) (f : Nat) : Option AV := match expo v with
  | .loc i => match σ[i]? with
    | some (.inst c d) => match σ[d]? with
      | some (.ns kvs) => if c = 6 ∧ f = 39 then Option.none else nsLk kvs f
      | _ => Option.none
    | _ => Option.none
  | .fin _ ks vs => kvLk ks vs f
  | .vec k x => if f = 0 then some (.str k) else if f = 1 then some (.lst [x]) else if f = 2 then some .none else Option.none
  | _ => Option.none
noncomputable def idxOf (i : Int) (n : Nat) : Option Nat := if 0 ≤ i then (if i.toNat < n then some i.toNat else Option.none) else if 0 ≤ i + n then some (i + n).toNat else Option.none
noncomputable def strIt (k : Nat) (i : Int) : Option AV := if k = 278 then (if i = 0 then some (.str 17) else if i = 1 then some (.str 18) else Option.none) else Option.none
noncomputable def itemOf (σ : Sto) (v j : AV) : Option AV := match expo v, j with
  | .tup xs, .int i => (idxOf i xs.length).bind (xs[·]?)
  | .lst xs, .int i => (idxOf i xs.length).bind (xs[·]?)
  | .str k, .int i => strIt k i
  | .loc l, .int i => match σ[l]? with
    | some (.list xs) => (idxOf i xs.length).bind (xs[·]?)
    | _ => Option.none
  | .loc l, .str k => match σ[l]? with
    | some (.dict kvs) => nsLk kvs k
    | _ => Option.none
  | _, _ => Option.none
noncomputable def truthOf (σ : Sto) : AV → Option Bool
  | .none => some false
  | .bool b => some b
  | .int i => some (decide (i ≠ 0))
  | .lst xs => some (!xs.isEmpty)
  | .loc l => match σ[l]? with
    | some (.dict []) => some false
    | _ => Option.none
  | _ => Option.none
noncomputable def Small (x : Int) : Prop := x.natAbs < 2 ^ 2000
noncomputable def binOf (op : Nat) (a b : AV) : Option AV := match op, a, b with
  | 0, .int x, .int y => some (.int (x + y))
  | 1, .int x, .int y => some (.int (x - y))
  | 2, .int x, .int y => if x.natAbs < 2 ^ 2000 ∧ y.natAbs < 2 ^ 2000 then some (.int (x * y)) else Option.none
  | 3, .int x, .int y => if 0 < y ∧ y < 1073741824 then some (.int (x / y)) else Option.none
  | 4, .int x, .int y => if y ≠ 0 then some (.int (x.fmod y)) else Option.none
  | 0, .tup x, .tup y => if x.length + y.length < 1000 then some (.tup (x ++ y)) else Option.none
  | 0, .lst x, .lst y => if x.length + y.length < 1000 then some (.lst (x ++ y)) else Option.none
  | 2, .lst [x], .int n => if 0 ≤ n ∧ n < 1000 then some (.lst (List.replicate n.toNat x)) else Option.none
  | _, _, _ => Option.none
noncomputable def isNone : AV → Option Bool
  | .none => some true
  | .bool _ | .int _ | .str _ | .tup _ | .lst _ | .loc _ | .fin _ _ _ | .vec _ _ => some false
  | _ => Option.none
noncomputable def cmpOf (op : Nat) (a b : AV) : Option Bool := match op, a, b with
  | 0, a, b => eqAV a b
  | 1, a, b => (eqAV a b).map (!·)
  | 2, .int x, .int y => some (decide (x < y))
  | 3, .int x, .int y => some (decide (x ≤ y))
  | 4, .int x, .int y => some (decide (x > y))
  | 5, .int x, .int y => some (decide (x ≥ y))
  | 6, a, .none => isNone a
  | 7, a, .none => (isNone a).map (!·)
  | 8, a, .tup xs => memAV a xs
  | 8, a, .lst xs => memAV a xs
  | 9, a, .tup xs => (memAV a xs).map (!·)
  | 9, a, .lst xs => (memAV a xs).map (!·)
  | _, _, _ => Option.none
noncomputable def cmpS (σ : Sto) (op : Nat) (a b : AV) : Option Bool := match op, a, b with
  | 6, .glob _, .none => some false
  | 7, .glob _, .none => some true
  | 8, .int i, .loc l => match σ[l]? with
    | some (.idict ks) => some (ks.contains i)
    | _ => Option.none
  | 9, .str k, .loc l => match σ[l]? with
    | some (.list xs) => (memAV (.str k) xs).map (!·)
    | _ => Option.none
  | op, a, b => cmpOf op (expo a) (expo b)
noncomputable def lenOf (σ : Sto) (v : AV) : Option Int := match expo v with
  | .tup xs => some xs.length
  | .lst xs => some xs.length
  | .loc l => match σ[l]? with
    | some (.list xs) => some xs.length
    | _ => Option.none
  | _ => Option.none
noncomputable def itemsOf (σ : Sto) (v : AV) : Option (List AV) := match expo v with
  | .tup xs => some xs
  | .lst xs => some xs
  | .loc l => match σ[l]? with
    | some (.list xs) => some xs
    | _ => Option.none
  | .rng a b => if 0 ≤ a ∧ a < 10000 ∧ -10000 < b ∧ b < 10000 then some ((List.range (b - a).toNat).map fun (i : Nat) => AV.int (a + (i : Int))) else Option.none
  | _ => Option.none
noncomputable def isVec (σ : Sto) (v : AV) : Option Bool := match expo v with
  | .vec _ _ => some true
  | .fin _ _ _ => some false
  | _ => Option.none
noncomputable def setAV (σ : Sto) (v : AV) (f : Nat) (x : AV) : Option Sto := match expo v with
  | .loc i => match σ[i]? with
    | some (.inst _ d) => match σ[d]? with
      | some (.ns kvs) => if kvs.length < 20 then some (σ.set d (.ns (nsPut kvs f x))) else Option.none
      | _ => Option.none
    | _ => Option.none
  | .vec _ _ => match x with
    | .bool true => if f = 3 then some σ else Option.none
    | _ => Option.none
  | _ => Option.none
noncomputable def setIV (σ : Sto) (v j x : AV) : Option Sto := match v, j with
  | .loc l, .int i => match σ[l]? with
    | some (.list xs) => if 0 ≤ i ∧ i.toNat < xs.length then some (σ.set l (.list (xs.set i.toNat x))) else Option.none
    | some (.idict ks) => match x with
      | .bool true => if ks.contains i = false ∧ ks.length < 10000 then some (σ.set l (.idict (ks ++ [i]))) else Option.none
      | _ => Option.none
    | _ => Option.none
  | .loc l, .str k => match σ[l]? with
    | some (.dict kvs) => if (nsLk kvs k).isSome = true then some (σ.set l (.dict (nsPut kvs k x))) else Option.none
    | _ => Option.none
  | _, _ => Option.none
noncomputable def augOf (σ : Sto) (op : Nat) (a b : AV) : Option (AV × Sto) := match op, a, b with
  | 0, .loc l, .lst ys => match σ[l]? with
    | some (.list xs) => if xs.length + ys.length < 10000 then some (.loc l, σ.set l (.list (xs ++ ys))) else Option.none
    | _ => Option.none
  | 0, .int x, .int y => some (.int (x + y), σ)
  | 1, .int x, .int y => some (.int (x - y), σ)
  | _, _, _ => Option.none
end Mine
end
section
namespace Mine
noncomputable def opt {α : Type} (o : Option α) (k : α → Prop) : Prop := match o with
  | some r => k r
  | Option.none => False
@[simp] theorem opt_some {α : Type} (r : α) (k : α → Prop) : opt (some r) k = k r := rfl
@[simp] theorem opt_none {α : Type} (k : α → Prop) : opt Option.none k = False := rfl
theorem opt_ex {α : Type} {o : Option α} {k : α → Prop} (h : opt o k) : ∃ r, o = some r ∧ k r := by
  cases o with
  | none => exact h.elim
  | some r => exact ⟨r, rfl, h⟩
theorem opt_el {α : Type} {o : Option α} {k : α → Prop} {G : Prop} (h : opt o k) (c : ∀ r, o = some r → k r → G) : G := by
  cases o with
  | none => exact h.elim
  | some r => exact c r rfl h
theorem opt_of {α : Type} {o : Option α} {v : α} {k : α → Prop} (h : o = some v) (q : k v) : opt o k := h ▸ q
noncomputable def br (c : Bool) (A B : Prop) : Prop := @Bool.rec (fun zz => Prop) B A c
theorem br_of {c : Bool} {A B : Prop} (h1 : c = true → A) (h2 : c = false → B) : @Bool.rec (fun zz => Prop) B A c := by
  cases c with
  | true => exact h1 rfl
  | false => exact h2 rfl
noncomputable abbrev Calls := Nat → List AV → Sto → KE → KX → Prop
noncomputable def glOf : AV → Option Nat
  | .glob g => some g
  | _ => Option.none
noncomputable def asT : AV → Option (List AV)
  | .tup xs => some xs
  | _ => Option.none
noncomputable def asL : AV → Option (List AV)
  | .lst xs => some xs
  | _ => Option.none
noncomputable def asI : AV → Option Int
  | .int i => some i
  | _ => Option.none
noncomputable def oneI (g : Nat) (i : Int) (σ : Sto) (k : KE) : Prop := if g = 22 then k (.rng 0 i) σ else if g = 23 then k (.int (if i < 0 then -i else i)) σ else if g = 24 then k (.int i) σ else False
noncomputable def twoI (g : Nat) (a b : Int) (σ : Sto) (k : KE) : Prop := if g = 22 then k (.rng a b) σ else if g = 26 then k (.int (if a < b then b else a)) σ else if g = 27 then k (.int (if b < a then b else a)) σ else False
noncomputable def oneB (g : Nat) (v : AV) (σ : Sto) (k : KE) : Prop := if g = 21 then opt (lenOf σ v) fun n => k (.int n) σ else opt (asI v) fun i => oneI g i σ k
noncomputable def twoB (g : Nat) (v y : AV) (σ : Sto) (k : KE) : Prop := if g = 25 then opt (glOf y) fun h => if h = 32 then opt (isVec σ v) (fun b => k (.bool b) σ) else False else opt (asI v) fun a => opt (asI y) fun b => twoI g a b σ k
noncomputable def threeB (g : Nat) (x y z : AV) (σ : Sto) (k : KE) : Prop := if g = 26 then opt (asI x) fun a => opt (asI y) fun b => opt (asI z) fun c => k (.int (if (if a < b then b else a) < c then c else (if a < b then b else a))) σ else False
noncomputable def callB (g : Nat) (vs : List AV) (σ : Sto) (k : KE) : Prop := match vs with
  | [v] => oneB g v σ k
  | [v, y] => twoB g v y σ k
  | [v, y, z] => threeB g v y z σ k
  | _ => False
noncomputable def isBi (g : Nat) : Bool := Nat.ble 21 g && Nat.ble g 28
noncomputable def mostD : Int := 10 ^ 5000
noncomputable def GLV (x : Nat) : AV := if x = 208 then .int 2147483647 else if x = 209 then .int mostD else .glob x
noncomputable def MEL : List (Nat × Nat) := [(163, 303), (125, 304), (155, 305), (130, 306), (132, 307), (39, 308), (16, 309), (134, 310), (153, 311), (137, 312), (146, 313)]
noncomputable def ME (c m : Nat) : Option Nat := if c = 6 then MEL.lookup m else Option.none
section
variable (C : Calls)
noncomputable def callV (g : Nat) (vs : List AV) (σ : Sto) (k : KE) (X : KX) : Prop := if isBi g = true then callB g vs σ k else C g vs σ k X
noncomputable def listMeth (l : Nat) (xs : List AV) (m : Nat) (vs : List AV) (σ : Sto) (k : KE) : Prop := match m, vs with
  | 29, [v] => xs.length < 10000 ∧ k .none (σ.set l (.list (xs ++ [v])))
  | 30, [] => opt xs.getLast? fun v => k v (σ.set l (.list xs.dropLast))
  | _, _ => False
inductive Cal where
  | lst (l : Nat)
  | fn (g : Nat) (first : List AV)
noncomputable def calOf (σ : Sto) (ov : AV) (m : Nat) : Option Cal := match ov with
  | .loc l => match σ[l]? with
    | some (.list _) => if m = 29 ∨ m = 30 then some (.lst l) else Option.none
    | some (.inst c d) => match σ[d]? with
      | some (.ns kvs) => match nsLk kvs m with
        | some fv => match fv with
          | .glob g => if isBi g = true ∨ m ≠ 123 ∨ c ≠ 6 then Option.none else some (.fn g [])
          | _ => Option.none
        | Option.none => (ME c m).map fun g => .fn g [ov]
      | _ => Option.none
    | _ => Option.none
  | _ => Option.none
noncomputable def runCal (c : Cal) (m : Nat) (vs : List AV) (σ : Sto) (k : KE) (X : KX) : Prop := match c with
  | .lst l => match σ[l]? with
    | some (.list xs) => listMeth l xs m vs σ k
    | _ => False
  | .fn g first => C g (first ++ vs) σ k X
structure W2 where
  v : Loc → Sto → KE → KX → Prop
  t : Loc → Sto → KT → KX → Prop
noncomputable def ofV (f : Loc → Sto → KE → KX → Prop) : W2 := ⟨f, fun l σ k X => f l σ (fun v σ => opt (truthOf σ v) fun b => k b σ) X⟩
noncomputable def andV : List W2 → Loc → Sto → KE → KX → Prop
  | [], _, _, _, _ => False
  | p :: r, l, σ, k, X => match r with
    | [] => p.v l σ k X
    | _ :: _ => p.v l σ (fun v σ => opt (truthOf σ v) fun b => br b (andV r l σ k X) (k v σ)) X
noncomputable def orV : List W2 → Loc → Sto → KE → KX → Prop
  | [], _, _, _, _ => False
  | p :: r, l, σ, k, X => match r with
    | [] => p.v l σ k X
    | _ :: _ => p.v l σ (fun v σ => opt (truthOf σ v) fun b => br b (k v σ) (orV r l σ k X)) X
noncomputable def andT : List W2 → Loc → Sto → KT → KX → Prop
  | [], _, σ, k, _ => k true σ
  | p :: r, l, σ, k, X => p.t l σ (fun b σ => br b (andT r l σ k X) (k false σ)) X
noncomputable def orT : List W2 → Loc → Sto → KT → KX → Prop
  | [], _, σ, k, _ => k false σ
  | p :: r, l, σ, k, X => p.t l σ (fun b σ => br b (k true σ) (orT r l σ k X)) X
noncomputable def valsV : List W2 → Loc → Sto → (List AV → Sto → Prop) → KX → Prop
  | [], _, σ, k, _ => k [] σ
  | p :: r, l, σ, k, X => p.v l σ (fun v σ => valsV r l σ (fun vs σ => k (v :: vs) σ) X) X
noncomputable def compV (elt : Loc → Sto → KE → Prop) (x : Nat) (v : AV) (xs0 : List AV) (l : Loc) (k : KE) : List AV → List AV → Sto → Prop
  | [], acc, σ => itemsOf σ v = some xs0 ∧ k (.lst acc) σ
  | y :: r, acc, σ => itemsOf σ v = some xs0 ∧ elt ((x, y) :: l) σ (fun e σ => compV elt x v xs0 l k r (acc ++ [e]) σ)
noncomputable def slF (v j : AV) : Option AV := match expo v, j with
  | .tup xs, .int i => if 1 ≤ i ∧ i.toNat ≤ xs.length then some (.tup (xs.drop i.toNat)) else Option.none
  | .lst xs, .int i => if 0 ≤ i ∧ i < 1000 then some (.lst (xs.drop i.toNat)) else Option.none
  | _, _ => Option.none
noncomputable def slT (v j : AV) : Option AV := match expo v, j with
  | .tup xs, .int i => if 0 ≤ i ∧ i < 1000 then some (.tup (xs.take i.toNat)) else Option.none
  | .lst xs, .int i => if 0 ≤ i ∧ i < 1000 then some (.lst (xs.take i.toNat)) else Option.none
  | _, _ => Option.none
noncomputable def noX : KX := fun zz => False
mutual
noncomputable def wp2 : E → W2
  | .nm x => ofV fun l σ k zz => opt (nsLk l x) fun v => k v σ
  | .gl x => ofV fun zz σ k zz => k (GLV x) σ
  | .cN => ofV fun zz σ k zz => k .none σ
  | .cB b => ofV fun zz σ k zz => k (.bool b) σ
  | .cI i => ofV fun zz σ k zz => k (.int i) σ
  | .cS s => ofV fun zz σ k zz => k (.str s) σ
  | .attr e f => ofV fun l σ k X => (wp2 e).v l σ (fun v σ => opt (attrOf σ v f) fun r => k r σ) X
  | .sub e i => ofV fun l σ k X => (wp2 e).v l σ (fun v σ => (wp2 i).v l σ (fun j σ => opt (itemOf σ v j) fun r => k r σ) X) X
  | .slF e lo => ofV fun l σ k X => (wp2 e).v l σ (fun v σ => (wp2 lo).v l σ (fun j σ => opt (slF v j) fun r => k r σ) X) X
  | .slT e hi => ofV fun l σ k X => (wp2 e).v l σ (fun v σ => (wp2 hi).v l σ (fun j σ => opt (slT v j) fun r => k r σ) X) X
  | .call f args => ofV fun l σ k X => (wp2 f).v l σ (fun fv σ => opt (glOf fv) fun g => valsV (wp2s args) l σ (fun vs σ => callV C g vs σ k X) X) X
  | .meth o m args => ofV fun l σ k X => (wp2 o).v l σ (fun ov σ => opt (calOf σ ov m) fun c => valsV (wp2s args) l σ (fun vs σ => runCal C c m vs σ k X) X) X
  | .bin op a b => ofV fun l σ k X => (wp2 a).v l σ (fun va σ => (wp2 b).v l σ (fun vb σ => opt (binOf op va vb) fun r => k r σ) X) X
  | .neg e => ofV fun l σ k X => (wp2 e).v l σ (fun v σ => opt (asI v) fun i => k (.int (-i)) σ) X
  | .not e => ⟨fun l σ k X => (wp2 e).v l σ (fun v σ => opt (truthOf σ v) fun b => k (.bool (!b)) σ) X, fun l σ k X => (wp2 e).t l σ (fun b σ => k (!b) σ) X⟩
  | .and es => ⟨andV (wp2s es), andT (wp2s es)⟩
  | .or es => ⟨orV (wp2s es), orT (wp2s es)⟩
  | .cmp op a b => ⟨fun l σ k X => (wp2 a).v l σ (fun va σ => (wp2 b).v l σ (fun vb σ => opt (cmpS σ op va vb) fun r => k (.bool r) σ) X) X,
      fun l σ k X => (wp2 a).v l σ (fun va σ => (wp2 b).v l σ (fun vb σ => opt (cmpS σ op va vb) fun r => k r σ) X) X⟩
  | .ife t a b => ⟨fun l σ k X => (wp2 t).t l σ (fun c σ => br c ((wp2 a).v l σ k X) ((wp2 b).v l σ k X)) X,
      fun l σ k X => (wp2 t).t l σ (fun c σ => br c ((wp2 a).t l σ k X) ((wp2 b).t l σ k X)) X⟩
  | .tup es => ofV fun l σ k X => valsV (wp2s es) l σ (fun vs σ => k (.tup vs) σ) X
  | .lst es => ofV fun l σ k X => valsV (wp2s es) l σ (fun vs σ => k (.loc σ.length) (σ ++ [.list vs])) X
  | .fls es => ofV fun l σ k X => valsV (wp2s es) l σ (fun vs σ => k (.lst vs) σ) X
  | .dct ks es => ofV fun l σ k X => valsV (wp2s es) l σ (fun vs σ => k (.loc σ.length) (σ ++ [.dict (ks.zip vs)])) X
  | .idc => ofV fun zz σ k zz => k (.loc σ.length) (σ ++ [.idict []])
  | .comp elt x it => ofV fun l σ k X => (wp2 it).v l σ (fun v σ => opt (itemsOf σ v) fun xs => compV (fun l σ k => (wp2 elt).v l σ k noX) x v xs l k xs [] σ) X
  | .wild => ⟨fun zz zz zz zz => False, fun zz zz zz zz => False⟩
noncomputable def wp2s : List E → List W2
  | [] => []
  | e :: es => wp2 e :: wp2s es
end
structure Fl where
  N : KS
  R : KE
  C : KS
noncomputable def asgs : List Nat → List AV → Loc → Option Loc
  | [], [], l => some l
  | x :: xs, v :: vs, l => asgs xs vs (nsPut l x v)
  | _, _, _ => Option.none
noncomputable def forV (body : Loc → Sto → Fl → Prop) (x : Nat) (v : AV) (xs0 : List AV) (F : Fl) : List AV → Loc → Sto → Prop
  | [], l, σ => itemsOf σ v = some xs0 ∧ F.N l σ
  | y :: r, l, σ => itemsOf σ v = some xs0 ∧ body (nsPut l x y) σ ⟨fun l σ => forV body x v xs0 F r l σ, F.R, fun l σ => forV body x v xs0 F r l σ⟩
mutual
noncomputable def wpS : S → Loc → Sto → Fl → KX → Prop
  | .asg x e, l, σ, F, X => (wp2 C e).v l σ (fun v σ => F.N (nsPut l x v) σ) X
  | .asgT xs e, l, σ, F, X => (wp2 C e).v l σ (fun v σ => opt (asT (expo v)) fun vs => opt (asgs xs vs l) fun l' => F.N l' σ) X
  | .swap xs es, l, σ, F, X => valsV (wp2s C es) l σ (fun vs σ => opt (asgs xs vs l) fun l' => F.N l' σ) X
  | .setA o f e, l, σ, F, X => (wp2 C e).v l σ (fun v σ => (wp2 C o).v l σ (fun ov σ => opt (setAV σ ov f v) fun σ' => F.N l σ') X) X
  | .setI o i e, l, σ, F, X => (wp2 C e).v l σ (fun v σ => (wp2 C o).v l σ (fun ov σ => (wp2 C i).v l σ (fun iv σ => opt (setIV σ ov iv v) fun σ' => F.N l σ') X) X) X
  | .augN x op e, l, σ, F, X => opt (nsLk l x) fun old => (wp2 C e).v l σ (fun v σ => opt (augOf σ op old v) fun r => F.N (nsPut l x r.1) r.2) X
  | .augA o f op e, l, σ, F, X => (wp2 C o).v l σ (fun ov σ => opt (attrOf σ ov f) fun old => (wp2 C e).v l σ (fun v σ => opt (augOf σ op old v) fun r => opt (setAV r.2 ov f r.1) fun σ' => F.N l σ') X) X
  | .augI o i op e, l, σ, F, X => (wp2 C o).v l σ (fun ov σ => (wp2 C i).v l σ (fun iv σ => opt (itemOf σ ov iv) fun old => (wp2 C e).v l σ (fun v σ => opt (augOf σ op old v) fun r => opt (setIV r.2 ov iv r.1) fun σ' => F.N l σ') X) X) X
  | .ex e, l, σ, F, X => (wp2 C e).v l σ (fun zz σ => F.N l σ) X
  | .ret e, l, σ, F, X => (wp2 C e).v l σ F.R X
  | .ret0, _, σ, F, _ => F.R .none σ
  | .ite t a b, l, σ, F, X => (wp2 C t).t l σ (fun c σ => br c (wpB a l σ F X) (wpB b l σ F X)) X
  | .forr x it b, l, σ, F, X => (wp2 C it).v l σ (fun v σ => opt (itemsOf σ v) fun xs => forV (fun l σ F => wpB b l σ F noX) x v xs F xs l σ) X
  | .forR x it b, l, σ, F, X => (wp2 C it).v l σ (fun v σ => opt (asL (expo v)) fun xs => forV (fun l σ F => wpB b l σ F noX) x (.lst xs) xs F xs.reverse l σ) X
  | .whil t b, l, σ, F, _ => ∃ (I : KS) (m : Loc → Sto → Nat), I l σ ∧ ∀ l σ, I l σ → (wp2 C t).t l σ (fun c σ₁ =>
        br c (wpB b l σ₁ ⟨fun l' σ' => I l' σ' ∧ m l' σ' < m l σ, F.R, fun l' σ' => I l' σ' ∧ m l' σ' < m l σ⟩ noX) (F.N l σ₁)) noX
  | .tryN b, l, σ, F, _ => wpB b l σ F (fun σ => F.R .none σ)
  | .rais e, l, σ, _, X => (wp2 C e).v l σ (fun zz σ => X σ) X
  | .cont, l, σ, F, _ => F.C l σ
  | .pass, l, σ, F, _ => F.N l σ
  | .bad, _, _, _, _ => False
noncomputable def wpB : List S → Loc → Sto → Fl → KX → Prop
  | [], l, σ, F, _ => F.N l σ
  | s :: ss, l, σ, F, X => wpS s l σ ⟨fun l σ => wpB ss l σ F X, F.R, F.C⟩ X
end
end
structure Fn where
  ps : List Nat
  b : List S
  df : Nat
noncomputable def Cut (σ σ' σ'' : Sto) : Prop := σ''.length = σ.length ∧ ∀ i, i < σ.length → σ'[i]? = σ''[i]? ∧ (σ''[i]? = σ[i]? ∨ ∃ ao, σ''[i]? = some ao ∧ bndO σ.length ao = true)
inductive Cv : AV → AV → Prop
  | refl (v) : Cv v v
  | tree (t) : Cv (treeAV t) (.tree t)
  | node (t) : Cv (nodeAV t) (.node t)
  | untree (t) : Cv (.tree t) (treeAV t)
  | unnode (t) : Cv (.node t) (nodeAV t)
  | pair (a t) : Cv (.tup [a, .node t]) (.tup [a, nodeAV t])
inductive Fz (n : Nat) (σ : Sto) : AV → AV → Prop
  | refl (v) : Fz n σ v v
  | list (i xs) : n ≤ i → σ[i]? = some (.list xs) → Fz n σ (.loc i) (.lst xs)
  | fin (i c d kvs) : n ≤ i → n ≤ d → σ[i]? = some (.inst c d) → σ[d]? = some (.ns kvs) → (c = 2 ∨ c = 3) → (Nat.ble 5 kvs.length && Nat.beq ((kvs.map (·.1)).getD 3 0) 3) = false → Fz n σ (.loc i) (.fin c (kvs.map (·.1)) (kvs.map (·.2)))
  | vec (i d k x b) : n ≤ i → n ≤ d → σ[i]? = some (.inst 1 d) → σ[d]? = some (.ns [(0, .str k), (1, .lst [x]), (2, .none), (3, .bool b), (4, .bool false)]) → Fz n σ (.loc i) (.vec k x)
noncomputable def Ret (σ σ' : Sto) (v : AV) (k : KE) : Prop := (∃ v', Cv v v' ∧ k v' σ') ∨ ∃ v1 v2 σ'', Fz σ.length σ' v v1 ∧ bnd σ.length v1 = true ∧ Cv v1 v2 ∧ Cut σ σ' σ'' ∧ k v2 σ''
noncomputable def bindPs : List Nat → Nat → List AV → Option Loc
  | [], _, [] => some []
  | [], _, _ :: _ => Option.none
  | p :: ps, df, v :: vs => (bindPs ps df vs).map fun l => (p, v) :: l
  | p :: ps, df, [] => if (p :: ps).length ≤ df then some ((p :: ps).map fun q => (q, AV.none)) else Option.none
section
variable (fn : Nat → Option Fn) (cl : Nat → Option (Nat × Nat))
noncomputable def runF (C : Calls) (f : Fn) (vs : List AV) (σ0 : Sto) (r : AV → Sto → Prop) (X : KX) : Prop := opt (bindPs f.ps f.df vs) fun l => wpB C f.b l σ0 ⟨fun zz σ' => r .none σ', fun v σ' => r v σ', fun zz zz => False⟩ X
noncomputable def CC : Nat → Calls
  | 0 => fun zz zz zz zz zz => False
  | n + 1 => fun g vs σ k X => match fn g with
    | some f => runF (CC n) f vs σ (fun v σ' => Ret σ σ' v k) X
    | Option.none => opt (cl g) fun p => opt (fn p.2) fun f => runF (CC n) f (.loc (σ.length + 1) :: vs) (σ ++ [.ns [], .inst p.1 σ.length]) (fun v σ' => v = .none ∧ Ret σ σ' (.loc (σ.length + 1)) k) noX
end
end Mine
end
section
namespace Mine
noncomputable def b_Code___init__ : List S := [.setA (.nm 38) 39 (.nm 39), .setA (.nm 38) 40 (.lst []), .setA (.nm 38) 41 (.lst []), .setA (.nm 38) 42 (.cI 0)]
noncomputable def b_row_targets : List S := [.asg 5 (.sub (.nm 43) (.cI 0)), .ite (.cmp 8 (.nm 5) (.tup [(.cS 44), (.cS 45), (.cS 46), (.cS 47), (.cS 48), (.cS 49)])) [.ret (.lst [(.sub (.nm 43) (.cI 1))])] [], .ite (.cmp 0 (.nm 5) (.cS 50)) [.ret (.lst [(.sub (.nm 43) (.cI 2))])] [], .ite (.cmp 0 (.nm 5) (.cS 51)) [.ret (.lst [(.sub (.nm 43) (.cI 1)), (.sub (.nm 43) (.cI 2))])] [], .ret (.lst [])]
noncomputable def b_with_targets : List S := [.asg 5 (.sub (.nm 43) (.cI 0)), .ite (.cmp 8 (.nm 5) (.tup [(.cS 44), (.cS 45), (.cS 46), (.cS 47), (.cS 48), (.cS 49)])) [.ret (.bin 0 (.tup [(.nm 5), (.sub (.nm 52) (.cI 0))]) (.slF (.nm 43) (.cI 2)))] [], .ite (.cmp 0 (.nm 5) (.cS 50)) [.ret (.tup [(.nm 5), (.sub (.nm 43) (.cI 1)), (.sub (.nm 52) (.cI 0))])] [], .ite (.cmp 0 (.nm 5) (.cS 51)) [.ret (.tup [(.nm 5), (.sub (.nm 52) (.cI 0)), (.sub (.nm 52) (.cI 1))])] [], .ret (.nm 43)]
noncomputable def b_goes_on : List S := [.ret (.cmp 9 (.sub (.nm 43) (.cI 0)) (.tup [(.cS 44), (.cS 53), (.cS 54)]))]
noncomputable def b_height_change : List S := [.asg 5 (.sub (.nm 43) (.cI 0)), .ite (.cmp 8 (.nm 5) (.tup [(.cS 55), (.cS 56), (.cS 57), (.cS 58), (.cS 16), (.cS 59), (.cS 60), (.cS 61), (.cS 62), (.cS 63)])) [.ret (.cI 1)] [], .ite (.cmp 0 (.nm 5) (.cS 64)) [.ret (.bin 1 (.cI 1) (.sub (.nm 43) (.cI 2)))] [], .ite (.cmp 0 (.nm 5) (.cS 65)) [.ret (.neg (.sub (.nm 43) (.cI 1)))] [], .ite (.cmp 8 (.nm 5) (.tup [(.cS 45), (.cS 66), (.cS 53), (.cS 67), (.cS 68)])) [.ret (.neg (.cI 1))] [], .ret (.cI 0)]
noncomputable def b_loop_change : List S := [.ite (.or [(.cmp 0 (.sub (.nm 43) (.cI 0)) (.cS 46)), (.cmp 0 (.sub (.nm 43) (.cI 0)) (.cS 51))]) [.ret (.cI 1)] [], .ite (.or [(.cmp 0 (.sub (.nm 43) (.cI 0)) (.cS 69)), (.cmp 0 (.sub (.nm 43) (.cI 0)) (.cS 63))]) [.ret (.neg (.cI 1))] [], .ret (.cI 0)]
noncomputable def b_target_states : List S := [.ite (.or [(.cmp 0 (.sub (.nm 43) (.cI 0)) (.cS 46)), (.cmp 0 (.sub (.nm 43) (.cI 0)) (.cS 51))]) [.ret (.comp (.tup [(.nm 71), (.nm 72), (.bin 0 (.nm 73) (.cI 1))]) 71 (.call (.gl 70) [(.nm 43)]))] [], .ite (.cmp 0 (.sub (.nm 43) (.cI 0)) (.cS 45)) [.ret (.fls [(.tup [(.sub (.nm 43) (.cI 1)), (.bin 1 (.nm 72) (.cI 1)), (.nm 73)])])] [], .ret (.comp (.tup [(.nm 71), (.nm 72), (.nm 73)]) 71 (.call (.gl 70) [(.nm 43)]))]
noncomputable def b_greatest_height : List S := [.asg 74 (.cI 0), .asg 75 .idc, .asg 76 (.lst [(.tup [(.cI 0), (.cI 0), (.cI 0)])]), .whil (.cmp 4 (.call (.gl 21) [(.nm 76)]) (.cI 0)) [.asgT [77, 72, 73] (.meth (.nm 76) 30 []), .ite (.cmp 8 (.nm 77) (.nm 75)) [.cont] [], .setI (.nm 75) (.nm 77) (.cB true), .asg 43 (.sub (.nm 40) (.nm 77)), .forr 78 (.call (.gl 79) [(.nm 43), (.nm 72), (.nm 73)]) [.ex (.meth (.nm 76) 29 [(.nm 78)])], .asg 80 (.bin 0 (.nm 72) (.call (.gl 81) [(.nm 43)])), .asg 74 (.call (.gl 26) [(.nm 74), (.nm 72), (.nm 80)]), .ite (.call (.gl 82) [(.nm 43)]) [.ex (.meth (.nm 76) 29 [(.tup [(.bin 0 (.nm 77) (.cI 1)), (.nm 80), (.bin 0 (.nm 73) (.call (.gl 83) [(.nm 43)]))])])] []], .ret (.nm 74)]
noncomputable def b_Vector___init__ : List S := [.setA (.nm 38) 0 (.nm 0), .setA (.nm 38) 1 (.nm 1), .setA (.nm 38) 2 (.nm 2), .setA (.nm 38) 3 (.cB false), .setA (.nm 38) 4 (.cB false)]
noncomputable def b_Symbol___init__ : List S := [.setA (.nm 38) 0 (.cS 14), .setA (.nm 38) 5 (.nm 5), .setA (.nm 38) 2 .cN]
noncomputable def b_Call___init__ : List S := [.setA (.nm 38) 0 (.cS 15), .setA (.nm 38) 1 (.nm 1), .setA (.nm 38) 6 (.nm 6), .setA (.nm 38) 2 (.nm 2), .setA (.nm 38) 7 .cN]
noncomputable def b_length : List S := [.asg 0 (.attr (.nm 84) 0), .ite (.cmp 0 (.nm 0) (.cS 85)) [.ret (.cI 0)] [], .ite (.or [(.call (.gl 25) [(.nm 84), (.gl 32)]), (.cmp 0 (.nm 0) (.cS 15))]) [.ret (.call (.gl 21) [(.attr (.nm 84) 1)])] [], .ite (.cmp 0 (.nm 0) (.cS 86)) [.ret (.call (.gl 21) [.wild])] [], .ite (.cmp 0 (.nm 0) (.cS 88)) [.ret (.call (.gl 21) [.wild])] [], .ret (.cI 1)]
noncomputable def b_is_atomic : List S := [.ret (.cmp 8 (.attr (.nm 84) 0) (.tup [(.cS 10), (.cS 9), (.cS 8), (.cS 11)]))]
noncomputable def b_share : List S := [.ite (.call (.gl 25) [(.nm 84), (.gl 32)]) [.setA (.nm 84) 3 (.cB true)] [], .ret (.nm 84)]
noncomputable def b_operator_names : List S := [.ret (.tup [(.cS 90), (.cS 91), (.cS 92), (.cS 93), (.cS 94), (.cS 95), (.cS 96), (.cS 97), (.cS 98), (.cS 99), (.cS 100), (.cS 101), (.cS 102), (.cS 103), (.cS 104), (.cS 105), (.cS 106), (.cS 107)])]
noncomputable def b_is_index : List S := [.ret (.or [(.cmp 0 (.nm 5) (.cS 106)), (.cmp 0 (.nm 5) (.cS 107))])]
noncomputable def b_plain_arguments : List S := [.asg 108 (.bin 1 (.call (.gl 21) [(.attr (.nm 16) 1)]) (.cI 1)), .asg 109 (.call (.gl 110) [(.attr (.sub (.attr (.nm 16) 1) (.cI 0)) 5)]), .ite (.or [(.cmp 2 (.nm 108) (.cI 1)), (.and [(.cmp 4 (.nm 108) (.cI 2)), (.not (.nm 109))])]) [.ret (.cB false)] [], .forr 77 (.call (.gl 22) [(.cI 1), (.bin 0 (.nm 108) (.cI 1))]) [.asg 111 (.sub (.attr (.nm 16) 1) (.nm 77)), .ite (.cmp 7 (.sub (.attr (.nm 16) 6) (.nm 77)) .cN) [.ret (.cB false)] [], .ite (.and [(.cmp 0 (.attr (.nm 111) 0) (.cS 14)), (.cmp 0 (.attr (.nm 111) 5) (.cS 112))]) [.ret (.cB false)] [], .ite (.and [(.cmp 0 (.attr (.nm 111) 0) (.cS 113)), (.not (.nm 109))]) [.ret (.cB false)] []], .ret (.cB true)]
noncomputable def b_right_count : List S := [.asg 108 (.bin 1 (.call (.gl 21) [(.attr (.nm 16) 1)]) (.cI 1)), .ite (.cmp 0 (.nm 5) (.cS 114)) [.ret (.cB true)] [], .ite (.cmp 8 (.nm 5) (.tup [(.cS 115), (.cS 116), (.cS 117)])) [.ret (.cmp 0 (.nm 108) (.cI 1))] [], .ite (.cmp 0 (.nm 5) (.cS 118)) [.ret (.or [(.cmp 0 (.nm 108) (.cI 2)), (.cmp 0 (.nm 108) (.cI 3))])] [], .ite (.cmp 0 (.nm 5) (.cS 46)) [.ret (.and [(.cmp 0 (.nm 108) (.cI 3)), (.cmp 0 (.attr (.sub (.attr (.nm 16) 1) (.cI 1)) 0) (.cS 14))])] [], .ite (.cmp 8 (.nm 5) (.tup [(.cS 119), (.cS 120), (.cS 121)])) [.ret (.cmp 0 (.nm 108) (.cI 2))] [], .ite (.cmp 0 (.nm 5) (.cS 122)) [.ret (.cmp 5 (.nm 108) (.cI 2))] [], .ite (.cmp 0 (.nm 5) (.cS 53)) [.ret (.cmp 3 (.nm 108) (.cI 1))] [], .ret (.cB false)]
noncomputable def b_Compiler___init__ : List S := [.setA (.nm 38) 123 (.nm 123), .setA (.nm 38) 40 (.lst []), .setA (.nm 38) 41 (.lst []), .setA (.nm 38) 72 (.cI 0), .setA (.nm 38) 73 (.lst [])]
noncomputable def b_Compiler_compile_expr : List S := [.ex (.meth (.nm 38) 39 [(.nm 124)]), .ex (.meth (.nm 38) 125 [(.tup [(.cS 54)])]), .asg 7 (.call (.gl 35) [(.nm 124)]), .setA (.nm 7) 40 (.attr (.nm 38) 40), .setA (.nm 7) 41 (.attr (.nm 38) 41), .setA (.nm 7) 42 (.call (.gl 126) [(.attr (.nm 7) 40)]), .ret (.nm 7)]
noncomputable def b_Compiler_emit : List S := [.ex (.meth (.attr (.nm 38) 40) 29 [(.nm 43)]), .augA (.nm 38) 72 0 (.call (.gl 81) [(.nm 43)]), .ret (.bin 1 (.call (.gl 21) [(.attr (.nm 38) 40)]) (.cI 1))]
noncomputable def b_Compiler_aim : List S := [.asg 43 (.sub (.attr (.nm 38) 40) (.nm 77)), .asg 52 (.call (.gl 70) [(.nm 43)]), .setI (.nm 52) (.cI 0) (.call (.gl 21) [(.attr (.nm 38) 40)]), .setI (.attr (.nm 38) 40) (.nm 77) (.call (.gl 127) [(.nm 43), (.nm 52)])]
noncomputable def b_Compiler_add_const : List S := [.ex (.meth (.attr (.nm 38) 41) 29 [(.nm 128)]), .ret (.bin 1 (.call (.gl 21) [(.attr (.nm 38) 41)]) (.cI 1))]
noncomputable def b_Compiler_push_const : List S := [.ex (.meth (.nm 38) 125 [(.tup [(.cS 55), (.meth (.nm 38) 130 [(.call (.gl 129) [(.nm 128)])])])])]
noncomputable def b_Compiler_expr : List S := [.ite (.cmp 0 (.attr (.nm 124) 0) (.cS 14)) [.ex (.meth (.nm 38) 125 [(.tup [(.cS 56), (.attr (.nm 124) 5)])])] [.ite (.cmp 0 (.attr (.nm 124) 0) (.cS 131)) [.ex (.meth (.nm 38) 125 [(.tup [(.cS 58), (.meth (.nm 38) 130 [(.nm 124)])])])] [.ite (.cmp 1 (.attr (.nm 124) 0) (.cS 15)) [.ex (.meth (.nm 38) 132 [(.nm 124)])] [.ite (.cmp 1 (.attr (.sub (.attr (.nm 124) 1) (.cI 0)) 0) (.cS 14)) [.ex (.meth (.nm 38) 125 [(.tup [(.cS 16), (.meth (.nm 38) 130 [(.nm 124)])])])] [.ex (.meth (.nm 38) 16 [(.nm 124), (.attr (.sub (.attr (.nm 124) 1) (.cI 0)) 5)])]]]]]
noncomputable def b_Compiler_call : List S := [.asg 133 .cN, .ite (.cmp 7 (.attr (.nm 38) 123) .cN) [.asg 133 (.meth (.nm 38) 123 [(.nm 124)])] [], .ite (.cmp 7 (.nm 133) .cN) [.ex (.meth (.nm 38) 134 [(.nm 124), (.sub (.nm 133) (.cI 0)), (.cS 55), (.sub (.nm 133) (.cI 1))])] [.ite (.cmp 8 (.nm 5) (.call (.gl 135) [])) [.ite (.call (.gl 136) [(.nm 124)]) [.ex (.meth (.nm 38) 134 [(.nm 124), (.fls [(.nm 5)]), (.cS 137), .cN])] [.ex (.meth (.nm 38) 125 [(.tup [(.cS 16), (.meth (.nm 38) 130 [(.nm 124)])])])]] [.ite (.cmp 8 (.nm 5) (.tup [(.cS 138), (.cS 139)])) [.ex .wild] [.ite (.cmp 8 (.nm 5) (.tup [(.cS 141), (.cS 142), (.cS 143)])) [.ex .wild] [.ite (.call (.gl 145) [(.nm 5), (.nm 124)]) [.ex (.meth (.nm 38) 134 [(.nm 124), (.fls [(.nm 5)]), (.cS 146), .cN])] [.ex (.meth (.nm 38) 125 [(.tup [(.cS 16), (.meth (.nm 38) 130 [(.nm 124)])])])]]]]]]
noncomputable def b_Compiler_guarded : List S := [.asg 147 (.attr (.nm 38) 72), .asg 148 (.comp (.meth (.nm 38) 125 [(.tup [(.cS 50), (.nm 5), (.neg (.cI 1))])]) 5 (.nm 149)), .ite (.cmp 0 (.nm 150) (.cS 55)) [.ex (.meth (.nm 38) 132 [(.nm 128)])] [.ite (.cmp 0 (.nm 150) (.cS 137)) [.ex (.meth (.nm 38) 137 [(.nm 124), (.sub (.nm 149) (.cI 0))])] [.ite (.cmp 0 (.nm 150) (.cS 151)) [.ex .wild] [.ex (.meth (.nm 38) 146 [(.nm 124), (.sub (.nm 149) (.cI 0))])]]], .ex (.meth (.nm 38) 153 [(.nm 124), (.nm 148), (.nm 147)])]
noncomputable def b_Compiler_plain_way : List S := [.asg 154 (.meth (.nm 38) 125 [(.tup [(.cS 44), (.neg (.cI 1))])]), .forr 77 (.nm 148) [.ex (.meth (.nm 38) 155 [(.nm 77)])], .setA (.nm 38) 72 (.nm 147), .ex (.meth (.nm 38) 125 [(.tup [(.cS 16), (.meth (.nm 38) 130 [(.nm 124)])])]), .ex (.meth (.nm 38) 155 [(.nm 154)])]
noncomputable def b_Compiler_operator : List S := [.forr 111 (.slF (.attr (.nm 124) 1) (.cI 1)) [.ite (.and [(.call (.gl 110) [(.nm 5)]), (.cmp 0 (.attr (.nm 111) 0) (.cS 14))]) [.ex (.meth (.nm 38) 125 [(.tup [(.cS 57), (.attr (.nm 111) 5)])])] [.ex (.meth (.nm 38) 39 [(.nm 111)])]], .ex (.meth (.nm 38) 125 [(.tup [(.cS 64), (.nm 5), (.bin 1 (.call (.gl 21) [(.attr (.nm 124) 1)]) (.cI 1)), (.meth (.nm 38) 130 [(.nm 124)])])])]
noncomputable def b_Compiler_control : List S := [.ite (.cmp 0 (.nm 5) (.cS 114)) [.ex .wild] [.ite (.cmp 0 (.nm 5) (.cS 115)) [.ex (.meth (.nm 38) 39 [(.sub (.attr (.nm 124) 1) (.cI 1))]), .ex (.meth (.nm 38) 125 [(.tup [(.cS 157)])])] [.ite (.cmp 0 (.nm 5) (.cS 118)) [.ex .wild] [.ite (.cmp 0 (.nm 5) (.cS 46)) [.ex .wild] [.ite (.cmp 0 (.nm 5) (.cS 119)) [.ex .wild] [.ite (.cmp 0 (.nm 5) (.cS 116)) [.ex .wild] [.ite (.cmp 0 (.nm 5) (.cS 122)) [.ex (.meth (.nm 38) 125 [(.tup [(.cS 60), (.meth (.nm 38) 130 [(.nm 124)])])])] [.ite (.cmp 0 (.nm 5) (.cS 117)) [.ex (.meth (.nm 38) 132 [(.sub (.attr (.nm 124) 1) (.cI 1))])] [.ite (.cmp 0 (.nm 5) (.cS 53)) [.ex .wild] [.ex .wild]]]]]]]]]]
noncomputable def b_compile_expr : List S := [.ret (.meth (.call (.gl 36) [(.nm 123)]) 163 [(.nm 124)])]
noncomputable def b_get_attr : List S := [.ite (.cmp 6 (.attr (.nm 84) 2) .cN) [.ret .cN] [], .ret .wild]
noncomputable def b_dim_of : List S := [.asg 165 (.call (.gl 167) [(.nm 84), (.cS 166)]), .ite (.cmp 6 (.nm 165) .cN) [.ret .cN] [], .ret (.call .wild [(.attr (.nm 165) 1)])]
noncomputable def b_Refusal___init__ : List S := [.bad]
noncomputable def b_gcd : List S := [.whil (.cmp 4 (.nm 170) (.cI 0)) [.swap [13, 170] [(.nm 170), (.bin 4 (.nm 13) (.nm 170))]], .ret (.nm 13)]
noncomputable def b_make : List S := [.ite (.cmp 0 (.nm 171) (.cI 0)) [.ite (.cmp 0 (.nm 172) (.cI 0)) [.ret .wild] [], .ret (.ife (.cmp 4 (.nm 172) (.cI 0)) (.tup [(.cI 1), (.cI 0)]) (.tup [(.neg (.cI 1)), (.cI 0)]))] [], .ite (.cmp 2 (.nm 171) (.cI 0)) [.asg 172 (.bin 1 (.cI 0) (.nm 172)), .asg 171 (.bin 1 (.cI 0) (.nm 171))] [], .asg 174 (.call (.gl 175) [(.call (.gl 23) [(.nm 172)]), (.nm 171)]), .ret (.tup [(.bin 3 (.nm 172) (.nm 174)), (.bin 3 (.nm 171) (.nm 174))])]
noncomputable def b_from_int : List S := [.ite (.cmp 6 (.nm 172) .cN) [.ret .cN] [], .ret (.tup [(.nm 172), (.cI 1)])]
noncomputable def b_is_na : List S := [.ret (.or [(.cmp 6 (.nm 17) .cN), (.and [(.cmp 0 (.sub (.nm 17) (.cI 0)) (.cI 0)), (.cmp 0 (.sub (.nm 17) (.cI 1)) (.cI 0))])])]
noncomputable def b_neg : List S := [.ite (.cmp 6 (.nm 17) .cN) [.ret .cN] [], .ret (.tup [(.bin 1 (.cI 0) (.sub (.nm 17) (.cI 0))), (.sub (.nm 17) (.cI 1))])]
noncomputable def b_add : List S := [.ite (.or [(.call (.gl 176) [(.nm 17)]), (.call (.gl 176) [(.nm 18)])]) [.ret (.call .wild [(.nm 17), (.nm 18)])] [], .ite (.and [(.cmp 0 (.sub (.nm 17) (.cI 1)) (.cI 0)), (.cmp 0 (.sub (.nm 18) (.cI 1)) (.cI 0))]) [.ret (.ife (.cmp 0 (.sub (.nm 17) (.cI 0)) (.sub (.nm 18) (.cI 0))) (.nm 17) .wild)] [], .ite (.cmp 0 (.sub (.nm 17) (.cI 1)) (.cI 0)) [.ret (.nm 17)] [], .ite (.cmp 0 (.sub (.nm 18) (.cI 1)) (.cI 0)) [.ret (.nm 18)] [], .ret (.call (.gl 178) [(.bin 0 (.bin 2 (.sub (.nm 17) (.cI 0)) (.sub (.nm 18) (.cI 1))) (.bin 2 (.sub (.nm 18) (.cI 0)) (.sub (.nm 17) (.cI 1)))), (.bin 2 (.sub (.nm 17) (.cI 1)) (.sub (.nm 18) (.cI 1)))])]
noncomputable def b_sub : List S := [.ret (.call (.gl 180) [(.nm 17), (.call (.gl 179) [(.nm 18)])])]
noncomputable def b_mul : List S := [.ite (.or [(.call (.gl 176) [(.nm 17)]), (.call (.gl 176) [(.nm 18)])]) [.ret (.call .wild [(.nm 17), (.nm 18)])] [], .ret (.call (.gl 178) [(.bin 2 (.sub (.nm 17) (.cI 0)) (.sub (.nm 18) (.cI 0))), (.bin 2 (.sub (.nm 17) (.cI 1)) (.sub (.nm 18) (.cI 1)))])]
noncomputable def b_compare : List S := [.ite (.or [(.call (.gl 176) [(.nm 17)]), (.call (.gl 176) [(.nm 18)])]) [.ret .cN] [], .ite (.and [(.cmp 0 (.sub (.nm 17) (.cI 1)) (.cI 0)), (.cmp 0 (.sub (.nm 18) (.cI 1)) (.cI 0))]) [.asg 181 (.sub (.nm 17) (.cI 0)), .asg 182 (.sub (.nm 18) (.cI 0))] [.asg 181 (.bin 2 (.sub (.nm 17) (.cI 0)) (.sub (.nm 18) (.cI 1))), .asg 182 (.bin 2 (.sub (.nm 18) (.cI 0)) (.sub (.nm 17) (.cI 1))), .ite (.cmp 0 (.sub (.nm 17) (.cI 1)) (.cI 0)) [.asg 181 (.sub (.nm 17) (.cI 0)), .asg 182 (.cI 0)] [.ite (.cmp 0 (.sub (.nm 18) (.cI 1)) (.cI 0)) [.asg 181 (.cI 0), .asg 182 (.sub (.nm 18) (.cI 0))] []]], .ite (.cmp 0 (.nm 181) (.nm 182)) [.ret (.cI 0)] [], .ret (.ife (.cmp 2 (.nm 181) (.nm 182)) (.neg (.cI 1)) (.cI 1))]
noncomputable def b_recycle_length : List S := [.ite (.or [(.cmp 0 (.nm 172) (.cI 0)), (.cmp 0 (.nm 183) (.cI 0))]) [.ret (.cI 0)] [], .ret (.call (.gl 26) [(.nm 172), (.nm 183)])]
noncomputable def b_note_recycling : List S := [.ite (.and [(.cmp 4 (.nm 172) (.cI 0)), (.cmp 4 (.nm 183) (.cI 0)), (.cmp 1 (.bin 4 (.call (.gl 26) [(.nm 172), (.nm 183)]) (.call (.gl 27) [(.nm 172), (.nm 183)])) (.cI 0))]) [.ex (.meth (.nm 185) 29 [(.cS 184)])] []]
noncomputable def b_result_dim : List S := [.asg 172 (.call (.gl 187) [(.nm 186)]), .asg 183 (.call (.gl 187) [(.nm 84)]), .asg 181 (.call (.gl 188) [(.nm 186)]), .asg 182 (.call (.gl 188) [(.nm 84)]), .ite (.and [(.cmp 7 (.nm 181) .cN), (.cmp 7 (.nm 182) .cN)]) [.ite (.cmp 1 (.nm 181) (.nm 182)) [.rais (.cS 189)] [], .ret (.nm 181)] [], .ite (.and [(.cmp 6 (.nm 181) .cN), (.cmp 6 (.nm 182) .cN)]) [.ret .cN] [], .ite (.cmp 6 (.nm 181) .cN) [.swap [172, 183] [(.nm 183), (.nm 172)], .asg 181 (.nm 182)] [], .ite (.or [(.and [(.cmp 0 (.nm 172) (.cI 1)), (.cmp 4 (.nm 183) (.cI 1))]), (.and [(.cmp 0 (.nm 183) (.cI 0)), (.cmp 4 (.nm 172) (.cI 0))])]) [.ret .cN] [], .asg 190 (.call (.gl 191) [(.nm 172), (.nm 183)]), .ite (.cmp 1 (.call .wild [(.nm 181)]) (.nm 190)) [.rais .wild] [], .ret (.nm 181)]
noncomputable def b_note_array_of_one : List S := [.asg 193 (.and [(.cmp 7 (.call (.gl 188) [(.nm 186)]) .cN), (.cmp 6 (.call (.gl 188) [(.nm 84)]) .cN), (.cmp 0 (.call (.gl 187) [(.nm 186)]) (.cI 1)), (.cmp 4 (.call (.gl 187) [(.nm 84)]) (.cI 1))]), .asg 194 (.and [(.cmp 7 (.call (.gl 188) [(.nm 84)]) .cN), (.cmp 6 (.call (.gl 188) [(.nm 186)]) .cN), (.cmp 0 (.call (.gl 187) [(.nm 84)]) (.cI 1)), (.cmp 4 (.call (.gl 187) [(.nm 186)]) (.cI 1))]), .ite (.or [(.nm 193), (.nm 194)]) [.asg 12 (.cS 195), .ex (.meth (.nm 185) 29 [(.bin 0 (.nm 12) (.cS 196))])] []]
noncomputable def b_common_length : List S := [.ex (.call (.gl 197) [(.nm 186), (.nm 84)]), .ex (.call (.gl 198) [(.nm 186), (.nm 84), (.nm 185)]), .ex (.call (.gl 199) [(.call (.gl 187) [(.nm 186)]), (.call (.gl 187) [(.nm 84)]), (.nm 185)]), .ret (.call (.gl 191) [(.call (.gl 187) [(.nm 186)]), (.call (.gl 187) [(.nm 84)])])]
noncomputable def b_attribute : List S := [.ite (.cmp 6 (.attr (.nm 84) 2) .cN) [.ret .cN] [], .ret .wild]
noncomputable def b_shape_attrs : List S := [.asg 200 (.dct [] []), .asg 201 (.call (.gl 197) [(.nm 186), (.nm 84)]), .ite (.cmp 7 (.nm 201) .cN) [.setI (.nm 200) (.cS 166) (.call (.gl 32) [(.cS 9), (.call .wild [(.nm 201)])]), .forr 202 (.tup [(.nm 84), (.nm 186)]) [.asg 203 (.call (.gl 205) [(.nm 202), (.cS 204)]), .ite (.cmp 7 (.nm 203) .cN) [.setI (.nm 200) (.cS 204) (.nm 203)] []]] [.forr 202 (.tup [(.nm 84), (.nm 186)]) [.asg 203 (.call (.gl 205) [(.nm 202), (.cS 149)]), .ite (.and [(.cmp 7 (.nm 203) .cN), (.cmp 0 (.call (.gl 187) [(.nm 202)]) (.call (.gl 187) [(.nm 206)])), (.cmp 6 (.call (.gl 188) [(.nm 202)]) .cN)]) [.setI (.nm 200) (.cS 149) (.nm 203)] []]], .ite (.nm 200) [.setA (.nm 206) 2 (.nm 200)] []]
noncomputable def b_result_attrs : List S := [.ex (.call (.gl 207) [(.nm 186), (.nm 84), (.nm 206)]), .forr 202 (.tup [(.nm 84), (.nm 186)]) [.ite (.and [(.cmp 7 (.attr (.nm 202) 2) .cN), (.cmp 0 (.call (.gl 187) [(.nm 202)]) (.call (.gl 187) [(.nm 206)]))]) [.bad] []]]
noncomputable def b_integer_op : List S := [.ite (.or [(.cmp 6 (.nm 13) .cN), (.cmp 6 (.nm 170) .cN)]) [.ret .cN] [], .ite (.cmp 0 (.nm 64) (.cS 90)) [.asg 200 (.bin 0 (.nm 13) (.nm 170))] [.ite (.cmp 0 (.nm 64) (.cS 91)) [.asg 200 (.bin 1 (.nm 13) (.nm 170))] [.ite (.cmp 0 (.nm 64) (.cS 92)) [.asg 200 (.bin 2 (.nm 13) (.nm 170))] [.ite (.cmp 0 (.nm 170) (.cI 0)) [.ret .cN] [.ite (.cmp 0 (.nm 64) (.cS 96)) [.asg 200 (.bin 3 (.nm 13) (.nm 170))] [.asg 200 (.bin 4 (.nm 13) (.nm 170))]]]]], .ite (.cmp 4 (.call (.gl 23) [(.nm 200)]) (.gl 208)) [.ret .cN] [], .ret (.nm 200)]
noncomputable def b_within : List S := [.ite (.and [(.cmp 7 (.nm 17) .cN), (.or [(.cmp 4 (.call (.gl 23) [(.sub (.nm 17) (.cI 0))]) (.gl 209)), (.cmp 4 (.sub (.nm 17) (.cI 1)) (.gl 209))])]) [.rais (.cS 210)] [], .ret (.nm 17)]
noncomputable def b_double_op : List S := [.ite (.cmp 0 (.nm 64) (.cS 90)) [.ret (.call (.gl 211) [(.call (.gl 180) [(.nm 17), (.nm 18)])])] [], .ite (.cmp 0 (.nm 64) (.cS 91)) [.ret (.call (.gl 211) [(.call (.gl 212) [(.nm 17), (.nm 18)])])] [], .ite (.cmp 0 (.nm 64) (.cS 92)) [.ret (.call (.gl 211) [(.call (.gl 213) [(.nm 17), (.nm 18)])])] [], .ite (.cmp 0 (.nm 64) (.cS 93)) [.ret (.call (.gl 211) [(.call .wild [(.nm 17), (.nm 18)])])] [], .ite (.cmp 0 (.nm 64) (.cS 94)) [.ret (.call (.gl 211) [(.call .wild [(.nm 17), (.nm 18)])])] [], .ite (.cmp 0 (.nm 64) (.cS 96)) [.ret (.call .wild [(.nm 17), (.nm 18)])] [], .ret (.call .wild [(.nm 17), (.nm 18)])]
noncomputable def b_number_items : List S := [.ite (.cmp 0 (.attr (.nm 84) 0) (.cS 85)) [.ret (.fls [])] [], .ite (.cmp 9 (.attr (.nm 84) 0) (.tup [(.cS 10), (.cS 9), (.cS 8)])) [.rais (.cS 218)] [], .ret (.attr (.nm 84) 1)]
noncomputable def b_double_items_arith : List S := [.asg 1 (.call (.gl 219) [(.nm 84)]), .ite (.cmp 0 (.attr (.nm 84) 0) (.cS 8)) [.ret (.nm 1)] [], .ret (.comp (.call (.gl 220) [(.nm 111)]) 111 (.nm 1))]
noncomputable def b_integer_result : List S := [.asg 200 (.lst []), .asg 221 (.cB false), .forr 222 (.call (.gl 22) [(.nm 172)]) [.asg 13 (.sub (.nm 181) (.bin 4 (.nm 222) (.call (.gl 21) [(.nm 181)]))), .asg 170 (.sub (.nm 182) (.bin 4 (.nm 222) (.call (.gl 21) [(.nm 182)]))), .asg 128 (.call (.gl 223) [(.nm 64), (.nm 13), (.nm 170)]), .ite (.and [(.cmp 6 (.nm 128) .cN), (.cmp 8 (.nm 64) (.tup [(.cS 90), (.cS 91), (.cS 92)])), (.cmp 7 (.nm 13) .cN), (.cmp 7 (.nm 170) .cN)]) [.asg 221 (.cB true)] [], .ex (.meth (.nm 200) 29 [(.nm 128)])], .ite (.nm 221) [.ex (.meth (.nm 185) 29 [(.cS 224)])] [], .ret (.nm 200)]
noncomputable def b_double_result : List S := [.ret (.comp (.call (.gl 225) [(.nm 64), (.sub (.nm 181) (.bin 4 (.nm 222) (.call (.gl 21) [(.nm 181)]))), (.sub (.nm 182) (.bin 4 (.nm 222) (.call (.gl 21) [(.nm 182)])))]) 222 (.call (.gl 22) [(.nm 172)]))]
noncomputable def b_arith : List S := [.asg 181 (.call (.gl 219) [(.nm 186)]), .asg 182 (.call (.gl 219) [(.nm 84)]), .asg 172 (.call (.gl 226) [(.nm 186), (.nm 84), (.nm 185)]), .ite (.or [(.cmp 0 (.attr (.nm 186) 0) (.cS 8)), (.cmp 0 (.attr (.nm 84) 0) (.cS 8)), (.cmp 8 (.nm 64) (.tup [(.cS 93), (.cS 94)]))]) [.asg 206 (.call (.gl 32) [(.cS 8), (.call (.gl 228) [(.nm 64), (.call (.gl 227) [(.nm 186)]), (.call (.gl 227) [(.nm 84)]), (.nm 172)])])] [.asg 206 (.call (.gl 32) [(.cS 9), (.call (.gl 229) [(.nm 64), (.nm 181), (.nm 182), (.nm 172), (.nm 185)])])], .ex (.call (.gl 230) [(.nm 186), (.nm 84), (.nm 206)]), .ret (.nm 206)]
noncomputable def b_keep_all : List S := [.ite (.cmp 7 (.attr (.nm 84) 2) .cN) [.setA (.nm 206) 2 (.call .wild [(.attr (.nm 84) 2)])] [], .ret (.nm 206)]
noncomputable def b_check_unary : List S := [.ite (.cmp 9 (.attr (.nm 84) 0) (.tup [(.cS 10), (.cS 9), (.cS 8)])) [.rais (.cS 232)] []]
noncomputable def b_negate : List S := [.ex (.call (.gl 233) [(.nm 84)]), .ite (.cmp 0 (.attr (.nm 84) 0) (.cS 8)) [.ret (.call (.gl 234) [(.nm 84), (.call (.gl 32) [(.cS 8), (.comp (.call (.gl 179) [(.nm 17)]) 17 (.attr (.nm 84) 1))])])] [], .asg 1 (.comp (.ife (.cmp 6 (.nm 13) .cN) .cN (.bin 1 (.cI 0) (.nm 13))) 13 (.attr (.nm 84) 1)), .ret (.call (.gl 234) [(.nm 84), (.call (.gl 32) [(.cS 9), (.nm 1)])])]
noncomputable def b_holds : List S := [.ite (.cmp 6 (.nm 235) .cN) [.ret .cN] [], .ite (.cmp 0 (.nm 64) (.cS 97)) [.asg 200 (.cmp 0 (.nm 235) (.cI 0))] [.ite (.cmp 0 (.nm 64) (.cS 98)) [.asg 200 (.cmp 1 (.nm 235) (.cI 0))] [.ite (.cmp 0 (.nm 64) (.cS 99)) [.asg 200 (.cmp 2 (.nm 235) (.cI 0))] [.ite (.cmp 0 (.nm 64) (.cS 100)) [.asg 200 (.cmp 3 (.nm 235) (.cI 0))] [.ite (.cmp 0 (.nm 64) (.cS 101)) [.asg 200 (.cmp 4 (.nm 235) (.cI 0))] [.asg 200 (.cmp 5 (.nm 235) (.cI 0))]]]]], .ret (.ife (.nm 200) (.cI 1) (.cI 0))]
noncomputable def b_plain_order : List S := [.ite (.or [(.cmp 6 (.nm 13) .cN), (.cmp 6 (.nm 170) .cN)]) [.ret .cN] [], .ite (.cmp 0 (.nm 13) (.nm 170)) [.ret (.cI 0)] [], .ret (.ife (.cmp 2 (.nm 13) (.nm 170)) (.neg (.cI 1)) (.cI 1))]
noncomputable def b_comparable : List S := [.ite (.cmp 0 (.attr (.nm 84) 0) (.cS 14)) [.ret (.call .wild [(.attr (.nm 84) 5)])] [], .ite (.and [(.cmp 0 (.attr (.nm 84) 0) (.cS 15)), (.cmp 7 (.nm 236) .cN)]) [.ret (.call .wild [(.call (.nm 236) [(.nm 84)])])] [], .ite (.cmp 0 (.attr (.nm 84) 0) (.cS 85)) [.ret (.call (.gl 32) [(.cS 10), (.fls [])])] [], .ite (.cmp 8 (.attr (.nm 84) 0) (.tup [(.cS 10), (.cS 9), (.cS 8), (.cS 11)])) [.ret (.nm 84)] [], .ite (.cmp 0 (.attr (.nm 84) 0) (.cS 168)) [.rais (.cS 237)] [], .ite (.cmp 0 (.attr (.nm 84) 0) (.cS 238)) [.rais (.cS 239)] [], .rais .wild]
noncomputable def b_double_items_compare : List S := [.ite (.cmp 0 (.attr (.nm 84) 0) (.cS 8)) [.ret (.attr (.nm 84) 1)] [], .ret (.comp (.call (.gl 220) [(.nm 111)]) 111 (.attr (.nm 84) 1))]
noncomputable def b_compare_op : List S := [.asg 240 (.call (.gl 241) [(.nm 64), (.nm 186), (.nm 236)]), .asg 194 (.call (.gl 241) [(.nm 64), (.nm 84), (.nm 236)]), .asg 172 (.call (.gl 226) [(.nm 240), (.nm 194), (.nm 185)]), .ite (.or [(.cmp 0 (.attr (.nm 240) 0) (.cS 11)), (.cmp 0 (.attr (.nm 194) 0) (.cS 11))]) [.asg 181 (.call .wild [(.nm 240)]), .asg 182 (.call .wild [(.nm 194)]), .asg 235 (.gl 243)] [.ite (.or [(.cmp 0 (.attr (.nm 240) 0) (.cS 8)), (.cmp 0 (.attr (.nm 194) 0) (.cS 8))]) [.asg 181 (.call (.gl 244) [(.nm 240)]), .asg 182 (.call (.gl 244) [(.nm 194)]), .asg 235 (.gl 245)] [.asg 181 (.attr (.nm 240) 1), .asg 182 (.attr (.nm 194) 1), .asg 235 (.gl 243)]], .asg 1 (.comp (.call (.gl 246) [(.nm 64), (.call (.nm 235) [(.sub (.nm 181) (.bin 4 (.nm 222) (.call (.gl 21) [(.nm 181)]))), (.sub (.nm 182) (.bin 4 (.nm 222) (.call (.gl 21) [(.nm 182)])))])]) 222 (.call (.gl 22) [(.nm 172)])), .asg 206 (.call (.gl 32) [(.cS 10), (.nm 1)]), .ex (.call (.gl 207) [(.nm 240), (.nm 194), (.nm 206)]), .ret (.nm 206)]
noncomputable def b_not_item : List S := [.ite (.cmp 6 (.nm 13) .cN) [.ret .cN] [], .ret (.bin 1 (.cI 1) (.nm 13))]
noncomputable def b_truth_item : List S := [.ite (.cmp 0 (.nm 0) (.cS 8)) [.ite (.call (.gl 176) [(.nm 111)]) [.ret .cN] [], .ret (.ife (.cmp 1 (.sub (.nm 111) (.cI 0)) (.cI 0)) (.cI 1) (.cI 0))] [], .ite (.cmp 6 (.nm 111) .cN) [.ret .cN] [], .ret (.ife (.cmp 1 (.nm 111) (.cI 0)) (.cI 1) (.cI 0))]
noncomputable def b_truth_items : List S := [.ret (.comp (.call (.gl 247) [(.attr (.nm 84) 0), (.nm 111)]) 111 (.attr (.nm 84) 1))]
noncomputable def b_logic_not : List S := [.ite (.cmp 0 (.attr (.nm 84) 0) (.cS 85)) [.ret (.call (.gl 32) [(.cS 10), (.fls [])])] [], .ite (.cmp 9 (.attr (.nm 84) 0) (.tup [(.cS 10), (.cS 9), (.cS 8)])) [.ite (.and [(.cmp 0 (.attr (.nm 84) 0) (.cS 11)), (.not (.attr (.nm 84) 1))]) [.ret (.call (.gl 32) [(.cS 10), (.fls [])])] [], .rais (.cS 248)] [], .asg 206 (.call (.gl 32) [(.cS 10), (.comp (.call (.gl 250) [(.nm 13)]) 13 (.call (.gl 249) [(.nm 84)]))]), .ite (.cmp 0 (.attr (.nm 84) 0) (.cS 10)) [.ret (.call (.gl 234) [(.nm 84), (.nm 206)])] [], .ex (.call (.gl 207) [(.nm 84), (.nm 84), (.nm 206)]), .ret (.nm 206)]
noncomputable def b_arith_names : List S := [.ret (.tup [(.cS 90), (.cS 91), (.cS 92), (.cS 93), (.cS 94), (.cS 95), (.cS 96)])]
noncomputable def b_compare_names : List S := [.ret (.tup [(.cS 97), (.cS 98), (.cS 99), (.cS 100), (.cS 101), (.cS 102)])]
noncomputable def b_safe_names : List S := [.ret (.bin 0 (.bin 0 (.call (.gl 251) []) (.call (.gl 252) [])) (.tup [(.cS 104), (.cS 105), (.cS 103), (.cS 115)]))]
noncomputable def b_is_constant : List S := [.ret (.and [(.call (.gl 253) [(.nm 124)]), (.cmp 0 (.call (.gl 21) [(.attr (.nm 124) 1)]) (.cI 1)), (.cmp 6 (.attr (.nm 124) 2) .cN)])]
noncomputable def b_plain_call_name : List S := [.ite (.or [(.cmp 1 (.attr (.nm 124) 0) (.cS 15)), (.cmp 1 (.attr (.sub (.attr (.nm 124) 1) (.cI 0)) 0) (.cS 14))]) [.ret .cN] [], .forr 254 (.attr (.nm 124) 6) [.ite (.cmp 7 (.nm 254) .cN) [.ret .cN] []], .ret (.attr (.sub (.attr (.nm 124) 1) (.cI 0)) 5)]
noncomputable def b_unary_value : List S := [.ite (.cmp 0 (.nm 5) (.cS 115)) [.ret (.nm 186)] [], .ite (.cmp 0 (.nm 5) (.cS 91)) [.ret (.call (.gl 255) [(.nm 186), (.nm 185)])] [], .ite (.cmp 0 (.nm 5) (.cS 90)) [.ret (.call .wild [(.nm 186), (.nm 185)])] [], .ite (.cmp 0 (.nm 5) (.cS 103)) [.ret (.call (.gl 257) [(.nm 186)])] [], .ret .cN]
noncomputable def b_binary_value : List S := [.ite (.cmp 8 (.nm 5) (.call (.gl 251) [])) [.ret (.call (.gl 258) [(.nm 5), (.nm 186), (.nm 84), (.nm 185)])] [], .ite (.cmp 8 (.nm 5) (.call (.gl 252) [])) [.ret (.call (.gl 259) [(.nm 5), (.nm 186), (.nm 84), (.nm 185)])] [], .ite (.cmp 0 (.nm 5) (.cS 104)) [.ret (.call .wild [(.nm 186), (.nm 84), (.nm 185)])] [], .ite (.cmp 0 (.nm 5) (.cS 105)) [.ret (.call .wild [(.nm 186), (.nm 84), (.nm 185)])] [], .ret .cN]
noncomputable def b_call_value : List S := [.asg 185 (.lst []), .asg 128 .cN, .tryN [.ite (.cmp 0 (.call (.gl 21) [(.nm 89)]) (.cI 1)) [.asg 128 (.call (.gl 262) [(.nm 5), (.sub (.nm 89) (.cI 0)), (.nm 185)])] [.ite (.cmp 0 (.call (.gl 21) [(.nm 89)]) (.cI 2)) [.asg 128 (.call (.gl 263) [(.nm 5), (.sub (.nm 89) (.cI 0)), (.sub (.nm 89) (.cI 1)), (.nm 185)])] []]], .ite (.cmp 4 (.call (.gl 21) [(.nm 185)]) (.cI 0)) [.ret .cN] [], .ret (.nm 128)]
noncomputable def b_fold : List S := [.ite (.call (.gl 264) [(.nm 124)]) [.ret (.tup [(.cB true), (.nm 124)])] [], .asg 5 (.call (.gl 265) [(.nm 124)]), .ite (.or [(.cmp 6 (.nm 5) .cN), (.cmp 9 (.nm 5) (.nm 266))]) [.ret (.tup [(.cB false), .cN])] [], .asg 89 (.lst []), .forr 111 (.slF (.attr (.nm 124) 1) (.cI 1)) [.asgT [200, 128] (.call (.gl 267) [(.nm 111), (.nm 266)]), .ite (.not (.nm 200)) [.ret (.tup [(.cB false), .cN])] [], .ex (.meth (.nm 89) 29 [(.nm 128)])], .asg 128 (.call (.gl 268) [(.nm 5), (.nm 89)]), .ite (.cmp 6 (.nm 128) .cN) [.ret (.tup [(.cB false), .cN])] [], .ret (.tup [(.cB true), (.call (.gl 129) [(.nm 128)])])]
noncomputable def b_fold_uses : List S := [.asg 149 (.lst []), .asg 76 (.lst [(.nm 124)]), .whil (.cmp 4 (.call (.gl 21) [(.nm 76)]) (.cI 0)) [.asg 269 (.meth (.nm 76) 30 []), .ite (.cmp 1 (.attr (.nm 269) 0) (.cS 15)) [.cont] [], .ite (.cmp 9 (.attr (.sub (.attr (.nm 269) 1) (.cI 0)) 5) (.nm 149)) [.ex (.meth (.nm 149) 29 [(.attr (.sub (.attr (.nm 269) 1) (.cI 0)) 5)])] [], .forR 111 (.slF (.attr (.nm 269) 1) (.cI 1)) [.ex (.meth (.nm 76) 29 [(.nm 111)])]], .ret (.nm 149)]
noncomputable def b_folded : List S := [.asgT [200, 128] (.call (.gl 267) [(.nm 124), (.call (.gl 270) [])]), .ite (.not (.nm 200)) [.ret .cN] [], .ret (.tup [(.call (.gl 271) [(.nm 124)]), (.nm 128)])]
noncomputable def b_law_take : List S := [.ite (.cmp 2 (.sub (.nm 43) (.cS 272)) (.call (.gl 21) [(.sub (.nm 43) (.cS 273))])) [.augI (.nm 43) (.cS 272) 0 (.cI 1), .ret (.bin 4 (.sub (.sub (.nm 43) (.cS 273)) (.bin 1 (.sub (.nm 43) (.cS 272)) (.cI 1))) (.nm 74))] [], .setI (.nm 43) (.cS 274) (.bin 4 (.bin 0 (.bin 2 (.sub (.nm 43) (.cS 274)) (.cI 31)) (.cI 19)) (.cI 983)), .ret (.ife (.cmp 4 (.sub (.nm 43) (.cS 272)) (.cI 2)) (.bin 4 (.sub (.nm 43) (.cS 274)) (.nm 74)) (.cI 0))]
noncomputable def b_law_tree : List S := [.augI (.nm 43) (.cS 275) 1 (.cI 1), .asg 0 (.call (.gl 277) [(.nm 43), (.ife (.and [(.cmp 2 (.nm 276) (.cI 4)), (.cmp 4 (.sub (.nm 43) (.cS 275)) (.cI 0))]) (.cI 9) (.cI 3))]), .ite (.cmp 0 (.nm 0) (.cI 0)) [.ret (.sub (.fls [(.tup [(.cS 8), (.cI 3)]), (.tup [(.cS 9), (.cI 2147483647)]), (.tup [(.cS 9), (.cI 2)]), (.tup [(.cS 10), (.cI 1)]), (.tup [(.cS 8), (.cI 8)]), (.tup [(.cS 12), (.cS 13)])]) (.call (.gl 277) [(.nm 43), (.cI 6)]))] [], .ite (.cmp 2 (.nm 0) (.cI 3)) [.ite (.cmp 2 (.sub (.nm 43) (.cS 275)) (.cI 0)) [.ret (.tup [(.cS 8), (.nm 0)])] [], .ret (.tup [(.cS 5), (.sub (.cS 278) (.bin 1 (.nm 0) (.cI 1)))])] [], .ite (.cmp 2 (.nm 0) (.cI 7)) [.asg 64 (.sub (.fls [(.cS 90), (.cS 91), (.cS 92), (.cS 99)]) (.bin 1 (.nm 0) (.cI 3))), .ret (.tup [(.cS 16), (.nm 64), (.comp (.call (.gl 279) [(.nm 43), (.bin 0 (.nm 276) (.cI 1))]) 47 (.call (.gl 22) [(.cI 2)]))])] [], .asg 5 (.sub (.fls [(.cS 103), (.cS 91), (.cS 115), (.cS 19)]) (.call (.gl 277) [(.nm 43), (.cI 4)])), .ret (.tup [(.cS 16), (.nm 5), (.fls [(.call (.gl 279) [(.nm 43), (.bin 0 (.nm 276) (.cI 1))])])])]
noncomputable def b_law_made : List S := [.ite (.cmp 0 (.sub (.nm 280) (.cI 0)) (.cS 5)) [.ret (.call (.gl 33) [(.sub (.nm 280) (.cI 1))])] [], .ite (.cmp 0 (.sub (.nm 280) (.cI 0)) (.cS 16)) [.ret (.call (.gl 34) [(.bin 0 (.fls [(.call (.gl 33) [(.sub (.nm 280) (.cI 1))])]) (.comp (.call (.gl 282) [(.nm 281)]) 281 (.sub (.nm 280) (.cI 2)))), (.bin 2 (.fls [.cN]) (.bin 0 (.cI 1) (.call (.gl 21) [(.sub (.nm 280) (.cI 2))])))])] [], .ite (.cmp 0 (.sub (.nm 280) (.cI 0)) (.cS 12)) [.ret (.call (.gl 32) [(.cS 11), (.fls [(.sub (.nm 280) (.cI 1))])])] [], .ret (.call (.gl 32) [(.sub (.nm 280) (.cI 0)), (.fls [(.ife (.cmp 0 (.sub (.nm 280) (.cI 0)) (.cS 8)) (.tup [(.sub (.nm 280) (.cI 1)), (.cI 1)]) (.sub (.nm 280) (.cI 1)))])])]
noncomputable def b_law_worth : List S := [.ite (.or [(.cmp 0 (.sub (.nm 280) (.cI 0)) (.cS 5)), (.and [(.cmp 0 (.sub (.nm 280) (.cI 0)) (.cS 16)), (.cmp 0 (.sub (.nm 280) (.cI 1)) (.cS 19))])]) [.ret .cN] [], .ite (.cmp 1 (.sub (.nm 280) (.cI 0)) (.cS 16)) [.ret (.nm 280)] [], .asg 283 (.comp (.call (.gl 284) [(.nm 281)]) 281 (.sub (.nm 280) (.cI 2))), .ite (.cmp 8 .cN (.nm 283)) [.ret .cN] [], .ite (.or [(.cmp 0 (.sub (.nm 280) (.cI 1)) (.cS 115)), (.cmp 8 (.tup [(.cS 20)]) (.nm 283))]) [.ret (.ife (.cmp 8 (.tup [(.cS 20)]) (.nm 283)) (.tup [(.cS 20)]) (.sub (.nm 283) (.cI 0)))] [], .ite (.cmp 8 (.cS 12) (.comp (.sub (.nm 281) (.cI 0)) 281 (.nm 283))) [.ret (.ife (.cmp 0 (.sub (.nm 280) (.cI 1)) (.cS 99)) (.tup [(.cS 20)]) .cN)] [], .ite (.cmp 0 (.sub (.nm 280) (.cI 1)) (.cS 103)) [.ret (.tup [(.cS 10), (.ife (.cmp 0 (.sub (.sub (.nm 283) (.cI 0)) (.cI 1)) (.cI 0)) (.cI 1) (.cI 0))])] [], .asg 0 (.ife (.cmp 8 (.cS 8) (.comp (.sub (.nm 281) (.cI 0)) 281 (.nm 283))) (.cS 8) (.cS 9)), .ite (.cmp 0 (.call (.gl 21) [(.nm 283)]) (.cI 1)) [.ret (.tup [(.nm 0), (.neg (.sub (.sub (.nm 283) (.cI 0)) (.cI 1)))])] [], .swap [240, 285] [(.sub (.sub (.nm 283) (.cI 0)) (.cI 1)), (.sub (.sub (.nm 283) (.cI 1)) (.cI 1))], .ite (.cmp 0 (.sub (.nm 280) (.cI 1)) (.cS 99)) [.ret (.tup [(.cS 10), (.ife (.cmp 2 (.nm 240) (.nm 285)) (.cI 1) (.cI 0))])] [], .asg 286 (.sub (.dct [90, 91, 92] [(.bin 0 (.nm 240) (.nm 285)), (.bin 1 (.nm 240) (.nm 285)), (.bin 2 (.nm 240) (.nm 285))]) (.sub (.nm 280) (.cI 1))), .ret (.ife (.or [(.cmp 0 (.nm 0) (.cS 8)), (.cmp 3 (.call (.gl 23) [(.nm 286)]) (.cI 2147483647))]) (.tup [(.nm 0), (.nm 286)]) .cN)]
noncomputable def b_law_heads : List S := [.ite (.cmp 0 (.sub (.nm 280) (.cI 0)) (.cS 16)) [.ite (.cmp 9 (.sub (.nm 280) (.cI 1)) (.nm 200)) [.ex (.meth (.nm 200) 29 [(.sub (.nm 280) (.cI 1))])] [], .forr 281 (.sub (.nm 280) (.cI 2)) [.ex (.call (.gl 287) [(.nm 281), (.nm 200)])]] [], .ret (.nm 200)]
noncomputable def b_law_lay : List S := [.ite (.cmp 0 (.sub (.nm 280) (.cI 0)) (.cS 5)) [.ex (.meth (.nm 40) 29 [(.tup [(.cS 56), (.sub (.nm 280) (.cI 1))])]), .ret0] [], .ite (.cmp 1 (.sub (.nm 280) (.cI 0)) (.cS 16)) [.ex (.meth (.nm 40) 29 [(.tup [(.cS 55), (.nm 280)])]), .ret0] [], .ite (.cmp 0 (.sub (.nm 280) (.cI 1)) (.cS 19)) [.ex (.meth (.nm 40) 29 [(.tup [(.cS 16), (.cS 19)])]), .ret0] [], .asg 288 (.call (.gl 284) [(.nm 280)]), .asg 149 (.ife (.cmp 7 (.nm 288) .cN) (.call (.gl 287) [(.nm 280), (.lst [])]) (.fls [(.sub (.nm 280) (.cI 1))])), .asg 289 (.call (.gl 21) [(.nm 40)]), .augN 40 0 (.comp (.tup [(.cS 50), (.nm 5), (.neg (.cI 1))]) 5 (.nm 149)), .ite (.cmp 7 (.nm 288) .cN) [.ex (.meth (.nm 40) 29 [(.tup [(.cS 55), (.nm 288)])])] [.forr 281 (.sub (.nm 280) (.cI 2)) [.ex (.call (.gl 290) [(.nm 281), (.nm 40)])], .ex (.meth (.nm 40) 29 [(.ife (.cmp 0 (.sub (.nm 280) (.cI 1)) (.cS 115)) (.tup [(.cS 157)]) (.tup [(.cS 64), (.sub (.nm 280) (.cI 1)), (.call (.gl 21) [(.sub (.nm 280) (.cI 2))])]))])], .augN 40 0 (.fls [(.tup [(.cS 44), (.bin 0 (.call (.gl 21) [(.nm 40)]) (.cI 2))]), (.tup [(.cS 16), (.sub (.nm 280) (.cI 1))])]), .forr 47 (.call (.gl 22) [(.call (.gl 21) [(.nm 149)])]) [.setI (.nm 40) (.bin 0 (.nm 289) (.nm 47)) (.tup [(.cS 50), (.sub (.nm 149) (.nm 47)), (.bin 1 (.call (.gl 21) [(.nm 40)]) (.cI 1))])]]
noncomputable def b_law_odd : List S := [.ite (.cmp 1 (.sub (.nm 280) (.cI 0)) (.cS 16)) [.ret (.cB false)] [], .ret (.or [(.cmp 0 (.call (.gl 284) [(.nm 280)]) (.tup [(.cS 20)])), (.cmp 8 (.cB true) (.comp (.call (.gl 291) [(.nm 281)]) 281 (.sub (.nm 280) (.cI 2))))])]
noncomputable def b_law_same : List S := [.ite (.cmp 1 (.sub (.nm 292) (.cI 0)) (.sub (.nm 293) (.cI 0))) [.ret (.cB false)] [], .ite (.cmp 0 (.sub (.nm 293) (.cI 0)) (.cS 55)) [.asg 294 (.sub (.nm 41) (.sub (.nm 292) (.cI 1))), .asgT [0, 286] (.sub (.nm 293) (.cI 1)), .ite (.cmp 0 (.nm 0) (.cS 12)) [.ret (.cmp 0 (.tup [(.attr (.nm 294) 0), (.attr (.nm 294) 1)]) (.tup [(.cS 11), (.fls [(.nm 286)])]))] [], .ret (.cmp 0 (.tup [(.attr (.nm 294) 0), (.attr (.nm 294) 1)]) (.tup [(.nm 0), (.fls [(.ife (.cmp 0 (.nm 0) (.cS 8)) (.tup [(.nm 286), (.cI 1)]) (.nm 286))])]))] [], .ite (.cmp 0 (.sub (.nm 293) (.cI 0)) (.cS 16)) [.ret (.cmp 0 (.attr (.sub (.attr (.sub (.nm 41) (.sub (.nm 292) (.cI 1))) 1) (.cI 0)) 5) (.sub (.nm 293) (.cI 1)))] [], .ret (.cmp 0 (.slT (.nm 292) (.cI 3)) (.nm 293))]
noncomputable def b_law : List S := [.asg 273 (.lst []), .asg 274 (.cI 7), .forr 295 (.slT (.nm 296) (.cI 40)) [.ex (.meth (.nm 273) 29 [(.bin 4 (.call (.gl 23) [(.call (.gl 24) [(.nm 295)])]) (.cI 2520))]), .asg 274 (.bin 4 (.bin 0 (.bin 2 (.nm 274) (.cI 17)) (.sub (.nm 273) (.neg (.cI 1)))) (.cI 983))], .asg 43 (.dct [273, 272, 274, 275] [(.nm 273), (.cI 0), (.nm 274), (.cI 12)]), .asg 280 (.call (.gl 279) [(.nm 43), (.cI 0)]), .ite (.call (.gl 291) [(.nm 280)]) [.ret (.cB true)] [], .asg 293 (.lst []), .ex (.call (.gl 290) [(.nm 280), (.nm 293)]), .ex (.meth (.nm 293) 29 [(.tup [(.cS 54)])]), .asg 7 (.call (.gl 163) [(.call (.gl 282) [(.nm 280)]), (.gl 133)]), .ite (.cmp 1 (.call (.gl 21) [(.attr (.nm 7) 40)]) (.call (.gl 21) [(.nm 293)])) [.ret (.cB false)] [], .ret (.cmp 9 (.cB false) (.comp (.call (.gl 297) [(.sub (.attr (.nm 7) 40) (.nm 47)), (.sub (.nm 293) (.nm 47)), (.attr (.nm 7) 41)]) 47 (.call (.gl 22) [(.call (.gl 21) [(.nm 293)])])))]
noncomputable def FNL : List (Nat × Fn) := [
  (298, ⟨[38, 39], b_Code___init__, 0⟩),
  (70, ⟨[43], b_row_targets, 0⟩),
  (127, ⟨[43, 52], b_with_targets, 0⟩),
  (82, ⟨[43], b_goes_on, 0⟩),
  (81, ⟨[43], b_height_change, 0⟩),
  (83, ⟨[43], b_loop_change, 0⟩),
  (79, ⟨[43, 72, 73], b_target_states, 0⟩),
  (126, ⟨[40], b_greatest_height, 0⟩),
  (299, ⟨[38, 0, 1, 2], b_Vector___init__, 1⟩),
  (300, ⟨[38, 5], b_Symbol___init__, 0⟩),
  (301, ⟨[38, 1, 6, 2], b_Call___init__, 1⟩),
  (187, ⟨[84], b_length, 0⟩),
  (253, ⟨[84], b_is_atomic, 0⟩),
  (129, ⟨[84], b_share, 0⟩),
  (135, ⟨[], b_operator_names, 0⟩),
  (110, ⟨[5], b_is_index, 0⟩),
  (136, ⟨[16], b_plain_arguments, 0⟩),
  (145, ⟨[5, 16], b_right_count, 0⟩),
  (302, ⟨[38, 123], b_Compiler___init__, 1⟩),
  (303, ⟨[38, 124], b_Compiler_compile_expr, 0⟩),
  (304, ⟨[38, 43], b_Compiler_emit, 0⟩),
  (305, ⟨[38, 77], b_Compiler_aim, 0⟩),
  (306, ⟨[38, 128], b_Compiler_add_const, 0⟩),
  (307, ⟨[38, 128], b_Compiler_push_const, 0⟩),
  (308, ⟨[38, 124], b_Compiler_expr, 0⟩),
  (309, ⟨[38, 124, 5], b_Compiler_call, 0⟩),
  (310, ⟨[38, 124, 149, 150, 128], b_Compiler_guarded, 0⟩),
  (311, ⟨[38, 124, 148, 147], b_Compiler_plain_way, 0⟩),
  (312, ⟨[38, 124, 5], b_Compiler_operator, 0⟩),
  (313, ⟨[38, 124, 5], b_Compiler_control, 0⟩),
  (163, ⟨[124, 123], b_compile_expr, 1⟩),
  (167, ⟨[84, 5], b_get_attr, 0⟩),
  (188, ⟨[84], b_dim_of, 0⟩),
  (314, ⟨[38, 169], b_Refusal___init__, 0⟩),
  (175, ⟨[13, 170], b_gcd, 0⟩),
  (178, ⟨[172, 171], b_make, 0⟩),
  (220, ⟨[172], b_from_int, 0⟩),
  (176, ⟨[17], b_is_na, 0⟩),
  (179, ⟨[17], b_neg, 0⟩),
  (180, ⟨[17, 18], b_add, 0⟩),
  (212, ⟨[17, 18], b_sub, 0⟩),
  (213, ⟨[17, 18], b_mul, 0⟩),
  (245, ⟨[17, 18], b_compare, 0⟩),
  (191, ⟨[172, 183], b_recycle_length, 0⟩),
  (199, ⟨[172, 183, 185], b_note_recycling, 0⟩),
  (197, ⟨[186, 84], b_result_dim, 0⟩),
  (198, ⟨[186, 84, 185], b_note_array_of_one, 0⟩),
  (226, ⟨[186, 84, 185], b_common_length, 0⟩),
  (205, ⟨[84, 5], b_attribute, 0⟩),
  (207, ⟨[186, 84, 206], b_shape_attrs, 0⟩),
  (230, ⟨[186, 84, 206], b_result_attrs, 0⟩),
  (223, ⟨[64, 13, 170], b_integer_op, 0⟩),
  (211, ⟨[17], b_within, 0⟩),
  (225, ⟨[64, 17, 18], b_double_op, 0⟩),
  (219, ⟨[84], b_number_items, 0⟩),
  (227, ⟨[84], b_double_items_arith, 0⟩),
  (229, ⟨[64, 181, 182, 172, 185], b_integer_result, 0⟩),
  (228, ⟨[64, 181, 182, 172], b_double_result, 0⟩),
  (258, ⟨[64, 186, 84, 185], b_arith, 0⟩),
  (234, ⟨[84, 206], b_keep_all, 0⟩),
  (233, ⟨[84], b_check_unary, 0⟩),
  (255, ⟨[84, 185], b_negate, 0⟩),
  (246, ⟨[64, 235], b_holds, 0⟩),
  (243, ⟨[13, 170], b_plain_order, 0⟩),
  (241, ⟨[64, 84, 236], b_comparable, 0⟩),
  (244, ⟨[84], b_double_items_compare, 0⟩),
  (259, ⟨[64, 186, 84, 185, 236], b_compare_op, 1⟩),
  (250, ⟨[13], b_not_item, 0⟩),
  (247, ⟨[0, 111], b_truth_item, 0⟩),
  (249, ⟨[84], b_truth_items, 0⟩),
  (257, ⟨[84], b_logic_not, 0⟩),
  (251, ⟨[], b_arith_names, 0⟩),
  (252, ⟨[], b_compare_names, 0⟩),
  (270, ⟨[], b_safe_names, 0⟩),
  (264, ⟨[124], b_is_constant, 0⟩),
  (265, ⟨[124], b_plain_call_name, 0⟩),
  (262, ⟨[5, 186, 185], b_unary_value, 0⟩),
  (263, ⟨[5, 186, 84, 185], b_binary_value, 0⟩),
  (268, ⟨[5, 89], b_call_value, 0⟩),
  (267, ⟨[124, 266], b_fold, 0⟩),
  (271, ⟨[124], b_fold_uses, 0⟩),
  (133, ⟨[124], b_folded, 0⟩),
  (277, ⟨[43, 74], b_law_take, 0⟩),
  (279, ⟨[43, 276], b_law_tree, 0⟩),
  (282, ⟨[280], b_law_made, 0⟩),
  (284, ⟨[280], b_law_worth, 0⟩),
  (287, ⟨[280, 200], b_law_heads, 0⟩),
  (290, ⟨[280, 40], b_law_lay, 0⟩),
  (291, ⟨[280], b_law_odd, 0⟩),
  (297, ⟨[292, 293, 41], b_law_same, 0⟩),
  (315, ⟨[296], b_law, 0⟩)]
noncomputable def FN (g : Nat) : Option Fn := (FNL.find? fun p => Nat.beq p.1 g).map (·.2)
noncomputable def CLL : List (Nat × Nat × Nat) := [(35, 0, 298), (32, 1, 299), (33, 2, 300), (34, 3, 301), (36, 6, 302)]
noncomputable def CLN (g : Nat) : Option (Nat × Nat) := CLL.lookup g
noncomputable abbrev CM : Nat → Calls := CC FN CLN
end Mine
end
section
open PySem PySem.W PyProof.Rows PySem.Calls
namespace Mine
theorem nof {p : Prop} (h : false = true) : p := Bool.noConfusion h
theorem lookup_mem {α : Type} {g : Nat} {a : α} : ∀ {l : List (Nat × α)}, l.lookup g = some a → (g, a) ∈ l
  | [], e => nomatch e
  | (x, y) :: r, e => by
    rw [List.lookup_cons] at e
    cases q : g == x with
    | true => rw [q] at e; cases e; rw [beq_iff_eq.mp q]; exact .head _
    | false => rw [q] at e; exact .tail _ (lookup_mem e)
noncomputable def z1 {α : Type} (_ : α) : Bool := false
noncomputable def z2 {α β : Type} (_ : α) (_ : β) : Bool := false
noncomputable def z3 {α β γ : Type} (_ : α) (_ : β) (_ : γ) : Bool := false
noncomputable def z4 {α β γ δ : Type} (_ : α) (_ : β) (_ : γ) (_ : δ) : Bool := false
noncomputable def z5 {α β γ δ ε : Type} (_ : α) (_ : β) (_ : γ) (_ : δ) (_ : ε) : Bool := false
theorem n1 {α : Type} {Q : α → Prop} (a : α) (h : z1 a = true) : Q a := nof h
theorem n2 {α β : Type} {Q : α → β → Prop} (a : α) (b : β) (h : z2 a b = true) : Q a b := nof h
theorem n3 {α β γ : Type} {Q : α → β → γ → Prop} (a : α) (b : β) (c : γ) (h : z3 a b c = true) : Q a b c := nof h
theorem n4 {α β γ δ : Type} {Q : α → β → γ → δ → Prop} (a : α) (b : β) (c : γ) (d : δ) (h : z4 a b c d = true) : Q a b c d := nof h
theorem n5 {α β γ δ ε : Type} {Q : α → β → γ → δ → ε → Prop} (a : α) (b : β) (c : γ) (d : δ) (e : ε) (h : z5 a b c d e = true) : Q a b c d e := nof h
noncomputable def selE (f0 : Str → Pos → Bool) (f1 : Const → Nat → Pos → Bool) (f2 : Expr → Str → Pos → Bool) (f3 : Expr → Expr → Pos → Bool) (f4 : (Option Expr) → (Option Expr) → (Option Expr) → Pos → Bool) (f5 : Expr → (List Expr) → (List Keyword) → Pos → Bool) (f6 : Expr → Operator → Expr → Pos → Bool) (f7 : UnaryOp → Expr → Pos → Bool) (f8 : BoolOp → (List Expr) → Pos → Bool) (f9 : Expr → (List CmpOp) → (List Expr) → Pos → Bool) (f10 : Expr → Expr → Expr → Pos → Bool) (f11 : (List Expr) → Nat → Pos → Bool) (f12 : (List Expr) → Pos → Bool) (f13 : (List (Option Expr)) → (List Expr) → Pos → Bool) (f14 : Expr → (List Comprehension) → Scope → Pos → Bool) : Expr → Bool
  | .Name a b => f0 a b
  | .Constant a b c => f1 a b c
  | .Attribute a b c => f2 a b c
  | .Subscript a b c => f3 a b c
  | .Slice a b c d => f4 a b c d
  | .Call a b c d => f5 a b c d
  | .BinOp a b c d => f6 a b c d
  | .UnaryOp a b c => f7 a b c
  | .BoolOp a b c => f8 a b c
  | .Compare a b c d => f9 a b c d
  | .IfExp a b c d => f10 a b c d
  | .Tuple a b c => f11 a b c
  | .List a b => f12 a b
  | .Dict a b c => f13 a b c
  | .ListComp a b c d => f14 a b c d
  | _ => false
theorem selE_el {P : Expr → Prop} {f0 : Str → Pos → Bool} {f1 : Const → Nat → Pos → Bool} {f2 : Expr → Str → Pos → Bool} {f3 : Expr → Expr → Pos → Bool} {f4 : (Option Expr) → (Option Expr) → (Option Expr) → Pos → Bool} {f5 : Expr → (List Expr) → (List Keyword) → Pos → Bool} {f6 : Expr → Operator → Expr → Pos → Bool} {f7 : UnaryOp → Expr → Pos → Bool} {f8 : BoolOp → (List Expr) → Pos → Bool} {f9 : Expr → (List CmpOp) → (List Expr) → Pos → Bool} {f10 : Expr → Expr → Expr → Pos → Bool} {f11 : (List Expr) → Nat → Pos → Bool} {f12 : (List Expr) → Pos → Bool} {f13 : (List (Option Expr)) → (List Expr) → Pos → Bool} {f14 : Expr → (List Comprehension) → Scope → Pos → Bool} (h0 : ∀ a b, f0 a b = true → P (.Name a b)) (h1 : ∀ a b c, f1 a b c = true → P (.Constant a b c)) (h2 : ∀ a b c, f2 a b c = true → P (.Attribute a b c)) (h3 : ∀ a b c, f3 a b c = true → P (.Subscript a b c)) (h4 : ∀ a b c d, f4 a b c d = true → P (.Slice a b c d)) (h5 : ∀ a b c d, f5 a b c d = true → P (.Call a b c d)) (h6 : ∀ a b c d, f6 a b c d = true → P (.BinOp a b c d)) (h7 : ∀ a b c, f7 a b c = true → P (.UnaryOp a b c)) (h8 : ∀ a b c, f8 a b c = true → P (.BoolOp a b c)) (h9 : ∀ a b c d, f9 a b c d = true → P (.Compare a b c d)) (h10 : ∀ a b c d, f10 a b c d = true → P (.IfExp a b c d)) (h11 : ∀ a b c, f11 a b c = true → P (.Tuple a b c)) (h12 : ∀ a b, f12 a b = true → P (.List a b)) (h13 : ∀ a b c, f13 a b c = true → P (.Dict a b c)) (h14 : ∀ a b c d, f14 a b c d = true → P (.ListComp a b c d)) (a : Expr) (h : selE f0 f1 f2 f3 f4 f5 f6 f7 f8 f9 f10 f11 f12 f13 f14 a = true) : P a := by
  cases a with
  | Name a b => exact h0 a b h
  | Constant a b c => exact h1 a b c h
  | Attribute a b c => exact h2 a b c h
  | Subscript a b c => exact h3 a b c h
  | Slice a b c d => exact h4 a b c d h
  | Call a b c d => exact h5 a b c d h
  | BinOp a b c d => exact h6 a b c d h
  | UnaryOp a b c => exact h7 a b c h
  | BoolOp a b c => exact h8 a b c h
  | Compare a b c d => exact h9 a b c d h
  | IfExp a b c d => exact h10 a b c d h
  | Tuple a b c => exact h11 a b c h
  | List a b => exact h12 a b h
  | Dict a b c => exact h13 a b c h
  | ListComp a b c d => exact h14 a b c d h
  | _ => exact nof h
noncomputable def onName (a : Expr) (k : Str → Pos → Bool) : Bool := selE k z3 z3 z3 z4 z4 z4 z3 z3 z4 z4 z3 z2 z3 z4 a
@[elab_as_elim] theorem onName_el {P : Expr → Prop} {k : Str → Pos → Bool} (hk : ∀ a b, k a b = true → P (.Name a b)) (a : Expr) (h : onName a k = true) : P a := selE_el hk n3 n3 n3 n4 n4 n4 n3 n3 n4 n4 n3 n2 n3 n4 a h
noncomputable def onCon (a : Expr) (k : Const → Nat → Pos → Bool) : Bool := selE z2 k z3 z3 z4 z4 z4 z3 z3 z4 z4 z3 z2 z3 z4 a
@[elab_as_elim] theorem onCon_el {P : Expr → Prop} {k : Const → Nat → Pos → Bool} (hk : ∀ a b c, k a b c = true → P (.Constant a b c)) (a : Expr) (h : onCon a k = true) : P a := selE_el n2 hk n3 n3 n4 n4 n4 n3 n3 n4 n4 n3 n2 n3 n4 a h
noncomputable def onAttr (a : Expr) (k : Expr → Str → Pos → Bool) : Bool := selE z2 z3 k z3 z4 z4 z4 z3 z3 z4 z4 z3 z2 z3 z4 a
@[elab_as_elim] theorem onAttr_el {P : Expr → Prop} {k : Expr → Str → Pos → Bool} (hk : ∀ a b c, k a b c = true → P (.Attribute a b c)) (a : Expr) (h : onAttr a k = true) : P a := selE_el n2 n3 hk n3 n4 n4 n4 n3 n3 n4 n4 n3 n2 n3 n4 a h
noncomputable def onSub (a : Expr) (k : Expr → Expr → Pos → Bool) : Bool := selE z2 z3 z3 k z4 z4 z4 z3 z3 z4 z4 z3 z2 z3 z4 a
@[elab_as_elim] theorem onSub_el {P : Expr → Prop} {k : Expr → Expr → Pos → Bool} (hk : ∀ a b c, k a b c = true → P (.Subscript a b c)) (a : Expr) (h : onSub a k = true) : P a := selE_el n2 n3 n3 hk n4 n4 n4 n3 n3 n4 n4 n3 n2 n3 n4 a h
noncomputable def onSlice (a : Expr) (k : (Option Expr) → (Option Expr) → (Option Expr) → Pos → Bool) : Bool := selE z2 z3 z3 z3 k z4 z4 z3 z3 z4 z4 z3 z2 z3 z4 a
@[elab_as_elim] theorem onSlice_el {P : Expr → Prop} {k : (Option Expr) → (Option Expr) → (Option Expr) → Pos → Bool} (hk : ∀ a b c d, k a b c d = true → P (.Slice a b c d)) (a : Expr) (h : onSlice a k = true) : P a := selE_el n2 n3 n3 n3 hk n4 n4 n3 n3 n4 n4 n3 n2 n3 n4 a h
noncomputable def onCall (a : Expr) (k : Expr → (List Expr) → (List Keyword) → Pos → Bool) : Bool := selE z2 z3 z3 z3 z4 k z4 z3 z3 z4 z4 z3 z2 z3 z4 a
@[elab_as_elim] theorem onCall_el {P : Expr → Prop} {k : Expr → (List Expr) → (List Keyword) → Pos → Bool} (hk : ∀ a b c d, k a b c d = true → P (.Call a b c d)) (a : Expr) (h : onCall a k = true) : P a := selE_el n2 n3 n3 n3 n4 hk n4 n3 n3 n4 n4 n3 n2 n3 n4 a h
noncomputable def onBin (a : Expr) (k : Expr → Operator → Expr → Pos → Bool) : Bool := selE z2 z3 z3 z3 z4 z4 k z3 z3 z4 z4 z3 z2 z3 z4 a
@[elab_as_elim] theorem onBin_el {P : Expr → Prop} {k : Expr → Operator → Expr → Pos → Bool} (hk : ∀ a b c d, k a b c d = true → P (.BinOp a b c d)) (a : Expr) (h : onBin a k = true) : P a := selE_el n2 n3 n3 n3 n4 n4 hk n3 n3 n4 n4 n3 n2 n3 n4 a h
noncomputable def onUn (a : Expr) (k : UnaryOp → Expr → Pos → Bool) : Bool := selE z2 z3 z3 z3 z4 z4 z4 k z3 z4 z4 z3 z2 z3 z4 a
@[elab_as_elim] theorem onUn_el {P : Expr → Prop} {k : UnaryOp → Expr → Pos → Bool} (hk : ∀ a b c, k a b c = true → P (.UnaryOp a b c)) (a : Expr) (h : onUn a k = true) : P a := selE_el n2 n3 n3 n3 n4 n4 n4 hk n3 n4 n4 n3 n2 n3 n4 a h
noncomputable def onBool (a : Expr) (k : BoolOp → (List Expr) → Pos → Bool) : Bool := selE z2 z3 z3 z3 z4 z4 z4 z3 k z4 z4 z3 z2 z3 z4 a
@[elab_as_elim] theorem onBool_el {P : Expr → Prop} {k : BoolOp → (List Expr) → Pos → Bool} (hk : ∀ a b c, k a b c = true → P (.BoolOp a b c)) (a : Expr) (h : onBool a k = true) : P a := selE_el n2 n3 n3 n3 n4 n4 n4 n3 hk n4 n4 n3 n2 n3 n4 a h
noncomputable def onCmp (a : Expr) (k : Expr → (List CmpOp) → (List Expr) → Pos → Bool) : Bool := selE z2 z3 z3 z3 z4 z4 z4 z3 z3 k z4 z3 z2 z3 z4 a
@[elab_as_elim] theorem onCmp_el {P : Expr → Prop} {k : Expr → (List CmpOp) → (List Expr) → Pos → Bool} (hk : ∀ a b c d, k a b c d = true → P (.Compare a b c d)) (a : Expr) (h : onCmp a k = true) : P a := selE_el n2 n3 n3 n3 n4 n4 n4 n3 n3 hk n4 n3 n2 n3 n4 a h
noncomputable def onIf (a : Expr) (k : Expr → Expr → Expr → Pos → Bool) : Bool := selE z2 z3 z3 z3 z4 z4 z4 z3 z3 z4 k z3 z2 z3 z4 a
@[elab_as_elim] theorem onIf_el {P : Expr → Prop} {k : Expr → Expr → Expr → Pos → Bool} (hk : ∀ a b c d, k a b c d = true → P (.IfExp a b c d)) (a : Expr) (h : onIf a k = true) : P a := selE_el n2 n3 n3 n3 n4 n4 n4 n3 n3 n4 hk n3 n2 n3 n4 a h
noncomputable def onTup (a : Expr) (k : (List Expr) → Nat → Pos → Bool) : Bool := selE z2 z3 z3 z3 z4 z4 z4 z3 z3 z4 z4 k z2 z3 z4 a
@[elab_as_elim] theorem onTup_el {P : Expr → Prop} {k : (List Expr) → Nat → Pos → Bool} (hk : ∀ a b c, k a b c = true → P (.Tuple a b c)) (a : Expr) (h : onTup a k = true) : P a := selE_el n2 n3 n3 n3 n4 n4 n4 n3 n3 n4 n4 hk n2 n3 n4 a h
noncomputable def onLst (a : Expr) (k : (List Expr) → Pos → Bool) : Bool := selE z2 z3 z3 z3 z4 z4 z4 z3 z3 z4 z4 z3 k z3 z4 a
@[elab_as_elim] theorem onLst_el {P : Expr → Prop} {k : (List Expr) → Pos → Bool} (hk : ∀ a b, k a b = true → P (.List a b)) (a : Expr) (h : onLst a k = true) : P a := selE_el n2 n3 n3 n3 n4 n4 n4 n3 n3 n4 n4 n3 hk n3 n4 a h
noncomputable def onDict (a : Expr) (k : (List (Option Expr)) → (List Expr) → Pos → Bool) : Bool := selE z2 z3 z3 z3 z4 z4 z4 z3 z3 z4 z4 z3 z2 k z4 a
@[elab_as_elim] theorem onDict_el {P : Expr → Prop} {k : (List (Option Expr)) → (List Expr) → Pos → Bool} (hk : ∀ a b c, k a b c = true → P (.Dict a b c)) (a : Expr) (h : onDict a k = true) : P a := selE_el n2 n3 n3 n3 n4 n4 n4 n3 n3 n4 n4 n3 n2 hk n4 a h
noncomputable def onLC (a : Expr) (k : Expr → (List Comprehension) → Scope → Pos → Bool) : Bool := selE z2 z3 z3 z3 z4 z4 z4 z3 z3 z4 z4 z3 z2 z3 k a
@[elab_as_elim] theorem onLC_el {P : Expr → Prop} {k : Expr → (List Comprehension) → Scope → Pos → Bool} (hk : ∀ a b c d, k a b c d = true → P (.ListComp a b c d)) (a : Expr) (h : onLC a k = true) : P a := selE_el n2 n3 n3 n3 n4 n4 n4 n3 n3 n4 n4 n3 n2 n3 hk a h

noncomputable def onOne {α : Type} (l : List α) (k : α → Bool) : Bool := match l with
  | x :: r => r.isEmpty && k x
  | [] => false
theorem aL {a b : Bool} (h : (a && b) = true) : a = true := (Bool.and_eq_true_iff.mp h).1
theorem aR {a b : Bool} (h : (a && b) = true) : b = true := (Bool.and_eq_true_iff.mp h).2
@[elab_as_elim] theorem nil_el {α : Type} {P : List α → Prop} (l : List α) (h : l.isEmpty = true) (k : P []) : P l := List.isEmpty_iff.mp h ▸ k
@[elab_as_elim] theorem none_el {α : Type} {P : Option α → Prop} (l : Option α) (h : l.isNone = true) (k : P none) : P l := Option.isNone_iff_eq_none.mp h ▸ k
@[elab_as_elim] theorem beq_el {b : Str} {P : Str → Prop} (a : Str) (h : (a == b) = true) (k : P b) : P a := eq_of_beq h ▸ k
@[elab_as_elim] theorem onOne_el {α : Type} {P : List α → Prop} {k : α → Bool} (hk : ∀ x, k x = true → P [x]) (l : List α) (h : onOne l k = true) : P l := by
  cases l with
  | nil => exact nof h
  | cons x r => exact nil_el r (aL h) (hk x (aR h))
noncomputable def onSome {α : Type} (l : Option α) (k : α → Bool) : Bool := match l with
  | some x => k x
  | none => false
@[elab_as_elim] theorem onSome_el {α : Type} {P : Option α → Prop} {k : α → Bool} (hk : ∀ x, k x = true → P (some x)) (l : Option α) (h : onSome l k = true) : P l := by
  cases l with
  | none => exact nof h
  | some x => exact hk x h
noncomputable def selS (f0 : (List Expr) → Expr → Pos → Bool) (f1 : Expr → Operator → Expr → Pos → Bool) (f2 : Expr → Pos → Bool) (f3 : (Option Expr) → Pos → Bool) (f4 : Expr → (List Stmt) → (List Stmt) → Pos → Bool) (f5 : Expr → Expr → (List Stmt) → (List Stmt) → Pos → Bool) (f6 : Expr → (List Stmt) → (List Stmt) → Pos → Bool) (f7 : (List Stmt) → (List ExceptHandler) → (List Stmt) → (List Stmt) → Pos → Bool) (f8 : (Option Expr) → (Option Expr) → Pos → Bool) (f9 : Pos → Bool) (f10 : Pos → Bool) : Stmt → Bool
  | .Assign a b c => f0 a b c
  | .AugAssign a b c d => f1 a b c d
  | .Expr a b => f2 a b
  | .Return a b => f3 a b
  | .If a b c d => f4 a b c d
  | .For a b c d e => f5 a b c d e
  | .While a b c d => f6 a b c d
  | .Try a b c d e => f7 a b c d e
  | .Raise a b c => f8 a b c
  | .Continue a => f9 a
  | .Pass a => f10 a
  | _ => false
theorem selS_el {P : Stmt → Prop} {f0 : (List Expr) → Expr → Pos → Bool} {f1 : Expr → Operator → Expr → Pos → Bool} {f2 : Expr → Pos → Bool} {f3 : (Option Expr) → Pos → Bool} {f4 : Expr → (List Stmt) → (List Stmt) → Pos → Bool} {f5 : Expr → Expr → (List Stmt) → (List Stmt) → Pos → Bool} {f6 : Expr → (List Stmt) → (List Stmt) → Pos → Bool} {f7 : (List Stmt) → (List ExceptHandler) → (List Stmt) → (List Stmt) → Pos → Bool} {f8 : (Option Expr) → (Option Expr) → Pos → Bool} {f9 : Pos → Bool} {f10 : Pos → Bool} (h0 : ∀ a b c, f0 a b c = true → P (.Assign a b c)) (h1 : ∀ a b c d, f1 a b c d = true → P (.AugAssign a b c d)) (h2 : ∀ a b, f2 a b = true → P (.Expr a b)) (h3 : ∀ a b, f3 a b = true → P (.Return a b)) (h4 : ∀ a b c d, f4 a b c d = true → P (.If a b c d)) (h5 : ∀ a b c d e, f5 a b c d e = true → P (.For a b c d e)) (h6 : ∀ a b c d, f6 a b c d = true → P (.While a b c d)) (h7 : ∀ a b c d e, f7 a b c d e = true → P (.Try a b c d e)) (h8 : ∀ a b c, f8 a b c = true → P (.Raise a b c)) (h9 : ∀ a, f9 a = true → P (.Continue a)) (h10 : ∀ a, f10 a = true → P (.Pass a)) (a : Stmt) (h : selS f0 f1 f2 f3 f4 f5 f6 f7 f8 f9 f10 a = true) : P a := by
  cases a with
  | Assign a b c => exact h0 a b c h
  | AugAssign a b c d => exact h1 a b c d h
  | Expr a b => exact h2 a b h
  | Return a b => exact h3 a b h
  | If a b c d => exact h4 a b c d h
  | For a b c d e => exact h5 a b c d e h
  | While a b c d => exact h6 a b c d h
  | Try a b c d e => exact h7 a b c d e h
  | Raise a b c => exact h8 a b c h
  | Continue a => exact h9 a h
  | Pass a => exact h10 a h
  | _ => exact nof h
noncomputable def onAsg (a : Stmt) (k : (List Expr) → Expr → Pos → Bool) : Bool := selS k z4 z2 z2 z4 z5 z4 z5 z3 z1 z1 a
@[elab_as_elim] theorem onAsg_el {P : Stmt → Prop} {k : (List Expr) → Expr → Pos → Bool} (hk : ∀ a b c, k a b c = true → P (.Assign a b c)) (a : Stmt) (h : onAsg a k = true) : P a := selS_el hk n4 n2 n2 n4 n5 n4 n5 n3 n1 n1 a h
noncomputable def onAug (a : Stmt) (k : Expr → Operator → Expr → Pos → Bool) : Bool := selS z3 k z2 z2 z4 z5 z4 z5 z3 z1 z1 a
@[elab_as_elim] theorem onAug_el {P : Stmt → Prop} {k : Expr → Operator → Expr → Pos → Bool} (hk : ∀ a b c d, k a b c d = true → P (.AugAssign a b c d)) (a : Stmt) (h : onAug a k = true) : P a := selS_el n3 hk n2 n2 n4 n5 n4 n5 n3 n1 n1 a h
noncomputable def onEx (a : Stmt) (k : Expr → Pos → Bool) : Bool := selS z3 z4 k z2 z4 z5 z4 z5 z3 z1 z1 a
@[elab_as_elim] theorem onEx_el {P : Stmt → Prop} {k : Expr → Pos → Bool} (hk : ∀ a b, k a b = true → P (.Expr a b)) (a : Stmt) (h : onEx a k = true) : P a := selS_el n3 n4 hk n2 n4 n5 n4 n5 n3 n1 n1 a h
noncomputable def onRet (a : Stmt) (k : (Option Expr) → Pos → Bool) : Bool := selS z3 z4 z2 k z4 z5 z4 z5 z3 z1 z1 a
@[elab_as_elim] theorem onRet_el {P : Stmt → Prop} {k : (Option Expr) → Pos → Bool} (hk : ∀ a b, k a b = true → P (.Return a b)) (a : Stmt) (h : onRet a k = true) : P a := selS_el n3 n4 n2 hk n4 n5 n4 n5 n3 n1 n1 a h
noncomputable def onIfS (a : Stmt) (k : Expr → (List Stmt) → (List Stmt) → Pos → Bool) : Bool := selS z3 z4 z2 z2 k z5 z4 z5 z3 z1 z1 a
@[elab_as_elim] theorem onIfS_el {P : Stmt → Prop} {k : Expr → (List Stmt) → (List Stmt) → Pos → Bool} (hk : ∀ a b c d, k a b c d = true → P (.If a b c d)) (a : Stmt) (h : onIfS a k = true) : P a := selS_el n3 n4 n2 n2 hk n5 n4 n5 n3 n1 n1 a h
noncomputable def onFor (a : Stmt) (k : Expr → Expr → (List Stmt) → (List Stmt) → Pos → Bool) : Bool := selS z3 z4 z2 z2 z4 k z4 z5 z3 z1 z1 a
@[elab_as_elim] theorem onFor_el {P : Stmt → Prop} {k : Expr → Expr → (List Stmt) → (List Stmt) → Pos → Bool} (hk : ∀ a b c d e, k a b c d e = true → P (.For a b c d e)) (a : Stmt) (h : onFor a k = true) : P a := selS_el n3 n4 n2 n2 n4 hk n4 n5 n3 n1 n1 a h
noncomputable def onWhl (a : Stmt) (k : Expr → (List Stmt) → (List Stmt) → Pos → Bool) : Bool := selS z3 z4 z2 z2 z4 z5 k z5 z3 z1 z1 a
@[elab_as_elim] theorem onWhl_el {P : Stmt → Prop} {k : Expr → (List Stmt) → (List Stmt) → Pos → Bool} (hk : ∀ a b c d, k a b c d = true → P (.While a b c d)) (a : Stmt) (h : onWhl a k = true) : P a := selS_el n3 n4 n2 n2 n4 n5 hk n5 n3 n1 n1 a h
noncomputable def onTry (a : Stmt) (k : (List Stmt) → (List ExceptHandler) → (List Stmt) → (List Stmt) → Pos → Bool) : Bool := selS z3 z4 z2 z2 z4 z5 z4 k z3 z1 z1 a
@[elab_as_elim] theorem onTry_el {P : Stmt → Prop} {k : (List Stmt) → (List ExceptHandler) → (List Stmt) → (List Stmt) → Pos → Bool} (hk : ∀ a b c d e, k a b c d e = true → P (.Try a b c d e)) (a : Stmt) (h : onTry a k = true) : P a := selS_el n3 n4 n2 n2 n4 n5 n4 hk n3 n1 n1 a h
noncomputable def onRai (a : Stmt) (k : (Option Expr) → (Option Expr) → Pos → Bool) : Bool := selS z3 z4 z2 z2 z4 z5 z4 z5 k z1 z1 a
@[elab_as_elim] theorem onRai_el {P : Stmt → Prop} {k : (Option Expr) → (Option Expr) → Pos → Bool} (hk : ∀ a b c, k a b c = true → P (.Raise a b c)) (a : Stmt) (h : onRai a k = true) : P a := selS_el n3 n4 n2 n2 n4 n5 n4 n5 hk n1 n1 a h
noncomputable def onCont (a : Stmt) (k : Pos → Bool) : Bool := selS z3 z4 z2 z2 z4 z5 z4 z5 z3 k z1 a
@[elab_as_elim] theorem onCont_el {P : Stmt → Prop} {k : Pos → Bool} (hk : ∀ a, k a = true → P (.Continue a)) (a : Stmt) (h : onCont a k = true) : P a := selS_el n3 n4 n2 n2 n4 n5 n4 n5 n3 hk n1 a h
noncomputable def onPass (a : Stmt) (k : Pos → Bool) : Bool := selS z3 z4 z2 z2 z4 z5 z4 z5 z3 z1 k a
@[elab_as_elim] theorem onPass_el {P : Stmt → Prop} {k : Pos → Bool} (hk : ∀ a, k a = true → P (.Pass a)) (a : Stmt) (h : onPass a k = true) : P a := selS_el n3 n4 n2 n2 n4 n5 n4 n5 n3 n1 hk a h

noncomputable def onCons {α : Type} (l : List α) (k : α → List α → Bool) : Bool := match l with
  | x :: r => k x r
  | [] => false
@[elab_as_elim] theorem onCons_el {α : Type} {P : List α → Prop} {k : α → List α → Bool} (hk : ∀ x r, k x r = true → P (x :: r)) (l : List α) (h : onCons l k = true) : P l := by
  cases l with
  | nil => exact nof h
  | cons x r => exact hk x r h
noncomputable def onTwo {α : Type} (l : List α) (k : α → α → Bool) : Bool := onCons l fun x r => onOne r (k x)
@[elab_as_elim] theorem onTwo_el {α : Type} {P : List α → Prop} {k : α → α → Bool} (hk : ∀ x y, k x y = true → P [x, y]) (l : List α) (h : onTwo l k = true) : P l := onCons_el (fun x zz k => onOne_el (fun y k => hk x y k) _ k) l h
theorem or_el {a b : Bool} {P : Prop} (h : (a || b) = true) (k1 : a = true → P) (k2 : b = true → P) : P := (Bool.or_eq_true_iff.mp h).elim k1 k2
theorem ne_nil {α : Type} {l : List α} (h : (!l.isEmpty) = true) : l ≠ [] := by cases l with
  | nil => exact nof h
  | cons _ _ => exact List.cons_ne_nil _ _
end Mine
end
section
open PySem PySem.W PyProof.Rows
namespace Mine
noncomputable def TL : List Str := [u "kind", u "items", u "attrs", u "shared", u "loose", u "name", u "tags", u "code", u "double", u "integer", u "logical", u "character", u "text", u "a", u "symbol", u "language", u "call", u "x", u "y", u "f", u "odd", u "len", u "range", u "abs", u "int", u "isinstance", u "max", u "min", u "reversed", u "append", u "pop", u "reverse", u "Vector", u "Symbol", u "Call", u "Code", u "Compiler", u "Refusal", u "self", u "expr", u "rows", u "consts", u "depth", u "row", u "jump", u "unless", u "for", u "step", u "and", u "or", u "guard", u "loop", u "targets", u "return", u "end", u "const", u "var", u "arg", u "force", u "pick", u "closure", u "fetch", u "getter", u "endloop", u "op", u "drop", u "truth", u "setter", u "store", u "endfor", u "row_targets", u "target", u "height", u "loops", u "most", u "known", u "pending", u "place", u "state", u "target_states", u "behind", u "height_change", u "goes_on", u "loop_change", u "v", u "NULL", u "environment", u "frame", u "dots", u "args", u "+", u "-", u "*", u "/", u "^", u "%%", u "%/%", u "==", u "!=", u "<", u "<=", u ">", u ">=", u "!", u "&", u "|", u "[", u "[[", u "count", u "keep", u "is_index", u "item", u "...", u "missing", u "{", u "(", u "repeat", u "quote", u "if", u "while", u "&&", u "||", u "function", u "folder", u "e", u "emit", u "greatest_height", u "with_targets", u "value", u "share", u "add_const", u "promise", u "push_const", u "folded", u "guarded", u "operator_names", u "plain_arguments", u "operator", u "break", u "next", u "leave_loop", u "<-", u "=", u "<<-", u "assignment", u "right_count", u "control", u "start", u "guards", u "names", u "manner", u "assign", u "assigned", u "plain_way", u "over", u "aim", u "block", u "visible", u "branch", u "for_loop", u "while_loop", u "give_back", u "logic", u "compile_expr", u "get", u "dims", u "dim", u "get_attr", u "list", u "message", u "b", u "d", u "n", u "NAN", u "common", u "gcd", u "is_na", u "marked", u "make", u "neg", u "add", u "left", u "right", u "m", u "longer object length is not a multiple of shorter object length", u "notes", u "u", u "length", u "dim_of", u "non-conformable arrays", u "total", u "recycle_length", u "product", u "lone", u "other", u "Recycling array of length 1 in array-vector arithmetic is deprecated\n", u "  Use c() or as.vector() instead.", u "result_dim", u "note_array_of_one", u "note_recycling", u "found", u "shape", u "operand", u "heads", u "dimnames", u "attribute", u "result", u "shape_attrs", u "MOST_INTEGER", u "MOST_DOUBLE", u "result is not exact", u "within", u "sub", u "mul", u "div", u "power", u "int_div", u "remainder", u "non-numeric argument to binary operator", u "number_items", u "from_int", u "overflow", u "i", u "integer_op", u "NAs produced by integer overflow", u "double_op", u "common_length", u "double_items_arith", u "double_result", u "integer_result", u "result_attrs", u "dict", u "invalid argument to unary operator", u "check_unary", u "keep_all", u "order", u "show", u "comparison of these types is not implemented", u "expression", u "comparison is not allowed for expressions", u "one", u "comparable", u "text_items", u "plain_order", u "double_items_compare", u "compare", u "holds", u "truth_item", u "invalid argument type", u "truth_items", u "not_item", u "arith_names", u "compare_names", u "is_atomic", u "tag", u "negate", u "plus", u "logic_not", u "arith", u "compare_op", u "logic_and", u "logic_or", u "unary_value", u "binary_value", u "is_constant", u "plain_call_name", u "safe", u "fold", u "call_value", u "node", u "safe_names", u "fold_uses", u "at", u "cells", u "mix", u "spare", u "deep", u "_law_take", u "xy", u "_law_tree", u "tree", u "side", u "_law_made", u "sides", u "_law_worth", u "two", u "figure", u "_law_heads", u "worth", u "first", u "_law_lay", u "_law_odd", u "line", u "due", u "told", u "cell", u "script", u "_law_same", u "Code.__init__", u "Vector.__init__", u "Symbol.__init__", u "Call.__init__", u "Compiler.__init__", u "Compiler.compile_expr", u "Compiler.emit", u "Compiler.aim", u "Compiler.add_const", u "Compiler.push_const", u "Compiler.expr", u "Compiler.call", u "Compiler.guarded", u "Compiler.plain_way", u "Compiler.operator", u "Compiler.control", u "Refusal.__init__", u "law"]
noncomputable def TT (k : Nat) : Str := (TL[k]?).getD ⟨#[k + 2000000]⟩
noncomputable def CA : Nat → Addr
  | 0 => 38 | 1 => 147 | 2 => 168 | 3 => 190 | 4 => 504 | 5 => 484 | 6 => 448 | _ => 38
noncomputable def FLA : List (Nat × Nat) := [(298, 35), (70, 49), (127, 56), (82, 63), (81, 70), (83, 77), (79, 82), (126, 89), (299, 137), (300, 165), (301, 187), (187, 215), (253, 222), (129, 229), (135, 236), (110, 243), (136, 250), (145, 257), (302, 300), (303, 307), (304, 314), (305, 321), (306, 328), (307, 335), (308, 342), (309, 349), (310, 354), (311, 361), (312, 368), (313, 382), (163, 460), (167, 467), (188, 474), (314, 501), (175, 517), (178, 524), (220, 531), (176, 538), (179, 559), (180, 566), (212, 573), (213, 580), (245, 671), (191, 678), (199, 685), (197, 699), (198, 706), (226, 713), (205, 720), (207, 727), (230, 734), (223, 741), (211, 748), (225, 755), (219, 762), (227, 767), (229, 774), (228, 779), (258, 786), (234, 793), (233, 800), (255, 805), (246, 909), (243, 916), (241, 923), (244, 933), (259, 939), (250, 960), (247, 967), (249, 972), (257, 1003), (251, 1010), (252, 1017), (270, 1024), (264, 1031), (265, 1038), (262, 1045), (263, 1052), (268, 1059), (267, 1066), (271, 1073), (133, 1080), (277, 1087), (279, 1092), (282, 1097), (284, 1102), (287, 1109), (290, 1114), (291, 1119), (297, 1126), (315, 1131)]
noncomputable def GL : List (Nat × Value) := FLA.map (fun p => (p.1, .ref p.2)) ++ [(32, .ref 147), (33, .ref 168), (34, .ref 190), (35, .ref 38), (36, .ref 448), (37, .ref 504),
  (21, .builtin "len"), (22, .type "range"), (23, .builtin "abs"), (24, .type "int"), (25, .builtin "isinstance"), (26, .builtin "max"), (27, .builtin "min"), (28, .type "reversed")]
noncomputable def scode (s : Str) : Nat := s.cps.toList.foldl (fun a c => a * 4000000 + c + 1) 0
theorem TL_nodup : (TL.map scode).Nodup := by decide +kernel
theorem TL_low : TL.all (fun s => s.cps.toList.all fun c => Nat.blt c 2000000) = true := by decide +kernel
theorem TT_inj {a b : Nat} (h : TT a = TT b) : a = b := by
  have low : ∀ {s : Str} {k : Nat}, s ∈ TL → s = ⟨#[k + 2000000]⟩ → False := fun {s k} m e => by
    have := List.all_eq_true.mp TL_low s m
    rw [e] at this
    have h2 := List.all_eq_true.mp this (k + 2000000) (by simp)
    have h3 := Nat.blt_eq.mp h2
    lia
  unfold TT at h
  cases ha : TL[a]? with
  | none =>
    rw [ha] at h
    cases hb : TL[b]? with
    | none =>
      rw [hb] at h
      simp only [Option.getD_none, Str.mk.injEq] at h
      have := congrArg Array.toList h
      simp at this
      exact this
    | some t =>
      rw [hb] at h
      exact (low (List.mem_of_getElem? hb) h.symm).elim
  | some t =>
    rw [ha] at h
    cases hb : TL[b]? with
    | none =>
      rw [hb] at h
      exact (low (List.mem_of_getElem? ha) h).elim
    | some t' =>
      rw [hb] at h
      simp only [Option.getD_some] at h
      subst h
      obtain ⟨la, ea⟩ := List.getElem?_eq_some_iff.mp ha
      obtain ⟨lb, eb⟩ := List.getElem?_eq_some_iff.mp hb
      have nd := TL_nodup
      have := (List.getElem_inj (h₀ := by simpa using la) (h₁ := by simpa using lb) nd).mp (by simp [ea, eb])
      exact this
noncomputable abbrev tupO (vs : List Value) (n : Nat) : Obj := { cls := .type "tuple", data := .seq vs.toArray n }
noncomputable abbrev lstO (vs : List Value) (n : Nat) : Obj := { cls := .type "list", data := .seq vs.toArray n }
noncomputable def isShared (es : List DictEntry) : Prop := ∃ e0 e1 e2 e3 e4 t, es = [e0, e1, e2, e3, e4] ∧ e3.key = .str (TT 3) t
noncomputable def Flip (o o' : Obj) : Prop := ∃ e0 e1 e2 e3 e4 n t, o = dictOf [e0, e1, e2, e3, e4] n ∧ e3.key = .str (TT 3) t ∧ o' = dictOf [e0, e1, e2, { e3 with val := .bool true }, e4] n
theorem Flip.trans {a b c : Obj} (x : Flip a b) (y : Flip b c) : Flip a c := by
  obtain ⟨e0, e1, e2, e3, e4, n, t, rfl, k, rfl⟩ := x
  obtain ⟨f0, f1, f2, f3, f4, m, u, e, k', rfl⟩ := y
  simp only [dictOf, Obj.mk.injEq, Data.dict.injEq, List.toArray_inj, List.cons.injEq, and_true, true_and] at e
  obtain ⟨⟨rfl, rfl, rfl, rfl, rfl⟩, rfl⟩ := e
  exact ⟨e0, e1, e2, e3, e4, n, t, rfl, k, rfl⟩
noncomputable def Chg (z : Prop) (o o' : Obj) : Prop := if o.cls = .type "frame" then o'.cls = o.cls ∧ o'.dict = o.dict ∧ o'.data = o.data else o' = o ∨ (z ∧ Flip o o')
theorem Chg.refl {z : Prop} {o : Obj} : Chg z o o := by unfold Chg; split <;> simp
theorem Chg.trans {z z' : Prop} {a b c : Obj} (x : Chg z a b) (y : Chg z' b c) (hz : z' → z) : Chg z a c := by
  unfold Chg at *
  by_cases h : a.cls = .type "frame"
  · rw [if_pos h] at x ⊢
    rw [if_pos (x.1.trans h)] at y
    exact ⟨y.1.trans x.1, y.2.1.trans x.2.1, y.2.2.trans x.2.2⟩
  · rw [if_neg h] at x ⊢
    rcases x with rfl | ⟨z1, f⟩
    · rw [if_neg h] at y
      exact y.imp id fun q => ⟨hz q.1, q.2⟩
    · have hb : ¬ b.cls = .type "frame" := by
        obtain ⟨_, _, _, _, _, _, _, _, _, rfl⟩ := f
        intro q; simp at q
      rw [if_neg hb] at y
      rcases y with rfl | ⟨_, f'⟩
      · exact .inr ⟨z1, f⟩
      · exact .inr ⟨z1, f.trans f'⟩
theorem Chg.same {z : Prop} {o o' : Obj} (c : Chg z o o') (hf : o.cls ≠ .type "frame") (hd : ∀ es n, o = dictOf es n → ¬ isShared es) : o' = o := by
  unfold Chg at c
  rw [if_neg hf] at c
  rcases c with c | ⟨_, e0, e1, e2, e3, e4, n, t, rfl, k, _⟩
  · exact c
  · exact absurd ⟨e0, e1, e2, e3, e4, t, rfl, k⟩ (hd _ _ rfl)
theorem Chg.keep {o o' : Obj} (c : Chg False o o') (hf : o.cls ≠ .type "frame") : o' = o := by
  unfold Chg at c
  rw [if_neg hf] at c
  rcases c with c | ⟨q, _⟩
  · exact c
  · exact q.elim
theorem Chg.data {o o' : Obj} (c : Chg False o o') : o'.data = o.data := by
  unfold Chg at c
  split at c
  · exact c.2.2
  · rcases c with rfl | ⟨q, _⟩
    · rfl
    · exact q.elim
theorem Chg.imp {z z' : Prop} {o o' : Obj} (c : Chg z o o') (h : z → z') : Chg z' o o' := by
  unfold Chg at *
  split <;> rename_i q
  · rwa [if_pos q] at c
  · rw [if_neg q] at c; exact c.imp _root_.id fun r => ⟨h r.1, r.2⟩
section
variable (h : Heap) (Z : Addr → Prop) (ρ : List Addr)
mutual
inductive VRel : AV → Value → Prop
  | none : VRel .none .none
  | bool (b : Bool) : VRel (.bool b) (.bool b)
  | int (i : Int) (t : Tok) : VRel (.int i) (.int i t)
  | str (k : Nat) (t : Tok) : VRel (.str k) (.str (TT k) t)
  | glob (k : Nat) (v : Value) (e : GL.lookup k = some v) : VRel (.glob k) v
  | loc (i : Nat) (a : Addr) (e : ρ[i]? = some a) : VRel (.loc i) (.ref a)
  | tup (xs : List AV) (a : Addr) (vs : List Value) (n : Nat) (lz : xs.length ≤ 20000) (z : Z a) (e : h.get? a = some (tupO vs n)) (r : VRels xs vs) : VRel (.tup xs) (.ref a)
  | lst (xs : List AV) (a : Addr) (vs : List Value) (n : Nat) (lz : xs.length ≤ 20000) (z : Z a) (e : h.get? a = some (lstO vs n)) (r : VRels xs vs) : VRel (.lst xs) (.ref a)
  | fin (c : Nat) (ks : List Nat) (fs : List AV) (a d : Addr) (es : List DictEntry) (n : Nat) (cc : c = 2 ∨ c = 3) (z : Z a) (zd : Z d) (e : h.get? a = some (instObj (CA c) d)) (ed : h.get? d = some (dictOf es n)) (ns : ¬ isShared es) (r : FRel ks fs es) : VRel (.fin c ks fs) (.ref a)
  | vec (k : Nat) (x : AV) (a d : Addr) (e0 e1 e2 e3 e4 : DictEntry) (n : Nat) (t0 t1 t2 t3 t4 : Tok) (b : Bool) (z : Z a) (zd : Z d) (e : h.get? a = some (instObj (CA 1) d)) (ed : h.get? d = some (dictOf [e0, e1, e2, e3, e4] n))
      (k0 : e0.key = .str (TT 0) t0) (k1 : e1.key = .str (TT 1) t1) (k2 : e2.key = .str (TT 2) t2) (k3 : e3.key = .str (TT 3) t3) (k4 : e4.key = .str (TT 4) t4)
      (r0 : VRel (.str k) e0.val) (r1 : VRel (.lst [x]) e1.val) (r2 : e2.val = .none) (r3 : e3.val = .bool b) (r4 : e4.val = .bool false) : VRel (.vec k x) (.ref a)
  | tree (t : Tree) (v : Value) (r : VRel (treeAV t) v) : VRel (.tree t) v
  | node (t : Tree) (v : Value) (r : VRel (nodeAV t) v) : VRel (.node t) v
  | rng (a b : Int) (r : Addr) (t u w : Tok) (z : Z r) (e : h.get? r = some { cls := .type "range", data := .fields #[.int a t, .int b u, .int 1 w] }) : VRel (.rng a b) (.ref r)
inductive VRels : List AV → List Value → Prop
  | nil : VRels [] []
  | cons (x : AV) (v : Value) (xs : List AV) (vs : List Value) (r : VRel x v) (rs : VRels xs vs) : VRels (x :: xs) (v :: vs)
inductive FRel : List Nat → List AV → List DictEntry → Prop
  | nil : FRel [] [] []
  | cons (k : Nat) (x : AV) (e : DictEntry) (t : Tok) (ks : List Nat) (fs : List AV) (es : List DictEntry) (hk : e.key = .str (TT k) t) (r : VRel x e.val) (rs : FRel ks fs es) : FRel (k :: ks) (x :: fs) (e :: es)
end
end
noncomputable def Std (h : Heap) (Z : Addr → Prop) (h' : Heap) : Prop := ∀ a o, Z a → h.get? a = some o → ∃ o', h'.get? a = some o' ∧ Chg True o o'
section
variable {h h' : Heap} {Z Z' : Addr → Prop} {ρ ρ' : List Addr}
theorem VRel.ind {P : AV → Value → Prop} {Q : List AV → List Value → Prop} {R : List Nat → List AV → List DictEntry → Prop}
    (m1 : P .none .none) (m2 : ∀ b, P (.bool b) (.bool b)) (m3 : ∀ i t, P (.int i) (.int i t)) (m4 : ∀ k t, P (.str k) (.str (TT k) t)) (m5 : ∀ k v, GL.lookup k = some v → P (.glob k) v) (m6 : ∀ i a, ρ[i]? = some a → P (.loc i) (.ref a))
    (m7 : ∀ xs a vs n, xs.length ≤ 20000 → Z a → h.get? a = some (tupO vs n) → Q xs vs → P (.tup xs) (.ref a)) (m8 : ∀ xs a vs n, xs.length ≤ 20000 → Z a → h.get? a = some (lstO vs n) → Q xs vs → P (.lst xs) (.ref a))
    (m9 : ∀ c ks fs a d es n, (c = 2 ∨ c = 3) → Z a → Z d → h.get? a = some (instObj (CA c) d) → h.get? d = some (dictOf es n) → ¬ isShared es → R ks fs es → P (.fin c ks fs) (.ref a))
    (m10 : ∀ k x a d e0 e1 e2 e3 e4 n t0 t1 t2 t3 t4 b, Z a → Z d → h.get? a = some (instObj (CA 1) d) → h.get? d = some (dictOf [e0, e1, e2, e3, e4] n) → e0.key = .str (TT 0) t0 → e1.key = .str (TT 1) t1 → e2.key = .str (TT 2) t2 → e3.key = .str (TT 3) t3 → e4.key = .str (TT 4) t4 →
      P (.str k) e0.val → P (.lst [x]) e1.val → e2.val = .none → e3.val = .bool b → e4.val = .bool false → P (.vec k x) (.ref a))
    (m11 : ∀ t v, P (treeAV t) v → P (.tree t) v) (m12 : ∀ t v, P (nodeAV t) v → P (.node t) v) (m13 : ∀ a b r t u w, Z r → h.get? r = some { cls := .type "range", data := .fields #[.int a t, .int b u, .int 1 w] } → P (.rng a b) (.ref r))
    (m14 : Q [] []) (m15 : ∀ x v xs vs, P x v → Q xs vs → Q (x :: xs) (v :: vs)) (m16 : R [] [] []) (m17 : ∀ k x e t ks fs es, e.key = .str (TT k) t → P x e.val → R ks fs es → R (k :: ks) (x :: fs) (e :: es)) :
    (∀ {x v}, VRel h Z ρ x v → P x v) ∧ (∀ {xs vs}, VRels h Z ρ xs vs → Q xs vs) ∧ ∀ {ks fs es}, FRel h Z ρ ks fs es → R ks fs es := by
  have n7 := fun xs a vs n lz z e (_ : VRels h Z ρ xs vs) => m7 xs a vs n lz z e
  have n8 := fun xs a vs n lz z e (_ : VRels h Z ρ xs vs) => m8 xs a vs n lz z e
  have n9 := fun c ks fs a d es n cc z zd e ed ns (_ : FRel h Z ρ ks fs es) => m9 c ks fs a d es n cc z zd e ed ns
  have n10 := fun k x a d e0 e1 e2 e3 e4 n t0 t1 t2 t3 t4 b z zd e ed k0 k1 k2 k3 k4 (_ : VRel h Z ρ (.str k) e0.val) (_ : VRel h Z ρ (.lst [x]) e1.val) r2 r3 r4 i0 i1 => m10 k x a d e0 e1 e2 e3 e4 n t0 t1 t2 t3 t4 b z zd e ed k0 k1 k2 k3 k4 i0 i1 r2 r3 r4
  have n11 := fun t v (_ : VRel h Z ρ (treeAV t) v) => m11 t v
  have n12 := fun t v (_ : VRel h Z ρ (nodeAV t) v) => m12 t v
  have n15 := fun x v xs vs (_ : VRel h Z ρ x v) (_ : VRels h Z ρ xs vs) => m15 x v xs vs
  have n17 := fun k x e t ks fs es hk (_ : VRel h Z ρ x e.val) (_ : FRel h Z ρ ks fs es) => m17 k x e t ks fs es hk
  exact ⟨fun r => VRel.rec (motive_1 := fun x v zz => P x v) (motive_2 := fun x v zz => Q x v) (motive_3 := fun x v w zz => R x v w) m1 m2 m3 m4 m5 m6 n7 n8 n9 n10 n11 n12 m13 m14 n15 m16 n17 r,
    fun r => VRels.rec (motive_1 := fun x v zz => P x v) (motive_2 := fun x v zz => Q x v) (motive_3 := fun x v w zz => R x v w) m1 m2 m3 m4 m5 m6 n7 n8 n9 n10 n11 n12 m13 m14 n15 m16 n17 r,
    fun r => FRel.rec (motive_1 := fun x v zz => P x v) (motive_2 := fun x v zz => Q x v) (motive_3 := fun x v w zz => R x v w) m1 m2 m3 m4 m5 m6 n7 n8 n9 n10 n11 n12 m13 m14 n15 m16 n17 r⟩
theorem bnd_tree (n : Nat) (t : Tree) : bnd n (treeAV t) = true := by cases t <;> rfl
theorem bnd_node (n : Nat) (t : Tree) : bnd n (nodeAV t) = true := by
  cases t with
  | lit k i => show bnd n (itemAV k i) = true; unfold itemAV; split <;> rfl
  | _ => rfl
theorem bnd_all : (∀ {x v}, VRel h Z ρ x v → Mine.bnd ρ.length x = true) ∧ (∀ {xs vs}, VRels h Z ρ xs vs → bnds ρ.length xs = true) ∧ ∀ {ks fs es}, FRel h Z ρ ks fs es → bnds ρ.length fs = true :=
  VRel.ind (P := fun x zz => Mine.bnd ρ.length x = true) (Q := fun xs zz => bnds ρ.length xs = true) (R := fun zz fs zz => bnds ρ.length fs = true) rfl (fun zz => rfl) (fun zz zz => rfl) (fun zz zz => rfl) (fun zz zz zz => rfl)
    (fun zz zz e => Nat.blt_eq.mpr (List.getElem?_eq_some_iff.mp e).1) (fun zz zz zz zz zz zz zz r => r) (fun zz zz zz zz zz zz zz r => r) (fun zz zz zz zz zz zz zz zz zz zz zz zz zz r => r)
    (fun zz zz zz zz zz zz zz zz zz zz zz zz zz zz zz zz zz zz zz zz zz zz zz zz zz zz r zz zz zz => (Bool.and_eq_true_iff.mp r).1) (fun zz zz zz => rfl) (fun zz zz zz => rfl) (fun zz zz zz zz zz zz zz zz => rfl) rfl (fun zz zz zz zz a b => Bool.and_eq_true_iff.mpr ⟨a, b⟩) rfl (fun zz zz zz zz zz zz zz zz a b => Bool.and_eq_true_iff.mpr ⟨a, b⟩)
theorem VRel.bnd {x : AV} {v : Value} (r : VRel h Z ρ x v) : Mine.bnd ρ.length x = true := bnd_all.1 r
theorem VRels.bnd {xs : List AV} {vs : List Value} (r : VRels h Z ρ xs vs) : bnds ρ.length xs = true := bnd_all.2.1 r
theorem FRel.bnd {ks : List Nat} {fs : List AV} {es : List DictEntry} (r : FRel h Z ρ ks fs es) : bnds ρ.length fs = true := bnd_all.2.2 r
theorem Std.same {a : Addr} {o : Obj} (hs : Std h Z h') (z : Z a) (e : h.get? a = some o) (hf : o.cls ≠ .type "frame") (hd : ∀ es n, o = dictOf es n → ¬ isShared es) : h'.get? a = some o := by
  obtain ⟨o', e', c⟩ := hs a o z e
  exact c.same hf hd ▸ e'
theorem Std.vec {d : Addr} {e0 e1 e2 e3 e4 : DictEntry} {n : Nat} {b : Bool} (hs : Std h Z h') (z : Z d) (e : h.get? d = some (dictOf [e0, e1, e2, e3, e4] n)) (r3 : e3.val = .bool b) :
    ∃ v b', h'.get? d = some (dictOf [e0, e1, e2, { e3 with val := v }, e4] n) ∧ v = .bool b' := by
  obtain ⟨o2, e2', c2⟩ := hs d _ z e
  unfold Chg at c2
  rw [if_neg (by simp)] at c2
  rcases c2 with rfl | ⟨_, f0, f1, f2, f3, f4, m, t, eq, kk, rfl⟩
  · exact ⟨_, b, e2', r3⟩
  · simp only [dictOf, Obj.mk.injEq, Data.dict.injEq, List.toArray_inj, List.cons.injEq, and_true, true_and] at eq
    obtain ⟨⟨rfl, rfl, rfl, rfl, rfl⟩, rfl⟩ := eq
    exact ⟨_, true, e2', rfl⟩
theorem vrel_map (n : Nat) (hZ : ∀ a, Z a → Z' a) (hρ : ∀ (i a : Nat), i < n → ρ[i]? = some a → ρ'[i]? = some a) (hs : Std h Z h') :
    (∀ {x v}, VRel h Z ρ x v → Mine.bnd n x = true → VRel h' Z' ρ' x v) ∧ (∀ {xs vs}, VRels h Z ρ xs vs → bnds n xs = true → VRels h' Z' ρ' xs vs) ∧ ∀ {ks fs es}, FRel h Z ρ ks fs es → bnds n fs = true → FRel h' Z' ρ' ks fs es :=
  VRel.ind (P := fun x v => Mine.bnd n x = true → VRel h' Z' ρ' x v) (Q := fun xs vs => bnds n xs = true → VRels h' Z' ρ' xs vs) (R := fun ks fs es => bnds n fs = true → FRel h' Z' ρ' ks fs es)
    (fun zz => .none) (fun b zz => .bool b) (fun i t zz => .int i t) (fun k t zz => .str k t) (fun k v e zz => .glob k v e) (fun i a e b => .loc i a (hρ i a (Nat.blt_eq.mp b) e))
    (fun xs a vs m lz z e r b => .tup xs a vs m lz (hZ a z) (hs.same z e (by simp) (by intro es n e; simp [tupO, dictOf] at e)) (r b)) (fun xs a vs m lz z e r b => .lst xs a vs m lz (hZ a z) (hs.same z e (by simp) (by intro es n e; simp [lstO, dictOf] at e)) (r b))
    (fun c ks fs a d es m cc z zd e ed ns r b => .fin c ks fs a d es m cc (hZ a z) (hZ d zd) (hs.same z e (by simp) (by intro es n e; simp [dictOf] at e)) (hs.same zd ed (by simp) (by intro es' n' e; simp [dictOf] at e; rw [← e.1]; exact ns)) ns (r b))
    (fun k x a d e0 e1 e2 e3 e4 m t0 t1 t2 t3 t4 b z zd e ed k0 k1 k2 k3 k4 r0 r1 r2 r3 r4 bb => by
      obtain ⟨v', b', q, q'⟩ := hs.vec zd ed r3
      exact .vec k x a d e0 e1 e2 _ e4 m t0 t1 t2 t3 t4 b' (hZ a z) (hZ d zd) (hs.same z e (by simp) (by intro es n e; simp [dictOf] at e)) q k0 k1 k2 k3 k4 (r0 rfl) (r1 (Bool.and_eq_true_iff.mpr ⟨bb, rfl⟩)) r2 q' r4)
    (fun t v r zz => .tree t v (r (bnd_tree n t))) (fun t v r zz => .node t v (r (bnd_node n t))) (fun a b r t u w z e zz => .rng a b r t u w (hZ r z) (hs.same z e (by simp) (by intro es n e; simp [dictOf] at e)))
    (fun zz => .nil) (fun x v xs vs r rs b => .cons x v xs vs (r (Bool.and_eq_true_iff.mp b).1) (rs (Bool.and_eq_true_iff.mp b).2)) (fun zz => .nil) (fun k x e t ks fs es hk r rs b => .cons k x e t ks fs es hk (r (Bool.and_eq_true_iff.mp b).1) (rs (Bool.and_eq_true_iff.mp b).2))
theorem VRel.mono (hZ : ∀ a, Z a → Z' a) (hρ : ∀ (i a : Nat), ρ[i]? = some a → ρ'[i]? = some a) (hs : Std h Z h') {x : AV} {v : Value} (r : VRel h Z ρ x v) : VRel h' Z' ρ' x v := (vrel_map ρ.length hZ (fun i a zz => hρ i a) hs).1 r r.bnd
theorem VRels.mono (hZ : ∀ a, Z a → Z' a) (hρ : ∀ (i a : Nat), ρ[i]? = some a → ρ'[i]? = some a) (hs : Std h Z h') {xs : List AV} {vs : List Value} (r : VRels h Z ρ xs vs) : VRels h' Z' ρ' xs vs := (vrel_map ρ.length hZ (fun i a zz => hρ i a) hs).2.1 r r.bnd
theorem FRel.mono (hZ : ∀ a, Z a → Z' a) (hρ : ∀ (i a : Nat), ρ[i]? = some a → ρ'[i]? = some a) (hs : Std h Z h') {ks : List Nat} {fs : List AV} {es : List DictEntry} (r : FRel h Z ρ ks fs es) : FRel h' Z' ρ' ks fs es := (vrel_map ρ.length hZ (fun i a zz => hρ i a) hs).2.2 r r.bnd
theorem take_at (n : Nat) (i a : Nat) (hi : i < n) (e : ρ[i]? = some a) : (ρ.take n)[i]? = some a := by rw [List.getElem?_take_of_lt hi]; exact e
theorem Std.refl : Std h Z h := fun zz o zz e => ⟨o, e, Chg.refl⟩
theorem VRel.cut (n : Nat) {x : AV} {v : Value} (r : VRel h Z ρ x v) (b : Mine.bnd n x = true) : VRel h Z (ρ.take n) x v := (vrel_map n (fun zz z => z) (take_at n) Std.refl).1 r b
theorem VRels.cut (n : Nat) {xs : List AV} {vs : List Value} (r : VRels h Z ρ xs vs) (b : bnds n xs = true) : VRels h Z (ρ.take n) xs vs := (vrel_map n (fun zz z => z) (take_at n) Std.refl).2.1 r b
theorem FRel.cut (n : Nat) {ks : List Nat} {fs : List AV} {es : List DictEntry} (r : FRel h Z ρ ks fs es) (b : bnds n fs = true) : FRel h Z (ρ.take n) ks fs es := (vrel_map n (fun zz z => z) (take_at n) Std.refl).2.2 r b
theorem non {α : Type} {r : α} {p : Prop} (e : (none : Option α) = some r) : p := nomatch e
theorem VRels.nil_inv {vs : List Value} (r : VRels h Z ρ [] vs) : vs = [] := by cases r; rfl
theorem VRels.cons_inv {x : AV} {xs : List AV} {vs : List Value} (r : VRels h Z ρ (x :: xs) vs) : ∃ v ws, vs = v :: ws ∧ VRel h Z ρ x v ∧ VRels h Z ρ xs ws := by cases r; exact ⟨_, _, rfl, by assumption, by assumption⟩
theorem FRel.nil_inv {es : List DictEntry} {fs : List AV} (r : FRel h Z ρ [] fs es) : fs = [] ∧ es = [] := by cases r; exact ⟨rfl, rfl⟩
theorem FRel.cons_inv {k : Nat} {ks : List Nat} {fs : List AV} {es : List DictEntry} (r : FRel h Z ρ (k :: ks) fs es) : ∃ x gs e ds t, fs = x :: gs ∧ es = e :: ds ∧ e.key = .str (TT k) t ∧ VRel h Z ρ x e.val ∧ FRel h Z ρ ks gs ds := by cases r; exact ⟨_, _, _, _, _, rfl, rfl, by assumption, by assumption, by assumption⟩
theorem VRel.int_inv {i : Int} {v : Value} (r : VRel h Z ρ (.int i) v) : ∃ t, v = .int i t := by cases r; exact ⟨_, rfl⟩
theorem VRel.none_inv {v : Value} (r : VRel h Z ρ .none v) : v = .none := by cases r; rfl
theorem VRel.bool_inv {b : Bool} {v : Value} (r : VRel h Z ρ (.bool b) v) : v = .bool b := by cases r; rfl
theorem VRel.str_inv {k : Nat} {v : Value} (r : VRel h Z ρ (.str k) v) : ∃ t, v = .str (TT k) t := by cases r; exact ⟨_, rfl⟩
theorem VRel.glob_inv {k : Nat} {v : Value} (r : VRel h Z ρ (.glob k) v) : GL.lookup k = some v := by cases r; assumption
theorem VRel.loc_inv {i : Nat} {v : Value} (r : VRel h Z ρ (.loc i) v) : ∃ a, v = .ref a ∧ ρ[i]? = some a := by cases r; exact ⟨_, rfl, by assumption⟩
theorem VRel.tup_inv {xs : List AV} {v : Value} (r : VRel h Z ρ (.tup xs) v) : ∃ a vs n, v = .ref a ∧ xs.length ≤ 20000 ∧ Z a ∧ h.get? a = some (tupO vs n) ∧ VRels h Z ρ xs vs := by cases r; exact ⟨_, _, _, rfl, by assumption, by assumption, by assumption, by assumption⟩
theorem VRel.lst_inv {xs : List AV} {v : Value} (r : VRel h Z ρ (.lst xs) v) : ∃ a vs n, v = .ref a ∧ xs.length ≤ 20000 ∧ Z a ∧ h.get? a = some (lstO vs n) ∧ VRels h Z ρ xs vs := by cases r; exact ⟨_, _, _, rfl, by assumption, by assumption, by assumption, by assumption⟩
theorem VRel.fin_inv {c : Nat} {ks : List Nat} {fs : List AV} {v : Value} (r : VRel h Z ρ (.fin c ks fs) v) : ∃ a d es n, v = .ref a ∧ (c = 2 ∨ c = 3) ∧ Z a ∧ Z d ∧ h.get? a = some (instObj (CA c) d) ∧ h.get? d = some (dictOf es n) ∧ ¬ isShared es ∧ FRel h Z ρ ks fs es := by
  cases r; exact ⟨_, _, _, _, rfl, by assumption, by assumption, by assumption, by assumption, by assumption, by assumption, by assumption⟩
noncomputable abbrev vecF (k : Nat) (x : AV) (b : Bool) : List AV := [.str k, .lst [x], .none, .bool b, .bool false]
theorem VRel.vec_inv {k : Nat} {x : AV} {v : Value} (r : VRel h Z ρ (.vec k x) v) : ∃ a d e0 e1 e2 e3 e4 n b, v = .ref a ∧ Z a ∧ Z d ∧ h.get? a = some (instObj (CA 1) d) ∧ h.get? d = some (dictOf [e0, e1, e2, e3, e4] n) ∧ FRel h Z ρ [0, 1, 2, 3, 4] (vecF k x b) [e0, e1, e2, e3, e4] := by
  cases r with
  | vec k x a d e0 e1 e2 e3 e4 n t0 t1 t2 t3 t4 b z zd e ed k0 k1 k2 k3 k4 r0 r1 r2 r3 r4 =>
    exact ⟨a, d, e0, e1, e2, e3, e4, n, b, rfl, z, zd, e, ed, .cons _ _ _ _ _ _ _ k0 r0 (.cons _ _ _ _ _ _ _ k1 r1 (.cons _ _ _ _ _ _ _ k2 (r2 ▸ .none) (.cons _ _ _ _ _ _ _ k3 (r3 ▸ .bool b) (.cons _ _ _ _ _ _ _ k4 (r4 ▸ .bool false) .nil))))⟩
theorem bind_el {α β : Type} {o : Option α} {f : α → Option β} {b : β} {G : Prop} (h : o.bind f = some b) (c : ∀ a, o = some a → f a = some b → G) : G := by
  cases o with
  | none => exact non h
  | some a => exact c a rfl h
@[elab_as_elim] theorem VRel.int_el {P : Value → Prop} {i : Int} {v : Value} (r : VRel h Z ρ (.int i) v) (c : ∀ t, P (.int i t)) : P v := by
  obtain ⟨t, rfl⟩ := r.int_inv
  exact c t
@[elab_as_elim] theorem VRel.str_el {P : Value → Prop} {k : Nat} {v : Value} (r : VRel h Z ρ (.str k) v) (c : ∀ t, P (.str (TT k) t)) : P v := by
  obtain ⟨t, rfl⟩ := r.str_inv
  exact c t
@[elab_as_elim] theorem VRel.loc_el {P : Value → Prop} {i : Nat} {v : Value} (r : VRel h Z ρ (.loc i) v) (c : ∀ a, ρ[i]? = some a → P (.ref a)) : P v := by
  obtain ⟨a, rfl, e⟩ := r.loc_inv
  exact c a e
@[elab_as_elim] theorem VRel.tup_el {P : Value → Prop} {xs : List AV} {v : Value} (r : VRel h Z ρ (.tup xs) v) (c : ∀ a vs n, xs.length ≤ 20000 → Z a → h.get? a = some (tupO vs n) → VRels h Z ρ xs vs → P (.ref a)) : P v := by
  obtain ⟨a, vs, n, rfl, l, z, g, q⟩ := r.tup_inv
  exact c a vs n l z g q
@[elab_as_elim] theorem VRel.lst_el {P : Value → Prop} {xs : List AV} {v : Value} (r : VRel h Z ρ (.lst xs) v) (c : ∀ a vs n, xs.length ≤ 20000 → Z a → h.get? a = some (lstO vs n) → VRels h Z ρ xs vs → P (.ref a)) : P v := by
  obtain ⟨a, vs, n, rfl, l, z, g, q⟩ := r.lst_inv
  exact c a vs n l z g q
@[elab_as_elim] theorem VRels.cons_el {P : List Value → Prop} {x : AV} {xs : List AV} {vs : List Value} (r : VRels h Z ρ (x :: xs) vs) (c : ∀ v ws, VRel h Z ρ x v → VRels h Z ρ xs ws → P (v :: ws)) : P vs := by
  obtain ⟨v, ws, rfl, a, b⟩ := r.cons_inv
  exact c v ws a b
theorem FRel.cc {P : List DictEntry → Prop} {k : Nat} {ks : List Nat} {x : AV} {fs : List AV} {es : List DictEntry} (r : FRel h Z ρ (k :: ks) (x :: fs) es) (c : ∀ e ds t, e.key = .str (TT k) t → VRel h Z ρ x e.val → FRel h Z ρ ks fs ds → P (e :: ds)) : P es := by
  obtain ⟨y, gs, e, ds, t, e1, rfl, kk, v, f⟩ := r.cons_inv
  obtain ⟨rfl, rfl⟩ := List.cons.inj e1
  exact c e ds t kk v f
theorem VRel.vec_of {k : Nat} {x : AV} {a d : Addr} {es : List DictEntry} {n : Nat} {b : Bool} (z : Z a) (zd : Z d) (e : h.get? a = some (instObj (CA 1) d)) (ed : h.get? d = some (dictOf es n)) (r : FRel h Z ρ [0, 1, 2, 3, 4] (vecF k x b) es) : VRel h Z ρ (.vec k x) (.ref a) :=
  r.cc (P := fun es => h.get? d = some (dictOf (es) n) → VRel h Z ρ (.vec k x) (.ref a)) (fun e0 es t0 k0 r0 r => r.cc (P := fun es => h.get? d = some (dictOf (e0 :: es) n) → VRel h Z ρ (.vec k x) (.ref a)) (fun e1 es t1 k1 r1 r => r.cc (P := fun es => h.get? d = some (dictOf (e0 :: e1 :: es) n) → VRel h Z ρ (.vec k x) (.ref a)) (fun e2 es t2 k2 r2 r => r.cc (P := fun es => h.get? d = some (dictOf (e0 :: e1 :: e2 :: es) n) → VRel h Z ρ (.vec k x) (.ref a)) (fun e3 es t3 k3 r3 r => r.cc (P := fun es => h.get? d = some (dictOf (e0 :: e1 :: e2 :: e3 :: es) n) → VRel h Z ρ (.vec k x) (.ref a)) (fun e4 es t4 k4 r4 r => fun ed => by
  cases r.nil_inv.2
  exact .vec k x a d e0 e1 e2 e3 e4 n t0 t1 t2 t3 t4 b z zd e ed k0 k1 k2 k3 k4 r0 r1 r2.none_inv r3.bool_inv r4.bool_inv))))) ed
theorem VRel.expo {x : AV} {v : Value} (r : VRel h Z ρ x v) : VRel h Z ρ (expo x) v := by
  cases x with
  | tree t => cases r; assumption
  | node t => cases r; assumption
  | _ => exact r
theorem VRel.cv {x x' : AV} {v : Value} (r : VRel h Z ρ x v) (c : Cv x x') : VRel h Z ρ x' v := by
  cases c with
  | refl => exact r
  | tree t => exact .tree t v r
  | node t => exact .node t v r
  | untree t => exact r.expo
  | unnode t => exact r.expo
  | pair a t =>
    obtain ⟨x, vs, n, rfl, lz, z, e, rr⟩ := r.tup_inv
    obtain ⟨_, _, rfl, r0, rr⟩ := rr.cons_inv
    obtain ⟨_, _, rfl, r1, rr⟩ := rr.cons_inv
    obtain rfl := rr.nil_inv
    exact .tup _ x _ n lz z e (.cons _ _ _ _ r0 (.cons _ _ _ _ r1.expo .nil))
theorem VRels.length : ∀ {xs : List AV} {vs : List Value}, VRels h Z ρ xs vs → xs.length = vs.length := (VRel.ind (P := fun zz zz => True) (Q := fun xs vs => xs.length = vs.length) (R := fun zz zz zz => True) trivial (fun zz => trivial) (fun zz zz => trivial) (fun zz zz => trivial) (fun zz zz zz => trivial) (fun zz zz zz => trivial)
  (fun zz zz zz zz zz zz zz zz => trivial) (fun zz zz zz zz zz zz zz zz => trivial) (fun zz zz zz zz zz zz zz zz zz zz zz zz zz zz => trivial) (fun zz zz zz zz zz zz zz zz zz zz zz zz zz zz zz zz zz zz zz zz zz zz zz zz zz zz zz zz zz zz => trivial) (fun zz zz zz => trivial) (fun zz zz zz => trivial) (fun zz zz zz zz zz zz zz zz => trivial)
  rfl (fun zz zz zz zz zz q => congrArg (· + 1) q) trivial (fun zz zz zz zz zz zz zz zz zz zz => trivial)).2.1
theorem VRels.get {xs : List AV} {vs : List Value} (q : VRels h Z ρ xs vs) {i : Nat} {x : AV} (e : xs[i]? = some x) : ∃ v, vs[i]? = some v ∧ VRel h Z ρ x v := by
  induction xs generalizing vs i with
  | nil => cases e
  | cons y xs ih =>
    obtain ⟨v, ws, rfl, r, rs⟩ := q.cons_inv
    cases i with
    | zero => cases e; exact ⟨v, rfl, r⟩
    | succ i => exact ih rs e
theorem VRels.append {xs : List AV} {vs : List Value} {ys : List AV} {ws : List Value} (q : VRels h Z ρ xs vs) (q' : VRels h Z ρ ys ws) : VRels h Z ρ (xs ++ ys) (vs ++ ws) := by
  induction xs generalizing vs with
  | nil => obtain rfl := q.nil_inv; exact q'
  | cons y xs ih => obtain ⟨v, ws, rfl, r, rs⟩ := q.cons_inv; exact .cons _ _ _ _ r (ih rs)
theorem VRels.drop (n : Nat) {xs : List AV} {vs : List Value} (q : VRels h Z ρ xs vs) : VRels h Z ρ (xs.drop n) (vs.drop n) := by
  induction xs generalizing vs n with
  | nil => obtain rfl := q.nil_inv; rw [List.drop_nil, List.drop_nil]; exact .nil
  | cons y xs ih =>
    obtain ⟨v, ws, rfl, r, rs⟩ := q.cons_inv
    cases n with
    | zero => exact q
    | succ n => exact ih n rs
theorem VRels.take (n : Nat) {xs : List AV} {vs : List Value} (q : VRels h Z ρ xs vs) : VRels h Z ρ (xs.take n) (vs.take n) := by
  induction xs generalizing vs n with
  | nil => obtain rfl := q.nil_inv; rw [List.take_nil, List.take_nil]; exact .nil
  | cons y xs ih =>
    obtain ⟨v, ws, rfl, r, rs⟩ := q.cons_inv
    cases n with
    | zero => exact .nil
    | succ n => exact .cons _ _ _ _ r (ih n rs)
theorem VRels.set (n : Nat) {xs : List AV} {vs : List Value} {x : AV} {v : Value} (q : VRels h Z ρ xs vs) (q' : VRel h Z ρ x v) : VRels h Z ρ (xs.set n x) (vs.set n v) := by
  induction xs generalizing vs n with
  | nil => obtain rfl := q.nil_inv; exact .nil
  | cons y xs ih =>
    obtain ⟨v, ws, rfl, r, rs⟩ := q.cons_inv
    cases n with
    | zero => exact .cons _ _ _ _ q' rs
    | succ n => exact .cons _ _ _ _ r (ih n rs)
theorem VRels.replicate (n : Nat) {x : AV} {v : Value} (r : VRel h Z ρ x v) : VRels h Z ρ (List.replicate n x) (List.replicate n v) := by
  induction n with
  | zero => exact .nil
  | succ n ih => exact .cons _ _ _ _ r ih
end
end Mine
end
section
open PySem PySem.W PyProof.Rows
namespace Mine
noncomputable def OMap {w : World} {K : Type} [DecidableEq K] (knd : KeyKind pw w K) (o : Obj) (f : K → Option Value) (n : Nat) : Prop :=
  ∃ es ep, o.ExactDict ∧ o.data = .dict es ep ∧ KeysOf knd es ∧ (∀ k, findBy knd.is es k = f k) ∧ es.size ≤ n
noncomputable def ClsN (c : Nat) : Prop := c = 0 ∨ c = 1 ∨ c = 2 ∨ c = 3 ∨ c = 6
noncomputable def ORel (w : World) (h : Heap) (Z : Addr → Prop) (ρ : List Addr) (ao : AO) (o : Obj) : Prop := match ao with
  | .list xs => ∃ vs n, o = lstO vs n ∧ VRels h Z ρ xs vs ∧ xs.length ≤ 20000
  | .ns kvs => ∃ es n, o = dictOf es n ∧ FRel h Z ρ (kvs.map (·.1)) (kvs.map (·.2)) es ∧ kvs.length ≤ 20
  | .inst c d => ∃ a, ρ[d]? = some a ∧ o = instObj (CA c) a ∧ ClsN c
  | .dict kvs => ∃ P : List (Str × Value), (o.IsDictOf (PySem.strKind pw w) P ∧ P.length ≤ 1000) ∧ (∀ k v, nsLk kvs k = some v → ∃ val, valueAt P (TT k) = some val ∧ VRel h Z ρ v val) ∧ (kvs = [] → ∃ n, o = dictOf [] n) ∧ ∀ v ∈ kvs, bnd ρ.length v.2 = true
  | .idict ks => ∃ P : List (Int × Value), o.IsDictOf (PySem.intKind pw w) P ∧ P.map (·.1) = ks ∧ ks.length ≤ 10000
noncomputable def FrameOk (hb h : Heap) (Z : Addr → Prop) (ρ : List Addr) (e : Env) : Prop :=
  e.scope.kind ≠ .module ∧ ∃ L o, e.frame = some L ∧ hb.get? L = none ∧ L ∉ ρ ∧ ¬ Z L ∧ h.get? L = some o ∧ o.cls = .type "frame" ∧ ∀ vs, o.data ≠ .fields vs
section
variable (w : World) (hb : Heap) (F : List Env)
structure St (h : Heap) (Z : Addr → Prop) (ρ : List Addr) (σ : Sto) : Prop where
  base : ∀ a o, hb.get? a = some o → h.get? a = some o
  len : ρ.length = σ.length
  nd : ρ.Nodup
  sep : ∀ a ∈ ρ, ¬ Z a
  nb : ∀ a, a ∈ ρ ∨ Z a → hb.get? a = none
  zl : ∀ a, Z a → ∃ o, h.get? a = some o
  ob : ∀ (i : Nat) (ao : AO), σ[i]? = some ao → ∃ a o, ρ[i]? = some a ∧ h.get? a = some o ∧ ORel w h Z ρ ao o
  fr : ∀ e ∈ F, FrameOk hb h Z ρ e
end
structure Post (ex : Addr → Prop) (h : Heap) (Z : Addr → Prop) (ρ : List Addr) (h' : Heap) (Z' : Addr → Prop) (ρ' : List Addr) : Prop where
  live : ∀ a o, h.get? a = some o → ∃ o', h'.get? a = some o'
  ext : ∃ e, ρ' = ρ ++ e ∧ ∀ a ∈ e, h.get? a = none
  zx : ∀ a, Z a → Z' a
  zn : ∀ a, Z' a → Z a ∨ h.get? a = none
  keep : ∀ a o, h.get? a = some o → a ∉ ρ → ¬ ex a → ∃ o', h'.get? a = some o' ∧ Chg (Z a) o o'
noncomputable def no (_ : Addr) : Prop := False
section
variable {w : World} {hb h h' h'' : Heap} {F : List Env} {Z Z' Z'' : Addr → Prop} {ρ ρ' ρ'' : List Addr} {σ σ' : Sto} {ex ex' : Addr → Prop}
theorem get_none_of {h h' : Heap} (l : ∀ a o, h.get? a = some o → ∃ o', h'.get? a = some o') {a : Addr} (e : h'.get? a = none) : h.get? a = none := by
  cases q : h.get? a with
  | none => rfl
  | some o => obtain ⟨o', x⟩ := l a o q; rw [e] at x; cases x
theorem get_size (h : Heap) : h.get? h.objs.size = none := by
  cases q : h.get? h.objs.size with
  | none => rfl
  | some o => exact absurd (Heap.lt_size q) (Nat.lt_irrefl _)
theorem Post.refl : Post ex h Z ρ h Z ρ := ⟨fun zz o e => ⟨o, e⟩, ⟨[], by simp, by simp⟩, fun zz z => z, fun zz z => .inl z, fun a o e zz zz => ⟨o, e, Chg.refl⟩⟩
theorem Post.trans (x : Post ex h Z ρ h' Z' ρ') (y : Post ex h' Z' ρ' h'' Z'' ρ'') : Post ex h Z ρ h'' Z'' ρ'' := by
  obtain ⟨e1, r1, b1⟩ := x.ext
  obtain ⟨e2, r2, b2⟩ := y.ext
  refine ⟨fun a o e => ?_, ⟨e1 ++ e2, by rw [r2, r1, List.append_assoc], fun a ha => ?_⟩, fun a z => y.zx a (x.zx a z), fun a z => ?_, fun a o e n ne => ?_⟩
  · obtain ⟨o1, h1⟩ := x.live a o e
    exact y.live a o1 h1
  · rcases List.mem_append.mp ha with q | q
    · exact b1 a q
    · exact get_none_of x.live (b2 a q)
  · rcases y.zn a z with q | q
    · exact x.zn a q
    · exact .inr (get_none_of x.live q)
  · obtain ⟨o1, h1, c1⟩ := x.keep a o e n ne
    have n' : a ∉ ρ' := by
      rw [r1]
      intro q
      rcases List.mem_append.mp q with q | q
      · exact n q
      · rw [b1 a q] at e; cases e
    obtain ⟨o2, h2, c2⟩ := y.keep a o1 h1 n' ne
    refine ⟨o2, h2, c1.trans c2 fun z => ?_⟩
    rcases x.zn a z with q | q
    · exact q
    · rw [q] at e; cases e
theorem Post.weaken (x : Post ex h Z ρ h' Z' ρ') (hex : ∀ a, ex a → ex' a) : Post ex' h Z ρ h' Z' ρ' :=
  ⟨x.live, x.ext, x.zx, x.zn, fun a o e n ne => x.keep a o e n fun q => ne (hex a q)⟩
theorem Post.no (x : Post no h Z ρ h' Z' ρ') : Post ex h Z ρ h' Z' ρ' := x.weaken fun zz q => q.elim
theorem Post.rho (x : Post ex h Z ρ h' Z' ρ') (i : Nat) (a : Nat) (e : ρ[i]? = some a) : ρ'[i]? = some a := by
  obtain ⟨e1, r1, _⟩ := x.ext
  rw [r1, List.getElem?_append_left (List.getElem?_eq_some_iff.mp e).1]; exact e
theorem Post.std (x : Post ex h Z ρ h' Z' ρ') (S : St w hb F h Z ρ σ) (hex : ∀ a, Z a → ¬ ex a) : Std h Z h' := fun a o z e => by
  obtain ⟨o', e', c⟩ := x.keep a o e (fun q => S.sep a q z) (hex a z)
  exact ⟨o', e', c.imp fun zz => trivial⟩
theorem Post.rel (x : Post ex h Z ρ h' Z' ρ') (S : St w hb F h Z ρ σ) {v : AV} {u : Value} (r : VRel h Z ρ v u) (hex : ∀ a, Z a → ¬ ex a := by exact fun zz zz => id) : VRel h' Z' ρ' v u := r.mono x.zx x.rho (x.std S hex)
theorem Post.rels (x : Post ex h Z ρ h' Z' ρ') (S : St w hb F h Z ρ σ) {v : List AV} {u : List Value} (r : VRels h Z ρ v u) (hex : ∀ a, Z a → ¬ ex a := by exact fun zz zz => id) : VRels h' Z' ρ' v u := r.mono x.zx x.rho (x.std S hex)
theorem bnd_mono {n m : Nat} (hnm : n ≤ m) : ∀ {x : AV}, bnd n x = true → bnd m x = true := by
  have go : (∀ x : AV, bnd n x = true → bnd m x = true) ∧ ∀ xs : List AV, bnds n xs = true → bnds m xs = true := by
    refine ⟨fun x => ?_, fun xs => ?_⟩
    · refine AV.rec (motive_1 := fun x => bnd n x = true → bnd m x = true) (motive_2 := fun xs => bnds n xs = true → bnds m xs = true) ?_ ?_ ?_ ?_ ?_ ?_ ?_ ?_ ?_ ?_ ?_ ?_ ?_ ?_ ?_ x <;> try (intros; rfl)
      · exact fun xs ih => ih
      · exact fun xs ih => ih
      · exact fun i b => Nat.blt_eq.mpr (Nat.lt_of_lt_of_le (Nat.blt_eq.mp b) hnm)
      · exact fun c ks vs ih => ih
      · exact fun k x ih => ih
      · exact fun x xs ih ihs b => by
          simp only [bnds, Bool.and_eq_true] at b ⊢
          exact ⟨ih b.1, ihs b.2⟩
    · refine AV.rec_1 (motive_1 := fun x => bnd n x = true → bnd m x = true) (motive_2 := fun xs => bnds n xs = true → bnds m xs = true) ?_ ?_ ?_ ?_ ?_ ?_ ?_ ?_ ?_ ?_ ?_ ?_ ?_ ?_ ?_ xs <;> try (intros; rfl)
      · exact fun xs ih => ih
      · exact fun xs ih => ih
      · exact fun i b => Nat.blt_eq.mpr (Nat.lt_of_lt_of_le (Nat.blt_eq.mp b) hnm)
      · exact fun c ks vs ih => ih
      · exact fun k x ih => ih
      · exact fun x xs ih ihs b => by
          simp only [bnds, Bool.and_eq_true] at b ⊢
          exact ⟨ih b.1, ihs b.2⟩
  exact fun {x} => go.1 x
theorem ORel.mono (hZ : ∀ a, Z a → Z' a) (hρ : ∀ (i a : Nat), ρ[i]? = some a → ρ'[i]? = some a) (hl : ρ.length ≤ ρ'.length) (hs : Std h Z h') {ao : AO} {o : Obj} (r : ORel w h Z ρ ao o) : ORel w h' Z' ρ' ao o := by
  cases ao with
  | list xs => obtain ⟨vs, n, e, r, z⟩ := r; exact ⟨vs, n, e, r.mono hZ hρ hs, z⟩
  | ns kvs => obtain ⟨vs, n, e, r, z⟩ := r; exact ⟨vs, n, e, r.mono hZ hρ hs, z⟩
  | inst c d => obtain ⟨a, e, r⟩ := r; exact ⟨a, hρ d a e, r⟩
  | dict kvs => obtain ⟨f, m, a, b, c⟩ := r; exact ⟨f, m, fun k v e => let ⟨val, p, q⟩ := a k v e; ⟨val, p, q.mono hZ hρ hs⟩, b, fun v hv => bnd_mono hl (c v hv)⟩
  | idict ks => exact r
theorem FrameOk.post (S : St w hb F h Z ρ σ) (x : Post ex h Z ρ h' Z' ρ') {e : Env} (f : FrameOk hb h Z ρ e) (hex : ∀ L, e.frame = some L → ¬ ex L := by exact fun zz zz => id) : FrameOk hb h' Z' ρ' e := by
  obtain ⟨k, L, o, a, b, c, d, g, cl, nf⟩ := f
  obtain ⟨o', g', q⟩ := x.keep L o g c (hex L a)
  have dt := (q.imp fun z => (d z)).data
  have cl' : o'.cls = .type "frame" := by
    unfold Chg at q
    rw [if_pos cl] at q
    exact q.1.trans cl
  refine ⟨k, L, o', a, b, ?_, ?_, g', cl', fun vs => dt ▸ nf vs⟩
  · obtain ⟨e1, r1, b1⟩ := x.ext
    rw [r1]
    intro m
    rcases List.mem_append.mp m with m | m
    · exact c m
    · rw [b1 L m] at g; cases g
  · intro z
    rcases x.zn L z with z | z
    · exact d z
    · rw [z] at g; cases g
theorem post_push (o : Obj) : Post ex h Z ρ (h.push o) Z ρ :=
  ⟨fun zz o' e => ⟨o', Heap.get?_push_of_some o e⟩, ⟨[], by simp, by simp⟩, fun zz z => z, fun zz z => .inl z, fun a o' e zz zz => ⟨o', Heap.get?_push_of_some o e, Chg.refl⟩⟩
theorem std_push (o : Obj) : Std h Z (h.push o) := fun a o' zz e => ⟨o', Heap.get?_push_of_some o e, Chg.refl⟩
theorem FrameOk.push {e : Env} (f : FrameOk hb h Z ρ e) (o : Obj) : FrameOk hb (h.push o) Z ρ e := by
  obtain ⟨k, L, x, a, b, c, d, g, nf⟩ := f
  exact ⟨k, L, x, a, b, c, d, Heap.get?_push_of_some o g, nf⟩
theorem St.push (S : St w hb F h Z ρ σ) (o : Obj) : St w hb F (h.push o) Z ρ σ :=
  ⟨fun a x e => Heap.get?_push_of_some o (S.base a x e), S.len, S.nd, S.sep, S.nb, fun a z => let ⟨x, e⟩ := S.zl a z; ⟨x, Heap.get?_push_of_some o e⟩,
    fun i ao e => let ⟨a, x, r, g, q⟩ := S.ob i ao e; ⟨a, x, r, Heap.get?_push_of_some o g, q.mono (fun zz z => z) (fun zz zz e => e) (Nat.le_refl _) (std_push o)⟩, fun e m => (S.fr e m).push o⟩
noncomputable def ZP (Z : Addr → Prop) (b : Addr) : Addr → Prop := fun a => Z a ∨ a = b
theorem post_pushZ (o : Obj) : Post ex h Z ρ (h.push o) (ZP Z h.objs.size) ρ :=
  ⟨fun zz o' e => ⟨o', Heap.get?_push_of_some o e⟩, ⟨[], by simp, by simp⟩, fun zz z => .inl z, fun a z => by
    rcases z with z | q
    · exact .inl z
    · exact .inr (q ▸ get_size h), fun a o' e zz zz => ⟨o', Heap.get?_push_of_some o e, Chg.refl⟩⟩
theorem St.mem_get (S : St w hb F h Z ρ σ) {a : Addr} (m : a ∈ ρ) : ∃ o, h.get? a = some o := by
  obtain ⟨i, hi, rfl⟩ := List.getElem_of_mem m
  have : i < σ.length := S.len ▸ hi
  obtain ⟨a, o, r, g, _⟩ := S.ob i σ[i] (List.getElem?_eq_getElem this)
  rw [List.getElem?_eq_getElem hi] at r
  cases r
  exact ⟨o, g⟩
theorem St.mem_lt (S : St w hb F h Z ρ σ) {a : Addr} (m : a ∈ ρ) : a < h.objs.size := let ⟨_, g⟩ := S.mem_get m; Heap.lt_size g
theorem St.z_lt (S : St w hb F h Z ρ σ) {a : Addr} (z : Z a) : a < h.objs.size := let ⟨_, e⟩ := S.zl a z; Heap.lt_size e
theorem St.base_size (S : St w hb F h Z ρ σ) : hb.get? h.objs.size = none := by
  cases q : hb.get? h.objs.size with
  | none => rfl
  | some o => exact absurd (Heap.lt_size (S.base _ o q)) (Nat.lt_irrefl _)
theorem FrameOk.lt {e : Env} (f : FrameOk hb h Z ρ e) : ∃ L, e.frame = some L ∧ L < h.objs.size := by
  obtain ⟨k, L, x, a, b, c, d, g, nf⟩ := f
  exact ⟨L, a, Heap.lt_size g⟩
theorem FrameOk.pushZ {e : Env} (f : FrameOk hb h Z ρ e) (o : Obj) : FrameOk hb (h.push o) (ZP Z h.objs.size) ρ e := by
  obtain ⟨k, L, x, a, b, c, d, g, nf⟩ := f
  exact ⟨k, L, x, a, b, c, fun z => z.elim d fun q => absurd (q ▸ Heap.lt_size g) (Nat.lt_irrefl _), Heap.get?_push_of_some o g, nf⟩
theorem St.pushZ (S : St w hb F h Z ρ σ) {o : Obj} (hf : o.isFreed = false) : St w hb F (h.push o) (ZP Z h.objs.size) ρ σ :=
  ⟨fun a x e => Heap.get?_push_of_some o (S.base a x e), S.len, S.nd,
    fun a m z => z.elim (S.sep a m) fun q => absurd (q ▸ S.mem_lt m) (Nat.lt_irrefl _),
    fun a m => m.elim (fun m => S.nb a (.inl m)) fun z => z.elim (fun z => S.nb a (.inr z)) fun q => q ▸ S.base_size,
    fun a z => z.elim (fun z => let ⟨x, e⟩ := S.zl a z; ⟨x, Heap.get?_push_of_some o e⟩) fun q => ⟨o, q ▸ Heap.get?_push_size _ hf⟩,
    fun i ao e => let ⟨a, x, r, g, q⟩ := S.ob i ao e; ⟨a, x, r, Heap.get?_push_of_some o g, q.mono (fun zz z => .inl z) (fun zz zz e => e) (Nat.le_refl _) (std_push o)⟩, fun e m => (S.fr e m).pushZ o⟩
theorem post_pushO (o : Obj) : Post ex h Z ρ (h.push o) Z (ρ ++ [h.objs.size]) :=
  ⟨fun zz o' e => ⟨o', Heap.get?_push_of_some o e⟩, ⟨[h.objs.size], rfl, by simp [get_size]⟩, fun zz z => z, fun zz z => .inl z, fun a o' e zz zz => ⟨o', Heap.get?_push_of_some o e, Chg.refl⟩⟩
theorem rho_app {b : Addr} {i : Nat} {a : Addr} (e : ρ[i]? = some a) : (ρ ++ [b])[i]? = some a := by
  rw [List.getElem?_append_left (List.getElem?_eq_some_iff.mp e).1]; exact e
theorem FrameOk.pushO {e : Env} (f : FrameOk hb h Z ρ e) (o : Obj) : FrameOk hb (h.push o) Z (ρ ++ [h.objs.size]) e := by
  obtain ⟨k, L, x, a, b, c, d, g, nf⟩ := f
  refine ⟨k, L, x, a, b, fun m => ?_, d, Heap.get?_push_of_some o g, nf⟩
  rcases List.mem_append.mp m with m | m
  · exact c m
  · simp at m; subst m; exact absurd (Heap.lt_size g) (Nat.lt_irrefl _)
theorem St.pushO (S : St w hb F h Z ρ σ) {o : Obj} {ao : AO} (hf : o.isFreed = false) (r : ORel w (h.push o) Z (ρ ++ [h.objs.size]) ao o) : St w hb F (h.push o) Z (ρ ++ [h.objs.size]) (σ ++ [ao]) :=
  ⟨fun a x e => Heap.get?_push_of_some o (S.base a x e), by simp [S.len],
    by
      rw [List.nodup_append]
      exact ⟨S.nd, by simp, fun a m b hb => by simp at hb; subst hb; exact Nat.ne_of_lt (S.mem_lt m)⟩,
    fun a m z => by
      rcases List.mem_append.mp m with m | m
      · exact S.sep a m z
      · simp at m; subst m; exact absurd (S.z_lt z) (Nat.lt_irrefl _),
    fun a m => m.elim (fun m => by
      rcases List.mem_append.mp m with m | m
      · exact S.nb a (.inl m)
      · simp at m; subst m; exact S.base_size) fun z => S.nb a (.inr z),
    fun a z => let ⟨x, e⟩ := S.zl a z; ⟨x, Heap.get?_push_of_some o e⟩,
    fun i ao' e => by
      by_cases hi : i < σ.length
      · rw [List.getElem?_append_left hi] at e
        obtain ⟨a, x, r', g, q⟩ := S.ob i ao' e
        exact ⟨a, x, rho_app r', Heap.get?_push_of_some o g, q.mono (fun zz z => z) (fun zz zz e => rho_app e) (by simp) (std_push o)⟩
      · have : i = σ.length := by
          have := (List.getElem?_eq_some_iff.mp e).1
          simp at this; lia
        subst this
        rw [List.getElem?_append_right (Nat.le_refl _)] at e
        simp at e
        subst e
        exact ⟨h.objs.size, o, by rw [← S.len, List.getElem?_append_right (Nat.le_refl _)]; simp, Heap.get?_push_size _ hf, r⟩, fun e m => (S.fr e m).pushO o⟩
theorem post_upd {i : Nat} {a : Addr} {o' : Obj} (hi : ρ[i]? = some a) (hs : Heap.SameBut a h h') (ho : h'.get? a = some o') : Post ex h Z ρ h' Z ρ :=
  ⟨fun b o e => by
    by_cases q : b = a
    · exact ⟨o', q ▸ ho⟩
    · exact ⟨o, (hs.2 b q).trans e⟩, ⟨[], by simp, by simp⟩, fun zz z => z, fun zz z => .inl z, fun b o e n zz => ⟨o, (hs.2 b fun q => n (q ▸ List.mem_of_getElem? hi)).trans e, Chg.refl⟩⟩
theorem std_upd (S : St w hb F h Z ρ σ) {i : Nat} {a : Addr} (hi : ρ[i]? = some a) (hs : Heap.SameBut a h h') : Std h Z h' :=
  fun b o z e => ⟨o, (hs.2 b fun q => S.sep b (q ▸ List.mem_of_getElem? hi) z).trans e, Chg.refl⟩
theorem St.upd (S : St w hb F h Z ρ σ) {i : Nat} {a : Addr} {o' : Obj} {ao : AO} (hi : ρ[i]? = some a) (hs : Heap.SameBut a h h') (ho : h'.get? a = some o') (r : ORel w h' Z ρ ao o') : St w hb F h' Z ρ (σ.set i ao) := by
  have sd := std_upd S hi hs
  have hb' := S.nb a (.inl (List.mem_of_getElem? hi))
  refine ⟨fun b x e => (hs.2 b fun q => ?_).trans (S.base b x e), by simp [S.len], S.nd, S.sep, S.nb, fun b z => let ⟨x, e⟩ := S.zl b z; let ⟨x', e', _⟩ := sd b x z e; ⟨x', e'⟩, fun j ao' e => ?_, fun e m => ?_⟩
  · rw [q, hb'] at e; cases e
  · by_cases hj : i = j
    · subst hj
      have : i < σ.length := S.len ▸ (List.getElem?_eq_some_iff.mp hi).1
      rw [List.getElem?_set_self this] at e
      cases e
      exact ⟨a, o', hi, ho, r⟩
    · rw [List.getElem?_set_ne hj] at e
      obtain ⟨b, x, rb, g, q⟩ := S.ob j ao' e
      refine ⟨b, x, rb, (hs.2 b fun q => ?_).trans g, q.mono (fun zz z => z) (fun zz zz e => e) (Nat.le_refl _) sd⟩
      subst q
      exact hj ((List.getElem?_inj (List.getElem?_eq_some_iff.mp hi).1 S.nd).mp (hi.trans rb.symm))
  · exact (S.fr e m).post S (post_upd (ex := no) hi hs ho)
theorem St.step (S : St w hb F h Z ρ σ) (hold : ∀ a o, h.get? a = some o → (a ∈ ρ ∨ Z a ∨ ∃ o0, hb.get? a = some o0) → h'.get? a = some o) (hfr : ∀ e ∈ F, FrameOk hb h' Z ρ e) : St w hb F h' Z ρ σ := by
  have sd : Std h Z h' := fun a o z e => ⟨o, hold a o e (.inr (.inl z)), Chg.refl⟩
  exact ⟨fun a o e => hold a o (S.base a o e) (.inr (.inr ⟨o, e⟩)), S.len, S.nd, S.sep, S.nb, fun a z => let ⟨x, e⟩ := S.zl a z; ⟨x, hold a x e (.inr (.inl z))⟩,
    fun i ao e => let ⟨a, o, r, g, q⟩ := S.ob i ao e; ⟨a, o, r, hold a o g (.inl (List.mem_of_getElem? r)), q.mono (fun zz z => z) (fun zz zz e => e) (Nat.le_refl _) sd⟩, hfr⟩
theorem St.ob_at {i : Nat} {ao : AO} {x : Addr} (S : St w hb F h Z ρ σ) (e : σ[i]? = some ao) (el : ρ[i]? = some x) : ∃ o, h.get? x = some o ∧ ORel w h Z ρ ao o := by
  obtain ⟨a, o, r, g, q⟩ := S.ob i ao e
  rw [el] at r
  cases r
  exact ⟨o, g, q⟩
theorem St.list_el {P : Prop} {l : Nat} {xs : List AV} {x : Addr} (S : St w hb F h Z ρ σ) (e : σ[l]? = some (.list xs)) (el : ρ[l]? = some x) (k : ∀ vs n, h.get? x = some (lstO vs n) → VRels h Z ρ xs vs → xs.length ≤ 20000 → P) : P := by
  obtain ⟨o, g, vs, n, rfl, r, z⟩ := S.ob_at e el
  exact k vs n g r z
theorem St.inst_el {P : Prop} {i c d : Nat} {x : Addr} (S : St w hb F h Z ρ σ) (e : σ[i]? = some (.inst c d)) (el : ρ[i]? = some x) (k : ∀ dd, ρ[d]? = some dd → h.get? x = some (instObj (CA c) dd) → ClsN c → P) : P := by
  obtain ⟨o, g, dd, r, rfl, z⟩ := S.ob_at e el
  exact k dd r g z
theorem St.ns_el {P : Prop} {d : Nat} {kvs : List (Nat × AV)} {x : Addr} (S : St w hb F h Z ρ σ) (e : σ[d]? = some (.ns kvs)) (el : ρ[d]? = some x) (k : ∀ es n, h.get? x = some (dictOf es n) → FRel h Z ρ (kvs.map (·.1)) (kvs.map (·.2)) es → kvs.length ≤ 20 → P) : P := by
  obtain ⟨o, g, es, n, rfl, r, z⟩ := S.ob_at e el
  exact k es n g r z
theorem St.attr_el {P : Prop} {i c d : Nat} {kvs : List (Nat × AV)} {x : Addr} (S : St w hb F h Z ρ σ) (e : σ[i]? = some (.inst c d)) (e2 : σ[d]? = some (.ns kvs)) (el : ρ[i]? = some x)
    (k : ∀ dd es n, ρ[d]? = some dd → h.get? x = some (instObj (CA c) dd) → ClsN c → h.get? dd = some (dictOf es n) → FRel h Z ρ (kvs.map (·.1)) (kvs.map (·.2)) es → kvs.length ≤ 20 → P) : P :=
  S.inst_el e el fun dd r g z => S.ns_el e2 r fun es n g2 f z2 => k dd es n r g z g2 f z2
theorem St.dict_el {P : Prop} {l : Nat} {kvs : List (Nat × AV)} {x : Addr} (S : St w hb F h Z ρ σ) (e : σ[l]? = some (.dict kvs)) (el : ρ[l]? = some x) (k : ∀ o (D : List (Str × Value)), h.get? x = some o → o.IsDictOf (PySem.strKind pw w) D → D.length ≤ 1000 → (∀ k v, nsLk kvs k = some v → ∃ val, valueAt D (TT k) = some val ∧ VRel h Z ρ v val) → (kvs = [] → ∃ n, o = dictOf [] n) → (∀ v ∈ kvs, bnd ρ.length v.2 = true) → P) : P := by
  obtain ⟨o, g, D, ⟨a, b⟩, c, d, e⟩ := S.ob_at e el
  exact k o D g a b c d e
theorem St.idict_el {P : Prop} {l : Nat} {ks : List Int} {x : Addr} (S : St w hb F h Z ρ σ) (e : σ[l]? = some (.idict ks)) (el : ρ[l]? = some x) (k : ∀ o (D : List (Int × Value)), h.get? x = some o → o.IsDictOf (PySem.intKind pw w) D → D.map (·.1) = ks → ks.length ≤ 10000 → P) : P := by
  obtain ⟨o, g, D, a, b, c⟩ := S.ob_at e el
  exact k o D g a b c
theorem FRel.key_at {ks : List Nat} {fs : List AV} {es : List DictEntry} (r : FRel h Z ρ ks fs es) {i : Nat} {e : DictEntry} (he : es[i]? = some e) : ∃ k t, ks[i]? = some k ∧ e.key = .str (TT k) t := by
  induction ks generalizing fs es i with
  | nil => obtain ⟨rfl, rfl⟩ := r.nil_inv; exact non he
  | cons k ks ih =>
    obtain ⟨x, gs, en, ds, t, rfl, rfl, hk, _, rs⟩ := r.cons_inv
    cases i with
    | zero => obtain rfl := Option.some.inj he; exact ⟨k, t, rfl, hk⟩
    | succ i => exact ih rs he
theorem asT_ex {u : AV} {xs : List AV} (e : asT u = some xs) : u = .tup xs := by
  cases u with
  | tup ys => exact congrArg AV.tup (Option.some.inj e)
  | _ => exact non e
theorem asL_ex {u : AV} {xs : List AV} (e : asL u = some xs) : u = .lst xs := by
  cases u with
  | lst ys => exact congrArg AV.lst (Option.some.inj e)
  | _ => exact non e
theorem asI_ex {u : AV} {i : Int} (e : asI u = some i) : u = .int i := by
  cases u with
  | int j => exact congrArg AV.int (Option.some.inj e)
  | _ => exact non e
theorem VRel.rng_inv {a b : Int} {v : Value} (r : VRel h Z ρ (.rng a b) v) : ∃ x t u w, v = .ref x ∧ Z x ∧ h.get? x = some { cls := .type "range", data := .fields #[.int a t, .int b u, .int 1 w] } := by
  cases r
  exact ⟨_, _, _, _, rfl, by assumption, by assumption⟩
theorem VRel.loc_ref {i : Nat} {x : Addr} (r : VRel h Z ρ (.loc i) (.ref x)) : ρ[i]? = some x := by
  obtain ⟨a, e, q⟩ := r.loc_inv
  cases e
  exact q
theorem VRel.lst_ref {P : Prop} {xs : List AV} {x : Addr} (r : VRel h Z ρ (.lst xs) (.ref x)) (k : ∀ vs n, h.get? x = some (lstO vs n) → VRels h Z ρ xs vs → xs.length ≤ 20000 → Z x → P) : P := by
  obtain ⟨a, vs, n, e, l, z, g, q⟩ := r.lst_inv
  cases e
  exact k vs n g q l z
theorem VRel.tup_ref {P : Prop} {xs : List AV} {x : Addr} (r : VRel h Z ρ (.tup xs) (.ref x)) (k : ∀ vs n, h.get? x = some (tupO vs n) → VRels h Z ρ xs vs → xs.length ≤ 20000 → Z x → P) : P := by
  obtain ⟨a, vs, n, e, l, z, g, q⟩ := r.tup_inv
  cases e
  exact k vs n g q l z
end
end Mine
end
section
open PySem PySem.W PyProof.Rows PySem.Calls
namespace Mine
structure Bs (w : World) (hb : Heap) : Prop where
  k : (K w.params).In hb
  g : ∃ mg, hb.Ns mainGlobals mg
  b : ∃ mb, hb.Ns builtinsNs mb ∧ ∀ x : Str, x ≠ "__name__" → mb x = bootBuiltins x
  lim : hb.NoLimit
theorem Bs.K {w : World} {hb h : Heap} (B : Bs w hb) (st : ∀ a o, hb.get? a = some o → h.get? a = some o) : (Mine.K w.params).In h := B.k.keeps st
noncomputable def glOk (P : Params) (p : Nat × Value) : Bool := match p.2 with
  | .ref _ => (Nat.ble 299 p.1 || Nat.beq p.1 298 || nsIn (K P) mainGlobals (TT p.1) == some (some p.2))
  | _ => nsIn (K P) mainGlobals (TT p.1) == some none && (bootBuiltins (TT p.1) == some p.2 && handedIn p.2)
theorem gl_ok : ∀ P : Params, (GL.map (glOk P)) = GL.map fun zz => true := by intro P; kernel_rfl

theorem gl_at (P : Params) {k : Nat} {v : Value} (e : GL.lookup k = some v) : glOk P (k, v) = true := by
  have mem : ∀ {l : List (Nat × Value)}, l.lookup k = some v → (k, v) ∈ l := by
    intro l
    induction l with
    | nil => intro e; cases e
    | cons p r ih =>
      intro e
      obtain ⟨a, b⟩ := p
      rw [List.lookup_cons] at e
      cases q : k == a with
      | true => rw [q] at e; cases e; rw [beq_iff_eq.mp q]; exact .head _
      | false => rw [q] at e; exact .tail _ (ih e)
  have h := gl_ok P
  have m := mem e
  obtain ⟨i, hi, e2⟩ := List.getElem_of_mem m
  have := congrArg (fun l => l[i]?) h
  simp only [List.getElem?_map, List.getElem?_eq_getElem hi, e2, Option.map_some] at this
  exact Option.some.inj this
theorem TT_ne {s : Str} (h1 : TL.all (fun t => (Nat.beq (scode t) (scode s)).not) = true) (h2 : s.cps.toList.all (fun c => Nat.blt c 2000000) = true) (k : Nat) : (TT k == s) = false := by
  rw [beq_eq_false_iff_ne]
  intro e
  unfold TT at e
  cases q : TL[k]? with
  | none =>
    rw [q] at e
    subst e
    have h3 := List.all_eq_true.mp h2 (k + 2000000) (by simp)
    have h4 := Nat.blt_eq.mp h3
    lia
  | some t =>
    rw [q] at e
    have h3 := List.all_eq_true.mp h1 t (List.mem_of_getElem? q)
    subst e
    simp at h3
theorem TT_debug (k : Nat) : (TT k == ("__debug__" : Str)) = false := TT_ne (by decide +kernel) (by decide +kernel) k
theorem TT_classdict (k : Nat) : (TT k == ("__classdict__" : Str)) = false := TT_ne (by decide +kernel) (by decide +kernel) k
theorem TT_name (k : Nat) : (TT k == ("__name__" : Str)) = false := TT_ne (by decide +kernel) (by decide +kernel) k
structure FrOk (env : Env) (ns : List (Str × NameKind)) : Prop where
  names : env.scope.names = ns
  kind : env.scope.kind = .function
  glob : env.globals = mainGlobals
  blt : env.builtins = builtinsNs
  apart : env.cells.Pairwise fun x y => x.2 ≠ y.2
  off : ∀ n c, (n, c) ∈ env.cells → c ≠ env.locals
  cell : ∀ n, ns.lookup n = some .cell ∨ ns.lookup n = some .free → ∃ c, env.cells.lookup n = some c
noncomputable def own (env : Env) (a : Addr) : Prop := a = env.locals ∨ ∃ n, (n, a) ∈ env.cells
noncomputable def LRel (h : Heap) (Z : Addr → Prop) (ρ : List Addr) (env : Env) (l : Loc) : Prop :=
  ∃ (m cm : Str → Option Value), h.Ns env.locals m ∧ (∀ n c, env.cells.lookup n = some c → h.IsCell c (cm n)) ∧
    ∀ x v, nsLk l x = some v → ∃ val, VRel h Z ρ v val ∧ (env.kindOf (TT x) = some .local → m (TT x) = some val) ∧ (env.kindOf (TT x) ≠ some .local → cm (TT x) = some val)
structure In (w : World) (hb : Heap) (F : List Env) (h : Heap) (Z : Addr → Prop) (ρ : List Addr) (σ : Sto) (env : Env) (l : Loc) : Prop where
  st : St w hb F h Z ρ σ
  lr : LRel h Z ρ env l
  lo : ∀ a, own env a → hb.get? a = none ∧ a ∉ ρ ∧ ¬ Z a ∧ ∃ o, h.get? a = some o
section
variable {w : World} {hb h h' h'' : Heap} {F : List Env} {Z Z' Z'' : Addr → Prop} {ρ ρ' ρ'' : List Addr} {σ σ' : Sto} {ex ex' : Addr → Prop} {env : Env} {l : Loc} {ns : List (Str × NameKind)}
theorem Post.data (x : Post ex h Z ρ h' Z' ρ') {a : Addr} {o : Obj} (e : h.get? a = some o) (n : a ∉ ρ) (nz : ¬ Z a) (ne : ¬ ex a) : ∃ o', h'.get? a = some o' ∧ o'.data = o.data := by
  obtain ⟨o', e', c⟩ := x.keep a o e n ne
  exact ⟨o', e', (c.imp fun z => (nz z)).data⟩
theorem Post.nsK (x : Post ex h Z ρ h' Z' ρ') {a : Addr} {m : Str → Option Value} (e : h.Ns a m) (n : a ∉ ρ) (nz : ¬ Z a) (ne : ¬ ex a) : h'.Ns a m := by
  obtain ⟨o, es, ep, ho, hd, r⟩ := e
  obtain ⟨o', e', d⟩ := x.data ho n nz ne
  exact ⟨o', es, ep, e', d.trans hd, r⟩
theorem Post.cell (x : Post ex h Z ρ h' Z' ρ') {a : Addr} {v : Option Value} (e : h.IsCell a v) (n : a ∉ ρ) (nz : ¬ Z a) (ne : ¬ ex a) : h'.IsCell a v := by
  obtain ⟨o, ho, hd⟩ := e
  obtain ⟨o', e', d⟩ := x.data ho n nz ne
  exact ⟨o', e', d.trans hd⟩
theorem own_loc : own env env.locals := .inl rfl
theorem own_cell {n : Str} {c : Addr} (e : env.cells.lookup n = some c) : own env c := .inr ⟨n, mem_of_lookup e⟩
theorem LRel.post (I : In w hb F h Z ρ σ env l) (x : Post no h Z ρ h' Z' ρ') : LRel h' Z' ρ' env l := by
  obtain ⟨m, cm, a, b, c⟩ := I.lr
  refine ⟨m, cm, x.nsK a (I.lo _ own_loc).2.1 (I.lo _ own_loc).2.2.1 id, fun n c e => x.cell (b n c e) (I.lo _ (own_cell e)).2.1 (I.lo _ (own_cell e)).2.2.1 id, fun y v e => ?_⟩
  obtain ⟨val, r, p, q⟩ := c y v e
  exact ⟨val, x.rel I.st r, p, q⟩
theorem In.step (I : In w hb F h Z ρ σ env l) (x : Post no h Z ρ h' Z' ρ') (S' : St w hb F h' Z' ρ' σ') : In w hb F h' Z' ρ' σ' env l := by
  refine ⟨S', LRel.post I x, fun a o => ?_⟩
  obtain ⟨b, n, z, ob, lt⟩ := I.lo a o
  obtain ⟨e, r, be⟩ := x.ext
  refine ⟨b, ?_, ?_, x.live a ob lt⟩
  · rw [r]
    intro q
    rcases List.mem_append.mp q with q | q
    · exact n q
    · rw [be a q] at lt; cases lt
  · intro q
    rcases x.zn a q with q | q
    · exact z q
    · rw [q] at lt; cases lt
noncomputable def Fly (h0 h : Heap) (Z : Addr → Prop) (ρ : List Addr) (e : Value) : Prop :=
  ∃ x o vs, e = .ref x ∧ h0.get? x = none ∧ x ∉ ρ ∧ ¬ Z x ∧ h.get? x = some o ∧ o.cls = .ref 504 ∧ o.data = .fields vs ∧
    (vs[1]? = some .none ∨ ∃ tb ob tvs, vs[1]? = some (.ref tb) ∧ h0.get? tb = none ∧ tb ≠ x ∧ tb ∉ ρ ∧ ¬ Z tb ∧ h.get? tb = some ob ∧ ob.data = .fields tvs ∧ tvs[3]? = some .none)
theorem Fly.after {h0 h1 : Heap} {e : Value} (f : Fly h1 h Z ρ e) (lv : ∀ a o, h0.get? a = some o → ∃ o', h1.get? a = some o') : Fly h0 h Z ρ e := by
  obtain ⟨x, o, vs, a, b, c, d, g, i, j, k⟩ := f
  exact ⟨x, o, vs, a, get_none_of lv b, c, d, g, i, j, k.imp id fun q => q.elim fun tb q => q.elim fun ob q => q.elim fun tvs q => ⟨tb, ob, tvs, q.1, get_none_of lv q.2.1, q.2.2⟩⟩
end
structure AOk (r : Nat) (F : List Env) (A : Around) : Prop where
  hd : A.handled = none
  dep : A.depth + 3 * r ≤ 900
  un : A.units + 20 * r ≤ 9000
  fr : A.frames = some F
noncomputable def Tr {α β : Type} (w : World) (hb : Heap) (F : List Env) (rel : Heap → (Addr → Prop) → List Addr → β → α → Prop) (A : Around) (env : Env) (l : Loc) (t : Sem α) (σ : Sto) (k : β → Sto → Prop) (X : KX) : Prop :=
  ∀ (s : Shared) (Z : Addr → Prop) (ρ : List Addr) (Q : α → Shared → Prop) (E : Value → Shared → Prop), In w hb F s.heap Z ρ σ env l →
    (∀ b σ' a h' Z' ρ' tk, k b σ' → In w hb F h' Z' ρ' σ' env l → rel h' Z' ρ' b a → Post no s.heap Z ρ h' Z' ρ' → Q a { s with heap := h', toks := tk }) →
    (∀ e σ' h' Z' ρ' tk, X σ' → Fly s.heap h' Z' ρ' e → In w hb F h' Z' ρ' σ' env l → Post no s.heap Z ρ h' Z' ρ' → E e { s with heap := h', toks := tk }) →
    wpAny (model pw w) A t Q E s
noncomputable abbrev VT (w : World) (hb : Heap) (F : List Env) (A : Around) (env : Env) (l : Loc) (t : Sem Value) (σ : Sto) (k : KE) (X : KX) : Prop := Tr w hb F VRel A env l t σ k X
noncomputable abbrev TrT (w : World) (hb : Heap) (F : List Env) (A : Around) (env : Env) (l : Loc) (t : Sem Bool) (σ : Sto) (k : KT) (X : KX) : Prop := Tr w hb F (fun zz zz zz b a => b = a) A env l t σ k X
section
variable {w : World} {hb : Heap} {F : List Env} {A : Around} {env : Env} {l : Loc} {σ : Sto} {X : KX} {ns : List (Str × NameKind)}
theorem done0 {α β : Type} {rel : Heap → (Addr → Prop) → List Addr → β → α → Prop} {s : Shared} {Z : Addr → Prop} {ρ : List Addr} {Q : α → Shared → Prop} {k : β → Sto → Prop} {a : α} {b : β} {tk : Nat} (I : In w hb F s.heap Z ρ σ env l)
    (hQ : ∀ b σ' a h' Z' ρ' tk, k b σ' → In w hb F h' Z' ρ' σ' env l → rel h' Z' ρ' b a → Post no s.heap Z ρ h' Z' ρ' → Q a { s with heap := h', toks := tk }) (hk : k b σ) (r : rel s.heap Z ρ b a) : Q a { s with toks := tk } :=
  hQ b σ a s.heap Z ρ tk hk I r Post.refl
theorem VT.cN {c pos} {k : KE} (h : k .none σ) : VT w hb F A env l (eval (.Constant .none c pos) env) σ k X := fun s Z ρ Q E I hQ zz => by
  show wpAny _ _ (pure Value.none) _ _ _
  exact wpAny_pure (done0 (tk := s.toks) I hQ h .none)
theorem VT.cB {b : Bool} {c pos} {k : KE} (h : k (.bool b) σ) : VT w hb F A env l (eval (.Constant (.bool b) c pos) env) σ k X := fun s Z ρ Q E I hQ zz => by
  show wpAny _ _ (pure (Value.bool b)) _ _ _
  exact wpAny_pure (done0 (tk := s.toks) I hQ h (.bool b))
theorem VT.cI {i : Int} {c pos} {k : KE} (h : k (.int i) σ) : VT w hb F A env l (eval (.Constant (.int i) c pos) env) σ k X := fun s Z ρ Q E I hQ zz =>
  wpAny_Constant_int (done0 I hQ h (.int i _))
theorem VT.cS {x : Nat} {c pos} {k : KE} (h : k (.str x) σ) : VT w hb F A env l (eval (.Constant (.str (TT x)) c pos) env) σ k X := fun s Z ρ Q E I hQ zz =>
  Constant_str (done0 I hQ h (.str x _))
theorem VT.nm {x : Nat} {pos} {k : KE} (fr : FrOk env ns) (hk : ns.lookup (TT x) = some .local ∨ ns.lookup (TT x) = some .cell ∨ ns.lookup (TT x) = some .free) (h : opt (nsLk l x) fun v => k v σ) :
    VT w hb F A env l (eval (.Name (TT x) pos) env) σ k X := fun s Z ρ Q E I hQ zz => by
  obtain ⟨v, e, hv⟩ := opt_ex h
  obtain ⟨m, cm, hm, hc, hl⟩ := I.lr
  obtain ⟨val, r, p, q⟩ := hl x v e
  have ek : env.kindOf (TT x) = ns.lookup (TT x) := by unfold Env.kindOf; rw [fr.names]
  refine wpAny_Name ?_ (TT_debug x)
  have fin : Q val s := done0 (tk := s.toks) I hQ hv r
  rcases hk with hk | hk | hk
  · exact wpAny_loadName_local fr.kind (ek.trans hk) hm (p (ek.trans hk)) fin
  · obtain ⟨c, hcl⟩ := fr.cell (TT x) (.inl hk)
    exact wpAny_loadName_cell fr.kind (ek.trans hk) hcl (q (by rw [ek, hk]; decide) ▸ hc _ _ hcl) fin
  · obtain ⟨c, hcl⟩ := fr.cell (TT x) (.inr hk)
    exact wpAny_loadName_free fr.kind (ek.trans hk) hcl (q (by rw [ek, hk]; decide) ▸ hc _ _ hcl) fin (TT_classdict x)
theorem nsIn_ints : ∀ P : Params, nsIn (K P) mainGlobals (TT 208) = some (some (.int 2147483647 1075)) ∧ nsIn (K P) mainGlobals (TT 209) = some (some (.int (Int.ofNat (Nat.pow 10 5000)) 1079)) := by
  intro P; constructor <;> kernel_rfl
theorem VT.gl {x : Nat} {pos} {k : KE} (B : Bs w hb) (fr : FrOk env ns) (hk : ns.lookup (TT x) = some .globalImplicit) (hx : ((GL.lookup x).isSome && Nat.blt x 298 || Nat.beq x 208 || Nat.beq x 209) = true) (h : k (GLV x) σ) :
    VT w hb F A env l (eval (.Name (TT x) pos) env) σ k X := fun s Z ρ Q E I hQ zz => by
  have ek : env.kindOf (TT x) = some .globalImplicit := by unfold Env.kindOf; rw [fr.names]; exact hk
  obtain ⟨mg, hg⟩ := B.g
  obtain ⟨mb, hmb, hbv⟩ := B.b
  have hg' : s.heap.Ns env.globals mg := by rw [fr.glob]; exact hg.keeps I.st.base
  have hb' : s.heap.Ns env.builtins mb := by rw [fr.blt]; exact hmb.keeps I.st.base
  refine Name_function_global fr.kind ek ?_ (TT_debug x)
  have gint : ∀ {i : Int} {t : Tok}, nsIn (K w.params) mainGlobals (TT x) = some (some (.int i t)) → GLV x = .int i → wpAny (model pw w) A (loadGlobal env (TT x)) Q E s := fun {i t} e1 e2 =>
    loadGlobal_global hg' (mg_of B.k hg e1) (done0 (tk := s.toks) I hQ h (e2 ▸ .int i t))
  by_cases h1 : x = 208
  · subst h1; exact gint (nsIn_ints _).1 rfl
  by_cases h2 : x = 209
  · subst h2
    refine gint (nsIn_ints _).2 ?_
    show AV.int mostD = _
    unfold mostD
    congr 1
  · have n1 : Nat.beq x 208 = false := by cases q : Nat.beq x 208 with | false => rfl | true => exact absurd (Nat.eq_of_beq_eq_true q) h1
    have n2 : Nat.beq x 209 = false := by cases q : Nat.beq x 209 with | false => rfl | true => exact absurd (Nat.eq_of_beq_eq_true q) h2
    rw [n1, n2, Bool.or_false, Bool.or_false, Bool.and_eq_true] at hx
    obtain ⟨v, hv⟩ := Option.isSome_iff_exists.mp hx.1
    have hl := Nat.blt_eq.mp hx.2
    have e2 : GLV x = .glob x := by unfold GLV; rw [if_neg h1, if_neg h2]
    rw [e2] at h
    have ok := gl_at w.params hv
    have fin : Q v s := done0 (tk := s.toks) I hQ h (.glob x v hv)
    unfold glOk at ok
    have nb1 : Nat.ble 299 x = false := by
      cases q : Nat.ble 299 x with
      | false => rfl
      | true => exact absurd (Nat.le_of_ble_eq_true q) (by lia)
    have nb2 : Nat.beq x 298 = false := by
      cases q : Nat.beq x 298 with
      | false => rfl
      | true => exact absurd (Nat.eq_of_beq_eq_true q) (by lia)
    have tb : (nsIn (K w.params) mainGlobals (TT x) == some none && (bootBuiltins (TT x) == some v && handedIn v)) = true → wpAny (model pw w) A (loadGlobal env (TT x)) Q E s := fun ok => by
      simp only [Bool.and_eq_true] at ok
      exact loadGlobal_builtin hg' (mg_none_of B.k hg (beq_iff_eq.mp ok.1)) hb' ((hbv _ (by have := TT_name x; rwa [beq_eq_false_iff_ne] at this)).trans (beq_iff_eq.mp ok.2.1)) fin
    cases v with
    | ref a =>
      simp only [nb1, nb2, Bool.false_or] at ok
      exact loadGlobal_global hg' (mg_of B.k hg (beq_iff_eq.mp ok)) fin
    | _ => exact tb ok
end
end Mine
end
section
open PySem PySem.W PyProof.Rows PySem.Calls
namespace Mine
noncomputable abbrev OpQ (w : World) (hb : Heap) (F : List Env) (s : Shared) (Z : Addr → Prop) (ρ : List Addr) (σ' : Sto) (r : AV) (Q : Value → Shared → Prop) : Prop :=
  ∀ a h' Z' ρ' tk, St w hb F h' Z' ρ' σ' → VRel h' Z' ρ' r a → Post no s.heap Z ρ h' Z' ρ' → Q a { s with heap := h', toks := tk }
section
variable {w : World} {hb : Heap} {F : List Env} {A : Around} {σ : Sto} {s : Shared} {Z : Addr → Prop} {ρ : List Addr} {Q : Value → Shared → Prop} {E : Value → Shared → Prop}
theorem OpQ.same {r : AV} {a : Value} {tk : Nat} (hQ : OpQ w hb F s Z ρ σ r Q) (S : St w hb F s.heap Z ρ σ) (q : VRel s.heap Z ρ r a) : Q a { s with toks := tk } := hQ a s.heap Z ρ tk S q Post.refl
theorem isStr_TT (a b : Nat) (t : Tok) : (Value.str (TT a) t).isStr (TT b) = Nat.beq a b := by
  show (TT a == TT b) = Nat.beq a b
  cases q : Nat.beq a b with
  | true => rw [Nat.eq_of_beq_eq_true q]; simp
  | false =>
    rw [beq_eq_false_iff_ne]
    intro e
    have := TT_inj e
    subst this
    simp at q
theorem expo_expo (v : AV) : expo (expo v) = expo v := by
  cases v with
  | tree t => cases t <;> rfl
  | node t => cases t <;> rfl
  | _ => rfl
theorem getL_cons {en : DictEntry} {es : List DictEntry} {k f : Nat} {t : Tok} (hk : en.key = .str (TT k) t) : getL (TT f) (en :: es) = if k = f then some (some en.val) else getL (TT f) es := by
  have q : en.key.isStr (TT f) = Nat.beq k f := by rw [hk]; exact isStr_TT k f t
  unfold getL
  rw [List.find?_cons, q]
  by_cases h : k = f
  · rw [if_pos h, h, Nat.beq_refl]
  · have q2 : Nat.beq k f = false := by
      cases z : Nat.beq k f with
      | false => rfl
      | true => exact absurd (Nat.eq_of_beq_eq_true z) h
    have rk : en.refKey = false := by unfold DictEntry.refKey; rw [hk]
    rw [if_neg h, q2, List.any_cons, rk, Bool.false_or]
theorem FRel.get {h : Heap} {f : Nat} {ks : List Nat} {vs : List AV} {es : List DictEntry} (q : FRel h Z ρ ks vs es) {v : AV} (e : kvLk ks vs f = some v) : ∃ val, getL (TT f) es = some (some val) ∧ VRel h Z ρ v val := by
  induction ks generalizing vs es with
  | nil => obtain ⟨rfl, rfl⟩ := q.nil_inv; exact non e
  | cons k ks ih =>
    obtain ⟨x, gs, en, ds, t, rfl, rfl, hk, r, rs⟩ := q.cons_inv
    rw [getL_cons hk]
    by_cases h : k = f
    · cases Option.some.inj ((if_pos h).symm.trans e)
      exact ⟨en.val, if_pos h, r⟩
    · rw [if_neg h]
      exact ih rs ((if_neg h).symm.trans e)
theorem nsLk_kv : ∀ (kvs : List (Nat × AV)) (f : Nat), nsLk kvs f = kvLk (kvs.map (·.1)) (kvs.map (·.2)) f
  | [], _ => rfl
  | p :: r, f => by simp only [nsLk, List.map_cons, kvLk, nsLk_kv r f]
noncomputable def AL : List Nat := [0, 1, 2, 3, 4, 5, 6, 7, 39, 40, 41, 42, 72, 73, 123]
noncomputable def clsOk (P : Params) (c f : Nat) : Bool := hasDictIn (K P) (CA c) && plainGet (K P) (CA c) "" && (findIn (K P) (.ref (CA c)) (TT f) == some none)
theorem cls_ok : ∀ P : Params, ([0, 1, 2, 3, 6].flatMap fun c => (AL.filter fun f => !(Nat.beq c 6 && Nat.beq f 39)).map fun f => clsOk P c f) = List.replicate 74 true := by intro P; kernel_rfl
theorem cls_at (P : Params) {c f : Nat} (hc : c = 0 ∨ c = 1 ∨ c = 2 ∨ c = 3 ∨ c = 6) (hf : f ∈ AL) (h6 : ¬ (c = 6 ∧ f = 39)) : clsOk P c f = true := by
  have h := cls_ok P
  have m : clsOk P c f ∈ ([0, 1, 2, 3, 6].flatMap fun c => (AL.filter fun f => !(Nat.beq c 6 && Nat.beq f 39)).map fun f => clsOk P c f) := by
    refine List.mem_flatMap.mpr ⟨c, ?_, List.mem_map.mpr ⟨f, List.mem_filter.mpr ⟨hf, ?_⟩, rfl⟩⟩
    rotate_left
    · cases q : (Nat.beq c 6 && Nat.beq f 39) with
      | false => rfl
      | true =>
        rw [Bool.and_eq_true] at q
        exact absurd ⟨Nat.eq_of_beq_eq_true q.1, Nat.eq_of_beq_eq_true q.2⟩ h6
    rcases hc with rfl | rfl | rfl | rfl | rfl <;> simp
  rw [h] at m
  exact List.eq_of_mem_replicate m
theorem get_fld {C x d : Addr} {c f : Nat} {es : List DictEntry} {n : Nat} {v : Value} {ex : Bool} (X : (K w.params).In s.heap) (hc : ClsN c) (hf : f ∈ AL) (h6 : ¬ (c = 6 ∧ f = 39)) (ho : s.heap.get? x = some (instObj (CA c) d)) (hd : s.heap.get? d = some (dictOf es n))
    (hl : getL (TT f) es = some (some v)) (hh : handedIn v = true) (h : Q v { s with toks := s.toks + 1 }) : wpAny (model pw w) A (getAttr (.ref x) (TT f) ex) Q E s := by
  have ok := cls_at w.params hc hf h6
  unfold clsOk at ok
  simp only [Bool.and_eq_true] at ok
  obtain ⟨⟨o1, o2⟩, o3⟩ := ok
  have I : InstAt s.heap x (instObj (CA c) d) (CA c) (some (dictOf es n)) := ⟨ho, rfl, rfl, hd⟩
  exact get_value X I (plainGet_of o2).1 (findObj_own o1 (beq_iff_eq.mp o3) rfl hl) hh h
theorem gl_handed (w : World) {k : Nat} {v : Value} (e : GL.lookup k = some v) : handedIn v = true := by
  have ok := gl_at w.params e
  unfold glOk at ok
  cases v <;> first | rfl | exact (Bool.and_eq_true_iff.mp (Bool.and_eq_true_iff.mp ok).2).2
theorem handed (w : World) {v : AV} {a : Value} {h : Heap} (r : VRel h Z ρ v a) : handedIn a = true :=
  (VRel.ind (P := fun zz a => handedIn a = true) (Q := fun zz zz => True) (R := fun zz zz zz => True) rfl (fun zz => rfl) (fun zz zz => rfl) (fun zz zz => rfl) (fun zz zz e => gl_handed w e) (fun zz zz zz => rfl) (fun zz zz zz zz zz zz zz zz => rfl) (fun zz zz zz zz zz zz zz zz => rfl) (fun zz zz zz zz zz zz zz zz zz zz zz zz zz zz => rfl)
    (fun zz zz zz zz zz zz zz zz zz zz zz zz zz zz zz zz zz zz zz zz zz zz zz zz zz zz zz zz zz zz => rfl) (fun zz zz r => r) (fun zz zz r => r) (fun zz zz zz zz zz zz zz zz => rfl) trivial (fun zz zz zz zz zz zz => trivial) trivial (fun zz zz zz zz zz zz zz zz zz zz => trivial)).1 r
noncomputable def attrN (o : Option AO) (c f : Nat) : Option AV := match o with
  | some (.ns kvs) => if c = 6 ∧ f = 39 then Option.none else nsLk kvs f
  | _ => Option.none
noncomputable def attrL (σ : Sto) (o : Option AO) (f : Nat) : Option AV := match o with
  | some (.inst c d) => attrN σ[d]? c f
  | _ => Option.none
theorem attrN_inv {o : Option AO} {c f : Nat} {r : AV} (e : attrN o c f = some r) : ∃ kvs, o = some (.ns kvs) ∧ ¬ (c = 6 ∧ f = 39) ∧ nsLk kvs f = some r := by
  cases o with
  | none => exact non e
  | some o =>
    cases o with
    | ns kvs =>
      by_cases h : c = 6 ∧ f = 39
      · exact non ((if_pos h).symm.trans e)
      · exact ⟨kvs, rfl, h, (if_neg h).symm.trans e⟩
    | _ => exact non e
theorem attrL_inv {o : Option AO} {f : Nat} {r : AV} (e : attrL σ o f = some r) : ∃ c d, o = some (.inst c d) ∧ attrN σ[d]? c f = some r := by
  cases o with
  | none => exact non e
  | some o =>
    cases o with
    | inst c d => exact ⟨c, d, rfl, e⟩
    | _ => exact non e
theorem vec_lk {k f : Nat} {x r : AV} {b : Bool} (e : attrOf σ (.vec k x) f = some r) : kvLk [0, 1, 2, 3, 4] (vecF k x b) f = some r := by
  match f, e with
  | 0, e => exact e
  | 1, e => exact e
  | 2, e => exact e
  | n + 3, e => exact non e
noncomputable def AttrI (σ : Sto) (u : AV) (f : Nat) (r : AV) : Prop := (∃ i, u = .loc i ∧ attrL σ σ[i]? f = some r) ∨ (∃ c ks vs, u = .fin c ks vs ∧ kvLk ks vs f = some r) ∨ ∃ k x, u = .vec k x ∧ attrOf σ (.vec k x) f = some r
theorem attrOf_expo (v : AV) (f : Nat) : attrOf σ v f = attrOf σ (expo v) f := by unfold attrOf; rw [expo_expo]
theorem attrU_inv {u : AV} {f : Nat} {r : AV} (e : attrOf σ u f = some r) : AttrI σ (expo u) f r ∨ expo u ≠ u := by
  cases u with
  | tree t => exact .inr (by cases t <;> exact nofun)
  | node t => exact .inr (by cases t <;> exact nofun)
  | loc i => exact .inl (Or.inl ⟨i, rfl, e⟩)
  | fin c ks vs => exact .inl (Or.inr (Or.inl ⟨c, ks, vs, rfl, e⟩))
  | vec k x => exact .inl (Or.inr (Or.inr ⟨k, x, rfl, e⟩))
  | _ => exact non e
theorem op_attr {v r : AV} {a : Value} {f : Nat} {ex : Bool} (B : Bs w hb) (S : St w hb F s.heap Z ρ σ) (q : VRel s.heap Z ρ v a) (hf : f ∈ AL) (e : attrOf σ v f = some r) (hQ : OpQ w hb F s Z ρ σ r Q) :
    wpAny (model pw w) A (getAttr a (TT f) ex) Q E s := by
  have X := B.K S.base
  rw [attrOf_expo] at e
  have q := q.expo
  have I := (attrU_inv e).resolve_right fun h => h (expo_expo v)
  rw [expo_expo] at I
  clear e
  refine Classical.byContradiction fun go => ?_
  rcases I with ⟨i, eu, e⟩ | ⟨c, ks, vs, eu, e⟩ | ⟨k, x, eu, e⟩ <;> rw [eu] at q
  · obtain ⟨x, rfl, ei⟩ := q.loc_inv
    obtain ⟨c, d, hc, e1⟩ := attrL_inv e
    obtain ⟨kvs, hk, h6, e2⟩ := attrN_inv e1
    refine S.attr_el hc hk ei fun dd es n rd gx hcl gd fr ln => ?_
    obtain ⟨val, g, rr⟩ := fr.get ((nsLk_kv ..).symm.trans e2)
    exact go (get_fld (C := 0) X hcl hf h6 gx gd g (handed w rr) (hQ.same S rr))
  · obtain ⟨x, d, es, n, rfl, cc, z, zd, ex, ed, nsh, fr⟩ := q.fin_inv
    obtain ⟨val, g, rr⟩ := fr.get e
    exact go (get_fld (C := 0) X (cc.elim (fun e => .inr (.inr (.inl e))) fun e => .inr (.inr (.inr (.inl e)))) hf (by rcases cc with rfl | rfl <;> simp) ex ed g (handed w rr) (hQ.same S rr))
  · obtain ⟨a', d, e0, e1, e2, e3, e4, n, b, rfl, z, zd, ex, ed, fr⟩ := q.vec_inv
    obtain ⟨val, g, rr⟩ := fr.get (vec_lk e)
    exact go (get_fld (C := 0) (c := 1) X (.inr (.inl rfl)) hf (by simp) ex ed g (handed w rr) (hQ.same S rr))
end
end Mine
end
section
open PySem PySem.W PyProof.Rows PySem.Calls
namespace Mine
section
variable {w : World} {hb : Heap} {Φ : List Env} {A : Around} {σ : Sto} {s : Shared} {Z : Addr → Prop} {ρ : List Addr} {Q : Value → Shared → Prop} {E : Value → Shared → Prop}
theorem idx_seq {i : Int} {n j : Nat} (h : idxOf i n = some j) : seqIndex? i n = some j ∧ j < n := by
  unfold idxOf at h
  unfold seqIndex?
  by_cases h0 : 0 ≤ i
  · rw [if_pos h0] at h
    split at h
    · rename_i h1
      cases h
      have h2 : ¬ i < 0 := by lia
      have h3 : i < (n : Int) := by lia
      simp [h2, h0, h3, h1]
    · cases h
  · rw [if_neg h0] at h
    split at h
    · rename_i h1
      cases h
      have h2 : i < 0 := by lia
      have h3 : i + (n : Int) < n := by lia
      refine ⟨?_, by lia⟩
      simp [h2, h1, h3]
    · cases h
theorem idx_range {i : Int} {n j : Nat} (h : idxOf i n = some j) (hn : n ≤ 20000) : -20000 ≤ i ∧ i < 20000 ∧ (0 ≤ i → i.toNat = j) ∧ (i < 0 → -(n : Int) ≤ i ∧ (i + n).toNat = j) := by
  unfold idxOf at h
  by_cases h0 : 0 ≤ i
  · rw [if_pos h0] at h
    split at h
    · cases h; lia
    · cases h
  · rw [if_neg h0] at h
    split at h
    · cases h; lia
    · cases h
theorem item_list {x : Addr} {o : Obj} {vs : List Value} {n : Nat} {i : Int} {t : Tok} {j : Nat} {y : Value} (ho : s.heap.get? x = some (lstO vs n)) (hn : vs.length ≤ 20000) (hi : idxOf i vs.length = some j) (hy : vs[j]? = some y) (h : Q y s) :
    wpAny (model pw w) A (getItem (.ref x) (.int i t)) Q E s := by
  have hl : s.heap.IsList x vs.toArray := ⟨_, ho, rfl, n, rfl⟩
  obtain ⟨r1, r2, r3, r4⟩ := idx_range hi hn
  by_cases h0 : 0 ≤ i
  · exact wpAny_getItem_list hl h0 (by lia) (by rw [r3 h0]; simpa using hy) h
  · obtain ⟨r5, r6⟩ := r4 (by lia)
    exact wpAny_getItem_list_neg hl (by lia) (by simpa using r5) (by lia) (by simp only [List.size_toArray]; rw [r6]; simpa using hy) h
theorem item_tup {x : Addr} {vs : List Value} {n : Nat} {i : Int} {t : Tok} {j : Nat} {y : Value} (ho : s.heap.get? x = some (tupO vs n)) (hn : vs.length ≤ 20000) (hi : idxOf i vs.length = some j) (hy : vs[j]? = some y) (h : Q y s) :
    wpAny (model pw w) A (getItem (.ref x) (.int i t)) Q E s := by
  obtain ⟨r1, r2, _, _⟩ := idx_range hi hn
  exact P.getItem_tuple (t := x) (items := vs.toArray) (n := n) ho (by lia) (by lia) (by simpa using (idx_seq hi).1) (by simpa using hy) h
theorem sub_tail {value slice : Expr} {o i : Value} {T id : String} (hT : s.TypeIs o T) (hl : typeLookup (.type T) "__getitem__" = pure (some (.builtin id))) (hg : wpAny (model pw w) A (getItem o i) Q E s) (hs : ∀ o i, subscripted slice false o i = operate [o, i] (getItem o i)) :
    wpAny (model pw w) A (subscriptTail value slice o i) Q E s := tail_any hT hl hg (hs o i)
theorem str_xy : (TT 278).length = 2 ∧ (TT 278).cps[0]? = some 120 ∧ (TT 278).cps[1]? = some 121 ∧ TT 17 = ⟨#[120]⟩ ∧ TT 18 = ⟨#[121]⟩ := by decide +kernel
theorem itemOf_expo (v j : AV) : itemOf σ v j = itemOf σ (expo v) j := by unfold itemOf; rw [expo_expo]
noncomputable def ItemI (σ : Sto) (u j r : AV) : Prop := (∃ xs i, u = .tup xs ∧ j = .int i ∧ (idxOf i xs.length).bind (xs[·]?) = some r) ∨ (∃ xs i, u = .lst xs ∧ j = .int i ∧ (idxOf i xs.length).bind (xs[·]?) = some r) ∨
    (∃ k i, u = .str k ∧ j = .int i ∧ strIt k i = some r) ∨ (∃ l i xs, u = .loc l ∧ j = .int i ∧ σ[l]? = some (.list xs) ∧ (idxOf i xs.length).bind (xs[·]?) = some r) ∨ ∃ l k kvs, u = .loc l ∧ j = .str k ∧ σ[l]? = some (.dict kvs) ∧ nsLk kvs k = some r
noncomputable def itemL (o : Option AO) (i : Int) : Option AV := match o with
  | some (.list xs) => (idxOf i xs.length).bind (xs[·]?)
  | _ => none
noncomputable def itemD (o : Option AO) (k : Nat) : Option AV := match o with
  | some (.dict kvs) => nsLk kvs k
  | _ => none
theorem itemL_inv {o : Option AO} {i : Int} {r : AV} (e : itemL o i = some r) : ∃ xs, o = some (.list xs) ∧ (idxOf i xs.length).bind (xs[·]?) = some r := by
  cases o with
  | none => exact non e
  | some o =>
    cases o with
    | list xs => exact ⟨xs, rfl, e⟩
    | _ => exact non e
theorem itemD_inv {o : Option AO} {k : Nat} {r : AV} (e : itemD o k = some r) : ∃ kvs, o = some (.dict kvs) ∧ nsLk kvs k = some r := by
  cases o with
  | none => exact non e
  | some o =>
    cases o with
    | dict kvs => exact ⟨kvs, rfl, e⟩
    | _ => exact non e
theorem itemU_inv {u j r : AV} (e : itemOf σ u j = some r) : ItemI σ (expo u) j r ∨ expo u ≠ u := by
  cases u with
  | tree t => exact .inr (by cases t <;> exact nofun)
  | node t => exact .inr (by cases t <;> exact nofun)
  | tup xs =>
    cases j with
    | int i => exact .inl (Or.inl ⟨xs, i, rfl, rfl, e⟩)
    | _ => exact non e
  | lst xs =>
    cases j with
    | int i => exact .inl (Or.inr (Or.inl ⟨xs, i, rfl, rfl, e⟩))
    | _ => exact non e
  | str k =>
    cases j with
    | int i => exact .inl (Or.inr (Or.inr (Or.inl ⟨k, i, rfl, rfl, e⟩)))
    | _ => exact non e
  | loc l =>
    cases j with
    | int i => obtain ⟨xs, h1, h2⟩ := itemL_inv (o := σ[l]?) e; exact .inl (Or.inr (Or.inr (Or.inr (Or.inl ⟨l, i, xs, rfl, rfl, h1, h2⟩))))
    | str k => obtain ⟨xs, h1, h2⟩ := itemD_inv (o := σ[l]?) e; exact .inl (Or.inr (Or.inr (Or.inr (Or.inr ⟨l, k, xs, rfl, rfl, h1, h2⟩))))
    | _ => exact non e
  | _ => exact non e
theorem itemOf_inv {v j r : AV} (e : itemOf σ v j = some r) : ItemI σ (expo v) j r := by
  rw [itemOf_expo] at e
  rcases itemU_inv e with h | h
  · rwa [expo_expo] at h
  · exact absurd (expo_expo v) h
theorem strIt_inv {k : Nat} {i : Int} {r : AV} (e : strIt k i = some r) : k = 278 ∧ ((i = 0 ∧ r = .str 17) ∨ (i = 1 ∧ r = .str 18)) := by
  unfold strIt at e
  split at e
  · rename_i h
    split at e
    · rename_i h0; exact ⟨h, .inl ⟨h0, (Option.some.inj e).symm⟩⟩
    · split at e
      · rename_i h1; exact ⟨h, .inr ⟨h1, (Option.some.inj e).symm⟩⟩
      · cases e
  · cases e
noncomputable abbrev GetG (w : World) (A : Around) (E Q : Value → Shared → Prop) (s : Shared) (a ja : Value) : Prop := (∃ T id, s.TypeIs a T ∧ typeLookup (.type T) "__getitem__" = pure (some (.builtin id))) ∧ wpAny (model pw w) A (getItem a ja) Q E s
theorem op_get {v j r : AV} {a ja : Value} (S : St w hb Φ s.heap Z ρ σ) (q : VRel s.heap Z ρ v a) (qj : VRel s.heap Z ρ j ja) (e : itemOf σ v j = some r)
    (hQ : OpQ w hb Φ s Z ρ σ r Q) : GetG w A E Q s a ja := by
  have q := q.expo
  have lst : ∀ {x : Addr} {xs : List AV} {vs : List Value} {n : Nat} {i : Int} {t : Tok}, s.heap.get? x = some (lstO vs n) → VRels s.heap Z ρ xs vs → xs.length ≤ 20000 → (idxOf i xs.length).bind (xs[·]?) = some r → GetG w A E Q s (.ref x) (.int i t) := fun {x xs vs n i t} ex rr lz h1 => by
    obtain ⟨k, h1, h2⟩ := Option.bind_eq_some_iff.mp h1
    rw [rr.length] at h1 lz
    obtain ⟨y, hy, ry⟩ := rr.get h2
    exact ⟨⟨"list", _, ⟨_, ex, rfl⟩, slot_list_getitem.lookup⟩, item_list (o := lstO vs n) ex lz h1 hy (hQ.same S ry)⟩
  refine Classical.byContradiction fun go => ?_
  rcases itemOf_inv e with ⟨xs, i, eu, rfl, h1⟩ | ⟨xs, i, eu, rfl, h1⟩ | ⟨k, i, eu, rfl, h1⟩ | ⟨l, i, xs, eu, rfl, ho, h1⟩ | ⟨l, k, kvs, eu, rfl, ho, h1⟩ <;> clear e
  · obtain ⟨x, vs, n, rfl, lz, _, ex, rr⟩ := (eu ▸ q).tup_inv
    obtain ⟨t, rfl⟩ := qj.int_inv
    obtain ⟨k, h1, h2⟩ := Option.bind_eq_some_iff.mp h1
    rw [rr.length] at h1 lz
    obtain ⟨y, hy, ry⟩ := rr.get h2
    exact go ⟨⟨"tuple", _, ⟨_, ex, rfl⟩, slot_tuple_getitem.lookup⟩, item_tup ex lz h1 hy (hQ.same S ry)⟩
  · obtain ⟨x, vs, n, rfl, lz, _, ex, rr⟩ := (eu ▸ q).lst_inv
    obtain ⟨t, rfl⟩ := qj.int_inv
    exact go (lst ex rr lz h1)
  · obtain ⟨u, rfl⟩ := (eu ▸ q).str_inv
    obtain ⟨t, rfl⟩ := qj.int_inv
    obtain ⟨x1, x2, x3, x4, x5⟩ := str_xy
    obtain ⟨rfl, h2⟩ := strIt_inv h1
    refine go ⟨⟨"str", _, typeIs_str s _ _, F.slot_str_getitem.lookup⟩, ?_⟩
    clear h1 eu q qj
    rcases h2 with ⟨rfl, rfl⟩ | ⟨rfl, rfl⟩
    · exact P.getItem_str (c := 120) (by decide) (by rw [x1]; exact x2) (x4 ▸ hQ.same S (.str 17 _))
    · exact P.getItem_str (c := 121) (by decide) (by rw [x1]; exact x3) (x5 ▸ hQ.same S (.str 18 _))
  · obtain ⟨x, rfl, ei⟩ := (eu ▸ q).loc_inv
    obtain ⟨t, rfl⟩ := qj.int_inv
    exact S.list_el ho ei fun vs n gx rr lz => go (lst gx rr lz h1)
  · obtain ⟨x, rfl, ei⟩ := (eu ▸ q).loc_inv
    obtain ⟨t, rfl⟩ := qj.str_inv
    refine S.dict_el ho ei fun o P gx hd hz hm h0 hb => ?_
    obtain ⟨val, f1, r1⟩ := hm _ _ h1
    have M : s.heap.MapOf (PySem.strKind pw w) x (valueAt P) := (Heap.dictOf_iff.mpr ⟨o, gx, hd⟩).mapOf
    exact go ⟨⟨"dict", _, M.typeIs, slot_dict_getitem.lookup⟩, wpAny_getItem_of (k := TT k) (by simp [PySem.strKind, Value.isStrOf]) M f1 (hQ.same S r1)⟩
theorem op_sub {v j r : AV} {a ja : Value} {value slice : Expr} (S : St w hb Φ s.heap Z ρ σ) (q : VRel s.heap Z ρ v a) (qj : VRel s.heap Z ρ j ja) (e : itemOf σ v j = some r) (hs : ∀ o i, subscripted slice false o i = operate [o, i] (getItem o i))
    (hQ : OpQ w hb Φ s Z ρ σ r Q) : wpAny (model pw w) A (subscriptTail value slice a ja) Q E s :=
  have h := op_get (A := A) (E := E) S q qj e hQ
  h.1.elim fun zz x => x.elim fun zz y => sub_tail y.1 y.2 h.2 hs
theorem lenOf_expo (v : AV) : lenOf σ v = lenOf σ (expo v) := by unfold lenOf; rw [expo_expo]
noncomputable def lenL (o : Option AO) : Option Int := match o with
  | some (.list xs) => some xs.length
  | _ => none
theorem lenL_inv {o : Option AO} {n : Int} (e : lenL o = some n) : ∃ xs, o = some (.list xs) ∧ n = xs.length := by
  cases o with
  | none => exact non e
  | some o =>
    cases o with
    | list xs => exact ⟨xs, rfl, (Option.some.inj e).symm⟩
    | _ => exact non e
noncomputable def LenI (σ : Sto) (u : AV) (n : Int) : Prop := ∃ xs : List AV, n = xs.length ∧ (u = .tup xs ∨ u = .lst xs ∨ ∃ l, u = .loc l ∧ σ[l]? = some (.list xs))
theorem lenU_inv {u : AV} {n : Int} (e : lenOf σ u = some n) : LenI σ (expo u) n ∨ expo u ≠ u := by
  cases u with
  | tree t => exact .inr (by cases t <;> exact nofun)
  | node t => exact .inr (by cases t <;> exact nofun)
  | tup xs => exact .inl ⟨xs, (Option.some.inj e).symm, .inl rfl⟩
  | lst xs => exact .inl ⟨xs, (Option.some.inj e).symm, .inr (.inl rfl)⟩
  | loc l => obtain ⟨xs, h1, h2⟩ := lenL_inv (o := σ[l]?) e; exact .inl ⟨xs, h2, .inr (.inr ⟨l, rfl, h1⟩)⟩
  | _ => exact non e
theorem lenOf_inv {v : AV} {n : Int} (e : lenOf σ v = some n) : LenI σ (expo v) n := by
  rw [lenOf_expo] at e
  rcases lenU_inv e with h | h
  · rwa [expo_expo] at h
  · exact absurd (expo_expo v) h
theorem op_len {v : AV} {a : Value} {n : Int} (S : St w hb Φ s.heap Z ρ σ) (q : VRel s.heap Z ρ v a) (e : lenOf σ v = some n) (hQ : OpQ w hb Φ s Z ρ σ (.int n) Q) : wpAny (model pw w) A (call (.builtin "len") [a]) Q E s := by
  have lst : ∀ {x : Addr} {xs : List AV} {vs : List Value} {n : Nat}, s.heap.get? x = some (lstO vs n) → VRels s.heap Z ρ xs vs → xs.length ≤ 20000 → OpQ w hb Φ s Z ρ σ (.int xs.length) Q → wpAny (model pw w) A (call (.builtin "len") [.ref x]) Q E s := fun {x xs vs n} g rr lz hQ => by
    rw [rr.length] at hQ lz
    exact PyProof.Rows.len_list (items := vs.toArray) ⟨_, g, rfl, n, rfl⟩ (by simp; lia) (hQ.same S (.int _ _))
  have q := q.expo
  obtain ⟨xs, rfl, eu | eu | ⟨l, eu, ho⟩⟩ := lenOf_inv e
  · refine (eu ▸ q).tup_el fun x vs n lz zz ex rr => ?_
    rw [rr.length] at hQ lz
    exact P.len_tuple (items := vs.toArray) (n := n) ex (by simp; lia) (hQ.same S (.int _ _))
  · refine (eu ▸ q).lst_el fun x vs n lz zz ex rr => ?_
    exact lst ex rr lz hQ
  · refine (eu ▸ q).loc_el fun x ei => ?_
    exact S.list_el ho ei fun vs n gx rr lz => lst gx rr lz hQ
end
end Mine
end
section
open PySem PySem.W PyProof.Rows PySem.Calls
namespace Mine
section
variable {w : World} {hb : Heap} {Φ : List Env} {A : Around} {σ : Sto} {s : Shared} {Z : Addr → Prop} {ρ : List Addr} {Q : Value → Shared → Prop} {E : Value → Shared → Prop}
theorem OpQ.pushZ {r : AV} {o : Obj} {tk : Nat} (hQ : OpQ w hb Φ s Z ρ σ r Q) (S : St w hb Φ s.heap Z ρ σ) (hf : o.isFreed = false) (q : VRel (s.heap.push o) (ZP Z s.heap.objs.size) ρ r (.ref s.heap.objs.size)) : Q (.ref s.heap.objs.size) { s with heap := s.heap.push o, toks := tk } :=
  hQ _ _ _ _ tk (S.pushZ hf) q (post_pushZ o)
theorem rel_pushZ {h : Heap} {x : AV} {a : Value} {o : Obj} (r : VRel h Z ρ x a) : VRel (h.push o) (ZP Z h.objs.size) ρ x a := r.mono (fun zz z => .inl z) (fun zz zz e => e) (std_push o)
theorem rels_pushZ {h : Heap} {x : List AV} {a : List Value} {o : Obj} (r : VRels h Z ρ x a) : VRels (h.push o) (ZP Z h.objs.size) ρ x a := r.mono (fun zz z => .inl z) (fun zz zz e => e) (std_push o)
theorem new_tup {xs : List AV} {vs : List Value} {tk : Nat} {m : Nat} (S : St w hb Φ s.heap Z ρ σ) (rr : VRels s.heap Z ρ xs vs) (lz : xs.length ≤ 20000) (hQ : OpQ w hb Φ s Z ρ σ (.tup xs) Q) : Q (.ref s.heap.objs.size) { s with heap := s.heap.push (tupO vs m), toks := tk } :=
  hQ.pushZ S rfl (.tup xs _ vs m lz (.inr rfl) (Heap.get?_push_size _ rfl) (rels_pushZ rr))
theorem new_lst {xs : List AV} {vs : List Value} {tk : Nat} {m : Nat} (S : St w hb Φ s.heap Z ρ σ) (rr : VRels s.heap Z ρ xs vs) (lz : xs.length ≤ 20000) (hQ : OpQ w hb Φ s Z ρ σ (.lst xs) Q) : Q (.ref s.heap.objs.size) { s with heap := s.heap.push (lstO vs m), toks := tk } :=
  hQ.pushZ S rfl (.lst xs _ vs m lz (.inr rfl) (Heap.get?_push_size _ rfl) (rels_pushZ rr))
theorem intBits_small {x : Int} (h : Small x) : Builtin.Int.intBits x ≤ 2 ^ 20 := by
  unfold Builtin.Int.intBits
  unfold Small at h
  by_cases h0 : x.natAbs = 0
  · have : x = 0 := by lia
    subst this
    decide
  · split
    · exact Nat.zero_le _
    · have := (Nat.log2_lt h0).mpr h
      have : (2000 : Nat) + 1 ≤ 2 ^ 20 := by decide
      lia
theorem if_inv {c : Prop} [Decidable c] {a r : AV} (e : (if c then some a else none) = some r) : c ∧ r = a := by
  by_cases h : c
  · rw [if_pos h] at e; exact ⟨h, (Option.some.inj e).symm⟩
  · rw [if_neg h] at e; exact non e
noncomputable def IntI (op : Nat) (a b r : AV) : Prop := ∃ x y, a = .int x ∧ b = .int y ∧ binOf op (.int x) (.int y) = some r
noncomputable def SeqI (a b r : AV) : Prop := ∃ x y, x.length + y.length < 1000 ∧ ((a = .tup x ∧ b = .tup y ∧ r = .tup (x ++ y)) ∨ (a = .lst x ∧ b = .lst y ∧ r = .lst (x ++ y)))
noncomputable def RepI (a b r : AV) : Prop := ∃ x n, a = .lst [x] ∧ b = .int n ∧ (0 ≤ n ∧ n < 1000) ∧ r = .lst (List.replicate n.toNat x)
theorem bin0_inv {a b r : AV} (e : binOf 0 a b = some r) : IntI 0 a b r ∨ SeqI a b r := by
  cases a with
  | int x =>
    cases b with
    | int y => exact .inl ⟨x, y, rfl, rfl, e⟩
    | _ => exact non e
  | tup x =>
    cases b with
    | tup y => exact .inr ⟨x, y, (if_inv e).1, .inl ⟨rfl, rfl, (if_inv e).2⟩⟩
    | _ => exact non e
  | lst x =>
    cases b with
    | lst y => exact .inr ⟨x, y, (if_inv e).1, .inr ⟨rfl, rfl, (if_inv e).2⟩⟩
    | _ => exact non e
  | _ => exact non e
theorem bin2_inv {a b r : AV} (e : binOf 2 a b = some r) : IntI 2 a b r ∨ RepI a b r := by
  cases a with
  | int x =>
    cases b with
    | int y => exact .inl ⟨x, y, rfl, rfl, e⟩
    | _ => exact non e
  | lst x =>
    cases x with
    | nil => exact non e
    | cons x xs =>
      cases xs with
      | cons _ _ => exact non e
      | nil =>
        cases b with
        | int n => exact .inr ⟨x, n, rfl, rfl, (if_inv e).1, (if_inv e).2⟩
        | _ => exact non e
  | _ => exact non e
theorem bin_inv {op : Nat} (ho : op = 1 ∨ op = 3 ∨ op = 4) {a b r : AV} (e : binOf op a b = some r) : IntI op a b r := by
  cases a with
  | int x =>
    cases b with
    | int y => exact ⟨x, y, rfl, rfl, e⟩
    | _ => rcases ho with rfl | rfl | rfl <;> exact non e
  | _ => rcases ho with rfl | rfl | rfl <;> exact non e
theorem bin_int {op : Nat} {bop : Operator} {x y : Int} {t u : Tok} {r : AV} (hop : (op = 0 ∧ bop = .Add) ∨ (op = 1 ∧ bop = .Sub) ∨ (op = 2 ∧ bop = .Mult) ∨ (op = 3 ∧ bop = .FloorDiv) ∨ (op = 4 ∧ bop = .Mod)) (S : St w hb Φ s.heap Z ρ σ) (e : binOf op (.int x) (.int y) = some r)
    (hQ : OpQ w hb Φ s Z ρ σ r Q) : wpAny (model pw w) A (binaryOp bop (.int x t) (.int y u)) Q E s := by
  rcases hop with ⟨rfl, rfl⟩ | ⟨rfl, rfl⟩ | ⟨rfl, rfl⟩ | ⟨rfl, rfl⟩ | ⟨rfl, rfl⟩
  · obtain rfl := Option.some.inj (show some (AV.int (x + y)) = _ from e)
    exact PySem.P.add_int (hQ.same S (.int _ _))
  · obtain rfl := Option.some.inj (show some (AV.int (x - y)) = _ from e)
    exact PySem.P.sub_int (hQ.same S (.int _ _))
  · obtain ⟨hs, rfl⟩ := if_inv (show (if x.natAbs < 2 ^ 2000 ∧ y.natAbs < 2 ^ 2000 then some (AV.int (x * y)) else none) = _ from e)
    exact PySem.P.mul_int (hQ.same S (.int _ _)) (IntMulOk.of_bits (intBits_small hs.1) (intBits_small hs.2))
  · obtain ⟨hs, rfl⟩ := if_inv (show (if 0 < y ∧ y < 1073741824 then some (AV.int (x / y)) else none) = _ from e)
    refine floordiv_int (by lia) ?_ (.inl (PyProof.noPylong_small (by lia)))
    rw [show x.fdiv y = x / y from Int.fdiv_eq_ediv_of_nonneg _ (by lia)]
    exact hQ.same S (.int _ _)
  · obtain ⟨hs, rfl⟩ := if_inv (show (if y ≠ 0 then some (AV.int (x.fmod y)) else none) = _ from e)
    exact mod_int' hs (hQ.same S (.int _ _))
theorem add_tups {xs ys : List AV} {x y : Addr} {vs ws : List Value} {n m : Nat} (S : St w hb Φ s.heap Z ρ σ) (lz : xs.length ≤ 20000) (z : Z x) (ex : s.heap.get? x = some (tupO vs n)) (rr : VRels s.heap Z ρ xs vs) (lz' : ys.length ≤ 20000) (z' : Z y) (ey : s.heap.get? y = some (tupO ws m)) (rs : VRels s.heap Z ρ ys ws)
    (hl : xs.length + ys.length < 1000) (hQ : OpQ w hb Φ s Z ρ σ (.tup (xs ++ ys)) Q) : wpAny (model pw w) A (binaryOp .Add (.ref x) (.ref y)) Q E s := by
  by_cases h2 : ws = []
  · subst h2
    obtain rfl : ys = [] := List.eq_nil_of_length_eq_zero rs.length
    rw [List.append_nil] at hQ
    by_cases h1 : vs = []
    · subst h1
      obtain rfl : xs = [] := List.eq_nil_of_length_eq_zero rr.length
      exact concat_meets (b := .ref y) ⟨_, ex, rfl⟩ ⟨_, ey, rfl⟩ noFill_tuple_add seq_tuple_add F.slot_tuple_add F.entry_tuple_add (F.args_tuple_add_2 _ _) (AutoSeq1.tuple___add___tuple_tuple_0 x _ n y _ m (by rfl)) ⟨ex, ey, hQ.same S (.tup [] y [] m lz' z' ey .nil)⟩
    · exact concat_meets (b := .ref y) ⟨_, ex, rfl⟩ ⟨_, ey, rfl⟩ noFill_tuple_add seq_tuple_add F.slot_tuple_add F.entry_tuple_add (F.args_tuple_add_2 _ _) (AutoSeq1.tuple___add___tuple_tuple_1 x _ n y _ m (by simpa using h1) (by rfl)) ⟨ex, ey, hQ.same S (.tup xs x vs n lz z ex rr)⟩
  · by_cases h1 : vs = []
    · subst h1
      obtain rfl : xs = [] := List.eq_nil_of_length_eq_zero rr.length
      exact concat_meets (b := .ref y) ⟨_, ex, rfl⟩ ⟨_, ey, rfl⟩ noFill_tuple_add seq_tuple_add F.slot_tuple_add F.entry_tuple_add (F.args_tuple_add_2 _ _) (AutoSeq1.tuple___add___tuple_tuple_0 x _ n y _ m (by rfl)) ⟨ex, ey, hQ.same S (.tup ys y ws m lz' z' ey rs)⟩
    · refine PySem.P.add_tuple (items := vs.toArray) (items2 := ws.toArray) (n := n) (n2 := m) ex ey (by simpa using h1) (by simpa using h2) ?_ (by rw [rr.length] at lz; rw [rs.length] at lz'; simp only [List.size_toArray]; rw [sizeLine_eq]; lia)
      have := new_tup (tk := s.toks) (m := 0) S (rr.append rs) (by rw [List.length_append]; lia) hQ
      simpa [tupO] using this
theorem add_lsts {xs ys : List AV} {x y : Addr} {vs ws : List Value} {n m : Nat} (S : St w hb Φ s.heap Z ρ σ) (ex : s.heap.get? x = some (lstO vs n)) (rr : VRels s.heap Z ρ xs vs) (ey : s.heap.get? y = some (lstO ws m)) (rs : VRels s.heap Z ρ ys ws)
    (hl : xs.length + ys.length < 1000) (hQ : OpQ w hb Φ s Z ρ σ (.lst (xs ++ ys)) Q) : wpAny (model pw w) A (binaryOp .Add (.ref x) (.ref y)) Q E s := by
  have l1 := rr.length
  have l2 := rs.length
  refine PySem.P.add_list (items := vs.toArray) (items2 := ws.toArray) (n := n) (n2 := m) ex ey ?_ (by simp only [List.size_toArray]; rw [sizeLine_eq]; lia)
  have := new_lst (tk := s.toks) (m := 0) S (rr.append rs) (by rw [List.length_append]; lia) hQ
  simpa [lstO] using this
theorem rep_eq (v : Value) (k : Nat) : (List.foldl (fun x1 x2 => x1 ++ x2) #[] (List.replicate (if ([v].toArray : Array Value).isEmpty = true then 0 else k) [v].toArray)) = (List.replicate k v).toArray := by
  have : ([v].toArray : Array Value).isEmpty = false := rfl
  rw [this]
  simp only [Bool.false_eq_true, if_false]
  have gen : ∀ (k : Nat) (acc : Array Value), List.foldl (fun x1 x2 => x1 ++ x2) acc (List.replicate k [v].toArray) = acc ++ (List.replicate k v).toArray := by
    intro k
    induction k with
    | zero => intro acc; simp
    | succ k ih => intro acc; rw [List.replicate_succ, List.foldl_cons, ih, List.replicate_succ]; apply Array.toList_inj.mp; simp
  rw [gen]; simp
theorem mul_lst {xv : AV} {x : Addr} {v : Value} {n : Nat} {n0 : Int} {t : Tok} (S : St w hb Φ s.heap Z ρ σ) (ex : s.heap.get? x = some (lstO [v] n)) (r : VRel s.heap Z ρ xv v) (hs : 0 ≤ n0 ∧ n0 < 1000) (hQ : OpQ w hb Φ s Z ρ σ (.lst (List.replicate n0.toNat xv)) Q) :
    wpAny (model pw w) A (binaryOp .Mult (.ref x) (.int n0 t)) Q E s := by
  refine wpAny_binaryOp_repeat_ref (T := "list") (U := "int") (by decide) ⟨_, ex, rfl⟩ (fun s' => typeIs_int s' _ t) noFill_list_mul F.fills_int_mul F.slot_int_rmul repeat_list F.slot_int_index.lookup
    (call_meets F.slot_int_rmul (typeIs_int s _ t) F.entry_int_rmul (F.args_int_rmul_2 _ _) (int___rmul___int_list _ t x _ n)
      ⟨ex, rfl, ⟨_, ex, rfl⟩, call_meets F.slot_list_mul ⟨_, ex, rfl⟩ F.entry_list_mul (F.args_list_mul_2 _ _)
        (AutoListH.list___mul___list_int_3 x _ n _ t (by simp [Builtin.List.listFitsIndex]; lia) (by simp; lia) (by simp [Builtin.List.listTooLong, sizeLine]; lia))
        ⟨ex, ?_⟩⟩)
  rw [rep_eq]
  exact new_lst (tk := s.toks) (m := 0) S (VRels.replicate n0.toNat r) (by rw [List.length_replicate]; lia) hQ
theorem op_bin {op : Nat} {bop : Operator} {va vb r : AV} {a b : Value} (hop : (op = 0 ∧ bop = .Add) ∨ (op = 1 ∧ bop = .Sub) ∨ (op = 2 ∧ bop = .Mult) ∨ (op = 3 ∧ bop = .FloorDiv) ∨ (op = 4 ∧ bop = .Mod)) (S : St w hb Φ s.heap Z ρ σ) (qa : VRel s.heap Z ρ va a) (qb : VRel s.heap Z ρ vb b) (e : binOf op va vb = some r)
    (hQ : OpQ w hb Φ s Z ρ σ r Q) : wpAny (model pw w) A (binaryOp bop a b) Q E s := by
  have hints : IntI op va vb r → wpAny (model pw w) A (binaryOp bop a b) Q E s := fun ⟨x, y, e1, e2, e3⟩ => by
    obtain ⟨t, rfl⟩ := (e1 ▸ qa).int_inv
    obtain ⟨u, rfl⟩ := (e2 ▸ qb).int_inv
    exact bin_int hop S e3 hQ
  rcases id hop with ⟨rfl, rfl⟩ | ⟨rfl, rfl⟩ | ⟨rfl, rfl⟩ | ⟨rfl, rfl⟩ | ⟨rfl, rfl⟩
  · rcases bin0_inv e with h | ⟨x, y, hl, ⟨rfl, rfl, rfl⟩ | ⟨rfl, rfl, rfl⟩⟩
    · exact hints h
    · obtain ⟨x, vs, n, rfl, lz, z, ex, rr⟩ := qa.tup_inv
      obtain ⟨y, ws, m, rfl, lz', z', ey, rs⟩ := qb.tup_inv
      exact add_tups S lz z ex rr lz' z' ey rs hl hQ
    · obtain ⟨x, vs, n, rfl, lz, z, ex, rr⟩ := qa.lst_inv
      obtain ⟨y, ws, m, rfl, lz', z', ey, rs⟩ := qb.lst_inv
      exact add_lsts S ex rr ey rs hl hQ
  · exact hints (bin_inv (.inl rfl) e)
  · rcases bin2_inv e with h | ⟨x, n, rfl, rfl, hs, rfl⟩
    · exact hints h
    · obtain ⟨x, vs, n, rfl, lz, z, ex, rr⟩ := qa.lst_inv
      obtain ⟨t, rfl⟩ := qb.int_inv
      obtain ⟨v, ws, rfl, r, rs⟩ := rr.cons_inv
      obtain rfl := rs.nil_inv
      exact mul_lst S ex r hs hQ
  · exact hints (bin_inv (.inr (.inl rfl)) e)
  · exact hints (bin_inv (.inr (.inr rfl)) e)
end
end Mine
end
section
open PySem PySem.W PyProof.Rows PySem.Calls
namespace Mine
mutual
noncomputable def pd : AV → PyData
  | .none => .none
  | .bool b => .bool b
  | .int i => .int i
  | .str k => .str (TT k)
  | .tup xs => .tuple (pds xs)
  | .lst xs => .list (pds xs)
  | _ => .none
noncomputable def pds : List AV → List PyData
  | [] => []
  | x :: xs => pd x :: pds xs
end
section
variable {h : Heap} {Z : Addr → Prop} {ρ : List Addr}
theorem noFls {p : Prop} (h : false = true) : p := Bool.noConfusion h
theorem reads_all : (∀ {x v}, VRel h Z ρ x v → ∀ n, dat n x = true → ∃ as, Reads h v (pd x) as) ∧ (∀ {xs vs}, VRels h Z ρ xs vs → ∀ n, dats n xs = true → ∃ as, ReadsAll h vs (pds xs) as) ∧ ∀ {ks fs es}, FRel h Z ρ ks fs es → True :=
  VRel.ind (P := fun x v => ∀ n, dat n x = true → ∃ as, Reads h v (pd x) as) (Q := fun xs vs => ∀ n, dats n xs = true → ∃ as, ReadsAll h vs (pds xs) as) (R := fun zz zz zz => True) (fun zz zz => ⟨_, .none⟩) (fun b zz zz => ⟨_, .bool b⟩) (fun i t zz zz => ⟨_, .int i t⟩) (fun k t zz zz => ⟨_, .str _ t⟩)
    (fun zz zz zz zz d => noFls d) (fun zz zz zz zz d => noFls d)
    (fun xs a vs m lz z e r n d => match n, d with
      | 0, d => noFls d
      | n + 1, d => (r n d).elim fun as q => ⟨as, .tuple e rfl rfl q⟩)
    (fun xs a vs m lz z e r n d => match n, d with
      | 0, d => noFls d
      | n + 1, d => (r n d).elim fun as q => ⟨a :: as, .list e rfl rfl q⟩)
    (fun zz zz zz zz zz zz zz zz zz zz zz zz zz zz zz d => noFls d) (fun zz zz zz zz zz zz zz zz zz zz zz zz zz zz zz zz zz zz zz zz zz zz zz zz zz zz zz zz zz zz zz d => noFls d)
    (fun zz zz zz zz d => noFls d) (fun zz zz zz zz d => noFls d) (fun zz zz zz zz zz zz zz zz zz d => noFls d) (fun zz zz => ⟨_, .nil⟩)
    (fun x v xs vs p q n d => (p n (Bool.and_eq_true_iff.mp d).1).elim fun as a => (q n (Bool.and_eq_true_iff.mp d).2).elim fun bs b => ⟨_, .cons a b⟩) trivial (fun zz zz zz zz zz zz zz zz zz zz => trivial)
theorem VRel.reads {x : AV} {v : Value} (n : Nat) (r : VRel h Z ρ x v) (d : dat n x = true) : ∃ as, Reads h v (pd x) as := reads_all.1 r n d
theorem VRels.reads {xs : List AV} {vs : List Value} (n : Nat) (r : VRels h Z ρ xs vs) (d : dats n xs = true) : ∃ as, ReadsAll h vs (pds xs) as := reads_all.2.1 r n d
end
theorem TL_ok : ∀ k, Nat.blt k 316 = true → PyData.strOk (TT k) = true := by
  intro k hk
  have : TL.all (fun s => PyData.strOk s) = true := by decide +kernel
  have hl : TL.length = 316 := by decide +kernel
  have hk := Nat.blt_eq.mp hk
  unfold TT
  rw [List.getElem?_eq_getElem (by lia)]
  exact List.all_eq_true.mp this _ (List.getElem_mem _)
mutual
theorem pd_lay : ∀ (n : Nat) (x : AV), dat n x = true → (pd x).canLay0 = true ∧ (pd x).depth ≤ n
  | n, .none, _ => ⟨rfl, Nat.zero_le _⟩
  | n, .bool b, _ => ⟨rfl, Nat.zero_le _⟩
  | n, .int i, _ => ⟨rfl, Nat.zero_le _⟩
  | n, .str k, d => ⟨TL_ok k d, Nat.zero_le _⟩
  | 0, .tup xs, d => noFls d
  | n + 1, .tup xs, d => ⟨(pds_lay n xs d).1, Nat.succ_le_succ (pds_lay n xs d).2⟩
  | 0, .lst xs, d => noFls d
  | n + 1, .lst xs, d => ⟨(pds_lay n xs d).1, Nat.succ_le_succ (pds_lay n xs d).2⟩
  | _, .glob _, d => noFls d
  | _, .loc _, d => noFls d
  | _, .tree _, d => noFls d
  | _, .node _, d => noFls d
  | _, .fin _ _ _, d => noFls d
  | _, .vec _ _, d => noFls d
  | _, .rng _ _, d => noFls d
theorem pds_lay : ∀ (n : Nat) (xs : List AV), dats n xs = true → PyData.canLayAll0 (pds xs) = true ∧ PyData.depthAll (pds xs) ≤ n
  | n, [], _ => ⟨rfl, Nat.zero_le _⟩
  | n, x :: xs, d => by
    obtain ⟨d1, d2⟩ := Bool.and_eq_true_iff.mp (show (dat n x && dats n xs) = true from d)
    have a := pd_lay n x d1
    have b := pds_lay n xs d2
    exact ⟨Bool.and_eq_true_iff.mpr ⟨a.1, b.1⟩, Nat.max_le.mpr ⟨a.2, b.2⟩⟩
end
theorem str_eqv (a b : Nat) : (TT a == TT b) = Nat.beq a b := by
  cases q : Nat.beq a b with
  | true => rw [Nat.eq_of_beq_eq_true q]; simp
  | false =>
    rw [beq_eq_false_iff_ne]
    intro e
    have := TT_inj e
    subst this
    simp at q
theorem eqv_none {m : Nat} {y : AV} (d : dat m y = true) : PyData.eqv .none (pd y) = veq .none y := by cases y <;> first | rfl | exact noFls d
theorem eqv_bool {b : Bool} {m : Nat} {y : AV} (d : dat m y = true) : PyData.eqv (.bool b) (pd y) = veq (.bool b) y := by cases y <;> first | rfl | exact noFls d
theorem eqv_int {b : Int} {m : Nat} {y : AV} (d : dat m y = true) : PyData.eqv (.int b) (pd y) = veq (.int b) y := by cases y <;> first | rfl | exact noFls d
theorem eqv_str {b : Nat} {m : Nat} {y : AV} (d : dat m y = true) : PyData.eqv (.str (TT b)) (pd y) = veq (.str b) y := by cases y <;> first | rfl | exact noFls d | exact str_eqv _ _
theorem eqv_tup {xs : List PyData} {zs : List AV} {m : Nat} {y : AV} (k : ∀ m ys, dats m ys = true → PyData.eqvAll xs (pds ys) = veqs zs ys) (d : dat m y = true) : PyData.eqv (.tuple xs) (pd y) = veq (.tup zs) y := by
  cases y with
  | tup ys =>
    cases m with
    | zero => exact noFls d
    | succ m => exact k m ys d
  | _ => first | rfl | exact noFls d
theorem eqv_lst {xs : List PyData} {zs : List AV} {m : Nat} {y : AV} (k : ∀ m ys, dats m ys = true → PyData.eqvAll xs (pds ys) = veqs zs ys) (d : dat m y = true) : PyData.eqv (.list xs) (pd y) = veq (.lst zs) y := by
  cases y with
  | lst ys =>
    cases m with
    | zero => exact noFls d
    | succ m => exact k m ys d
  | _ => first | rfl | exact noFls d
mutual
theorem pd_eqv : ∀ (n m : Nat) (x y : AV), dat n x = true → dat m y = true → PyData.eqv (pd x) (pd y) = veq x y
  | _, _, .none, _, _, dy => eqv_none dy
  | _, _, .bool b, _, _, dy => eqv_bool dy
  | _, _, .int i, _, _, dy => eqv_int dy
  | _, _, .str k, _, _, dy => eqv_str dy
  | 0, _, .tup xs, _, dx, _ => noFls dx
  | n + 1, _, .tup xs, _, dx, dy => eqv_tup (fun m ys d => pds_eqv n m xs ys dx d) dy
  | 0, _, .lst xs, _, dx, _ => noFls dx
  | n + 1, _, .lst xs, _, dx, dy => eqv_lst (fun m ys d => pds_eqv n m xs ys dx d) dy
  | _, _, .glob _, _, d, _ => noFls d
  | _, _, .loc _, _, d, _ => noFls d
  | _, _, .tree _, _, d, _ => noFls d
  | _, _, .node _, _, d, _ => noFls d
  | _, _, .fin _ _ _, _, d, _ => noFls d
  | _, _, .vec _ _, _, d, _ => noFls d
  | _, _, .rng _ _, _, d, _ => noFls d
theorem pds_eqv : ∀ (n m : Nat) (xs ys : List AV), dats n xs = true → dats m ys = true → PyData.eqvAll (pds xs) (pds ys) = veqs xs ys
  | _, _, [], [], _, _ => rfl
  | _, _, [], _ :: _, _, _ => rfl
  | _, _, _ :: _, [], _, _ => rfl
  | n, m, x :: xs, y :: ys, dx, dy => by
    obtain ⟨a1, a2⟩ := Bool.and_eq_true_iff.mp (show (dat n x && dats n xs) = true from dx)
    obtain ⟨b1, b2⟩ := Bool.and_eq_true_iff.mp (show (dat m y && dats m ys) = true from dy)
    exact congr (congrArg and (pd_eqv n m x y a1 b1)) (pds_eqv n m xs ys a2 b2)
end
theorem pds_any (v : AV) (hv : dat 8 v = true) : ∀ (ys : List AV), dats 7 ys = true → ((pds ys).any fun y => PyData.eqv y (pd v)) = ys.any fun y => veq y v
  | [], _ => rfl
  | y :: ys, d => by
    obtain ⟨d1, d2⟩ := Bool.and_eq_true_iff.mp (show (dat 7 y && dats 7 ys) = true from d)
    exact congr (congrArg or (pd_eqv 7 8 y v d1 hv)) (pds_any v hv ys d2)
section
variable {w : World} {hb : Heap} {Φ : List Env} {A : Around} {σ : Sto} {s : Shared} {Z : Addr → Prop} {ρ : List Addr} {Q : Value → Shared → Prop} {E : Value → Shared → Prop}
theorem VRels.expos {xs : List AV} {vs : List Value} (q : VRels s.heap Z ρ xs vs) : VRels s.heap Z ρ (xs.map expo) vs := by
  induction xs generalizing vs with
  | nil => exact q
  | cons x xs ih => obtain ⟨v, ws, rfl, r, rs⟩ := q.cons_inv; exact .cons _ _ _ _ r.expo (ih rs)
theorem shaped_of {n : Nat} {x : AV} (hn : n ≤ 64) (d : dat n x = true) : SeqAt.shaped (pd x) = true := by
  have := pd_lay n x d
  unfold SeqAt.shaped
  rw [this.1, Bool.true_and]
  exact decide_eq_true (by lia)
theorem eq_any {ne : Bool} {va vb : AV} {a b : Value} {r : Bool} (hu : A.units ≤ 9000) (qa : VRel s.heap Z ρ va a) (qb : VRel s.heap Z ρ vb b) (e : eqAV va vb = some r) (h : Q (.bool (if ne then !r else r)) s) :
    wpAny (model pw w) A (compareOp (if ne then .NotEq else .Eq) a b) Q E s := by
  have hc : cLine = 9900 := rfl
  unfold eqAV at e
  split at e
  · rename_i hd
    rw [Bool.and_eq_true] at hd
    cases e
    obtain ⟨as, ra⟩ := qa.reads 8 hd.1
    obtain ⟨bs, rb⟩ := qb.reads 8 hd.2
    rw [← pd_eqv 8 8 va vb hd.1 hd.2] at h
    cases ne with
    | true => exact ne_dataH ra rb (shaped_of (by decide) hd.1) (shaped_of (by decide) hd.2) (by lia) (by simpa using h)
    | false => exact eq_dataH ra rb (shaped_of (by decide) hd.1) (shaped_of (by decide) hd.2) (by lia) (by simpa using h)
  · cases e
theorem in_seq {ni tup : Bool} {v : AV} {xs : List AV} {a : Value} {x : Addr} {vs : List Value} {n : Nat} {r : Bool} (hu : A.units ≤ 9000) (ho : s.heap.get? x = some (if tup then tupO vs n else lstO vs n)) (rr : VRels s.heap Z ρ xs vs) (qa : VRel s.heap Z ρ v a) (e : memAV v xs = some r)
    (h : Q (.bool (if ni then !r else r)) s) : wpAny (model pw w) A (compareOp (if ni then .NotIn else .In) a (.ref x)) Q E s := by
  have hc : cLine = 9900 := rfl
  unfold memAV at e
  split at e
  · rename_i hd
    rw [Bool.and_eq_true] at hd
    cases e
    obtain ⟨as, ra⟩ := qa.reads 8 hd.2
    obtain ⟨bs, rb⟩ := (VRels.expos rr).reads 7 hd.1
    have la := pd_lay 8 v hd.2
    have lb := pds_lay 7 _ hd.1
    rw [← pds_any v hd.2 _ hd.1] at h
    have room : A.units + 1 + min (PyData.depthAll (pds (xs.map expo))) (pd v).depth < cLine := by lia
    cases tup with
    | true =>
      have rc : Reads s.heap (.ref x) (.tuple (pds (xs.map expo))) bs := .tuple ho rfl rfl (by simpa using rb)
      cases ni with
      | true => exact SeqAt.notIn_tuple_reads rc ra (by simpa [PyData.canLay0] using lb.1) la.1 room (by simpa using h)
      | false => exact SeqAt.in_tuple_reads rc ra (by simpa [PyData.canLay0] using lb.1) la.1 room (by simpa using h)
    | false =>
      have rc : Reads s.heap (.ref x) (.list (pds (xs.map expo))) (x :: bs) := .list ho rfl rfl (by simpa using rb)
      cases ni with
      | true => exact SeqAt.notIn_list_reads rc ra (by simpa [PyData.canLay0] using lb.1) la.1 room (by simpa using h)
      | false => exact SeqAt.in_list_reads rc ra (by simpa [PyData.canLay0] using lb.1) la.1 room (by simpa using h)
  · cases e
end
end Mine
end
section
open PySem PySem.W PyProof.Rows PySem.Calls
namespace Mine
noncomputable def copOf : Nat → CmpOp
  | 0 => .Eq | 1 => .NotEq | 2 => .Lt | 3 => .LtE | 4 => .Gt | 5 => .GtE | 6 => .Is | 7 => .IsNot | 8 => .In | _ => .NotIn
section
variable {w : World} {hb : Heap} {Φ : List Env} {A : Around} {σ : Sto} {s : Shared} {Z : Addr → Prop} {ρ : List Addr} {Q : Value → Shared → Prop} {E : Value → Shared → Prop}
theorem gl_none {g : Nat} (ek : GL.lookup g = some Value.none) : False := by
  have mem : ∀ {l : List (Nat × Value)}, l.lookup g = some Value.none → (g, Value.none) ∈ l := by
    intro l
    induction l with
    | nil => intro e; exact non e
    | cons p r ih =>
      intro e
      obtain ⟨a, b⟩ := p
      rw [List.lookup_cons] at e
      cases q : g == a with
      | true => rw [q] at e; cases e; rw [beq_iff_eq.mp q]; exact .head _
      | false => rw [q] at e; exact .tail _ (ih e)
  have := List.all_eq_true.mp (show (GL.all fun p => !(p.2 == Value.none)) = true by decide +kernel) _ (mem ek)
  simp at this
noncomputable def NoneI (a : Value) (r : Bool) : Prop := (a = .none ∧ r = true) ∨ (a ≠ .none ∧ r = false)
theorem none_of {va : AV} {a : Value} {r : Bool} (q : VRel s.heap Z ρ va a) (e : isNone va = some r) : NoneI a r := by
  cases q with
  | none => exact Or.inl ⟨rfl, (Option.some.inj e).symm⟩
  | glob k v ek => exact non e
  | tree t v r => exact non e
  | node t v r => exact non e
  | rng a b r t u w z ee => exact non e
  | _ => exact Or.inr ⟨nofun, (Option.some.inj e).symm⟩
theorem none_any {ne : Bool} {va : AV} {a : Value} {r : Bool} (q : VRel s.heap Z ρ va a) (e : isNone va = some r ∨ ((∃ g, va = .glob g) ∧ r = false)) (h : Q (.bool (if ne then !r else r)) s) : wpAny (model pw w) A (compareOp (if ne then .IsNot else .Is) a .none) Q E s := by
  have : NoneI a r := e.elim (none_of q) fun ⟨⟨g, eg⟩, er⟩ => .inr ⟨fun hv => gl_none (g := g) (hv ▸ (eg ▸ q).glob_inv), er⟩
  clear e q
  rcases this with ⟨rfl, rfl⟩ | ⟨h1, rfl⟩
  · cases ne with
    | true => exact wpAny_isNot_self rfl h
    | false => exact wpAny_is_self rfl h
  · cases ne with
    | true => exact isnot_none_ne h1 h
    | false => exact is_none_ne h1 h
theorem valueAt_some : ∀ (P : List (Int × Value)) (i : Int), (valueAt P i).isSome = (P.map (·.1)).contains i
  | [], _ => rfl
  | p :: r, i => by
    have ih := valueAt_some r i
    unfold valueAt at ih ⊢
    rw [List.find?_cons, List.map_cons, List.contains_cons, ← ih]
    by_cases q : p.1 = i
    · rw [decide_eq_true q]; simp [q]
    · rw [decide_eq_false q]
      have : (i == p.1) = false := by rw [beq_eq_false_iff_ne]; exact fun e => q e.symm
      rw [this]; simp
theorem cmpI_inv {op : Nat} {u v : AV} {r : Bool} (ho : op = 2 ∨ op = 3 ∨ op = 4 ∨ op = 5) (e : cmpOf op u v = some r) : ∃ x y, u = .int x ∧ v = .int y := by
  rcases ho with rfl | rfl | rfl | rfl <;>
  · cases u with
    | int x =>
      cases v with
      | int y => exact ⟨x, y, rfl, rfl⟩
      | _ => exact non e
    | _ => exact non e
theorem cmp6_inv {u v : AV} {r : Bool} (e : cmpOf 6 u v = some r) : v = .none ∧ isNone u = some r := by
  cases v with
  | none => exact ⟨rfl, e⟩
  | _ => exact non e
theorem cmp7_inv {u v : AV} {r : Bool} (e : cmpOf 7 u v = some r) : v = .none ∧ (isNone u).map (!·) = some r := by
  cases v with
  | none => exact ⟨rfl, e⟩
  | _ => exact non e
noncomputable def MemI (u v : AV) (f : List AV → Option Bool) (r : Bool) : Prop := ∃ xs, f xs = some r ∧ (v = .tup xs ∨ v = .lst xs)
theorem cmp8_inv {u v : AV} {r : Bool} (e : cmpOf 8 u v = some r) : MemI u v (memAV u) r := by
  cases v with
  | tup xs => exact ⟨xs, e, .inl rfl⟩
  | lst xs => exact ⟨xs, e, .inr rfl⟩
  | _ => exact non e
theorem cmp9_inv {u v : AV} {r : Bool} (e : cmpOf 9 u v = some r) : MemI u v (fun xs => (memAV u xs).map (!·)) r := by
  cases v with
  | tup xs => exact ⟨xs, e, .inl rfl⟩
  | lst xs => exact ⟨xs, e, .inr rfl⟩
  | _ => exact non e
noncomputable def CmpS (σ : Sto) (op : Nat) (a b : AV) (r : Bool) (X : Prop) : Prop := cmpOf op (expo a) (expo b) = some r ∨ X
theorem cmpS6 {a b : AV} {r : Bool} (e : cmpS σ 6 a b = some r) : CmpS σ 6 a b r ((∃ g, a = .glob g) ∧ b = .none ∧ r = false) := by
  cases a with
  | glob g =>
    cases b with
    | none => exact .inr ⟨⟨g, rfl⟩, rfl, (Option.some.inj e).symm⟩
    | _ => exact .inl e
  | _ => exact .inl e
theorem cmpS7 {a b : AV} {r : Bool} (e : cmpS σ 7 a b = some r) : CmpS σ 7 a b r ((∃ g, a = .glob g) ∧ b = .none ∧ r = true) := by
  cases a with
  | glob g =>
    cases b with
    | none => exact .inr ⟨⟨g, rfl⟩, rfl, (Option.some.inj e).symm⟩
    | _ => exact .inl e
  | _ => exact .inl e
noncomputable def inD (o : Option AO) (i : Int) : Option Bool := match o with
  | some (.idict ks) => some (ks.contains i)
  | _ => none
theorem inD_inv {o : Option AO} {i : Int} {r : Bool} (e : inD o i = some r) : ∃ ks, o = some (.idict ks) ∧ r = ks.contains i := by
  cases o with
  | none => exact non e
  | some o =>
    cases o with
    | idict ks => exact ⟨ks, rfl, (Option.some.inj e).symm⟩
    | _ => exact non e
noncomputable def ninL (o : Option AO) (k : Nat) : Option Bool := match o with
  | some (.list xs) => (memAV (.str k) xs).map (!·)
  | _ => none
theorem ninL_inv {o : Option AO} {k : Nat} {r : Bool} (e : ninL o k = some r) : ∃ xs, o = some (.list xs) ∧ (memAV (.str k) xs).map (!·) = some r := by
  cases o with
  | none => exact non e
  | some o =>
    cases o with
    | list xs => exact ⟨xs, rfl, e⟩
    | _ => exact non e
theorem cmpS8 {a b : AV} {r : Bool} (e : cmpS σ 8 a b = some r) : CmpS σ 8 a b r (∃ i l, a = .int i ∧ b = .loc l ∧ inD σ[l]? i = some r) := by
  cases a with
  | int i =>
    cases b with
    | loc l => exact .inr ⟨i, l, rfl, rfl, e⟩
    | _ => exact .inl e
  | _ => exact .inl e
theorem cmpS9 {a b : AV} {r : Bool} (e : cmpS σ 9 a b = some r) : CmpS σ 9 a b r (∃ i l, a = .str i ∧ b = .loc l ∧ ninL σ[l]? i = some r) := by
  cases a with
  | str i =>
    cases b with
    | loc l => exact .inr ⟨i, l, rfl, rfl, e⟩
    | _ => exact .inl e
  | _ => exact .inl e
theorem not_mods (S : St w hb Φ s.heap Z ρ σ) (sm : ∃ o, hb.get? sysModules = some o) {l : Nat} {x : Addr} (el : ρ[l]? = some x) : (x == sysModules) = false := by
  rw [beq_eq_false_iff_ne]
  intro q
  obtain ⟨o, ho⟩ := sm
  have := S.nb x (.inl (List.mem_of_getElem? el))
  rw [q, ho] at this
  exact nomatch this
theorem cmp_ints {op : Nat} {va vb : AV} {a b : Value} {r : Bool} (ho : op = 2 ∨ op = 3 ∨ op = 4 ∨ op = 5) (qa : VRel s.heap Z ρ va a) (qb : VRel s.heap Z ρ vb b) (e : cmpOf op va vb = some r) (h0 : Q (.bool r) s) : wpAny (model pw w) A (compareOp (copOf op) a b) Q E s := by
  obtain ⟨x, y, rfl, rfl⟩ := cmpI_inv ho e
  refine qa.int_el fun t => ?_
  refine qb.int_el fun u => ?_
  rcases ho with rfl | rfl | rfl | rfl
  · exact PySem.P.lt_int ((Option.some.inj e : decide (x < y) = r) ▸ h0)
  · exact PySem.P.le_int ((Option.some.inj e : decide (x ≤ y) = r) ▸ h0)
  · exact PySem.P.gt_int ((Option.some.inj e : decide (x > y) = r) ▸ h0)
  · exact PySem.P.ge_int ((Option.some.inj e : decide (x ≥ y) = r) ▸ h0)
theorem cmp_mem {ni : Bool} {u v : AV} {a b : Value} {r r' : Bool} (hu : A.units ≤ 9000) (qa : VRel s.heap Z ρ u a) (qb : VRel s.heap Z ρ v b) {xs : List AV} (e : memAV u xs = some r) (hv : v = .tup xs ∨ v = .lst xs) (hr : r' = if ni then !r else r) (h0 : Q (.bool r') s) :
    wpAny (model pw w) A (compareOp (if ni then .NotIn else .In) a b) Q E s := by
  subst hr
  rcases hv with rfl | rfl
  · refine qb.tup_el fun x vs n lz z ex rr => ?_
    exact in_seq (ni := ni) (tup := true) hu ex rr qa e h0
  · refine qb.lst_el fun x vs n lz z ex rr => ?_
    exact in_seq (ni := ni) (tup := false) hu ex rr qa e h0
theorem map_not {o : Option Bool} {r : Bool} (e : o.map (!·) = some r) : ∃ r', o = some r' ∧ r = !r' := by
  obtain ⟨r', e1, e2⟩ := Option.map_eq_some_iff.mp e
  exact ⟨r', e1, e2.symm⟩
theorem ten : ∀ op, op ≤ 9 → (op = 0 ∨ op = 1 ∨ (op = 2 ∨ op = 3 ∨ op = 4 ∨ op = 5) ∨ op = 6 ∨ op = 7 ∨ op = 8 ∨ op = 9) := by decide
theorem op_cmp {op : Nat} {va vb : AV} {a b : Value} {r : Bool} (S : St w hb Φ s.heap Z ρ σ) (hop : op ≤ 9) (hu : A.units ≤ 9000) (sm : ∃ o, hb.get? sysModules = some o) (qa : VRel s.heap Z ρ va a) (qb : VRel s.heap Z ρ vb b) (e : cmpS σ op va vb = some r) (h : ∀ tk, Q (.bool r) { s with toks := tk }) :
    wpAny (model pw w) A (compareOp (copOf op) a b) Q E s := by
  have h0 : Q (.bool r) s := h s.toks
  rcases ten op hop with rfl | rfl | ho | rfl | rfl | rfl | rfl
  · exact eq_any (ne := false) hu qa.expo qb.expo e h0
  · obtain ⟨r', e1, rfl⟩ := map_not (o := eqAV (expo va) (expo vb)) e
    exact eq_any (ne := true) hu qa.expo qb.expo e1 h0
  · refine cmp_ints ho qa.expo qb.expo ?_ h0
    rcases ho with rfl | rfl | rfl | rfl <;> exact e
  · rcases cmpS6 e with e | ⟨hg, rfl, rfl⟩
    · obtain ⟨e1, e2⟩ := cmp6_inv e
      obtain rfl := (e1 ▸ qb.expo).none_inv
      exact none_any (ne := false) qa.expo (.inl e2) h0
    · obtain rfl := qb.none_inv
      exact none_any (ne := false) qa (.inr ⟨hg, rfl⟩) h0
  · rcases cmpS7 e with e | ⟨hg, rfl, rfl⟩
    · obtain ⟨e1, e2⟩ := cmp7_inv e
      obtain ⟨r', e3, rfl⟩ := map_not e2
      obtain rfl := (e1 ▸ qb.expo).none_inv
      exact none_any (ne := true) qa.expo (.inl e3) h0
    · obtain rfl := qb.none_inv
      exact none_any (ne := true) qa (.inr ⟨hg, rfl⟩) h0
  · rcases cmpS8 e with e | ⟨i, l, rfl, rfl, e⟩
    · obtain ⟨xs, e1, e2⟩ := cmp8_inv e
      exact cmp_mem (ni := false) hu qa.expo qb.expo e1 e2 rfl h0
    · obtain ⟨ks, hk, rfl⟩ := inD_inv e
      refine qa.int_el fun t => ?_
      refine qb.loc_el fun x el => ?_
      obtain ⟨x', o, rx, gx, P, hd, hks, _⟩ := S.ob _ _ hk
      cases Option.some.inj (el.symm.trans rx)
      have M : s.heap.MapOf (PySem.intKind pw w) x (valueAt P) := (Heap.dictOf_iff.mpr ⟨o, gx, hd⟩).mapOf
      have hm : ∀ i, (valueAt P i).isSome = ks.contains i := fun i => by rw [← hks]; exact valueAt_some P i
      exact wpAny_in_of (k := i) (by simp [PySem.intKind, Value.isInt]) (not_mods S sm el) M (hm i ▸ h _)
  · rcases cmpS9 e with e | ⟨k, l, rfl, rfl, e⟩
    · obtain ⟨xs, e1, e2⟩ := cmp9_inv e
      obtain ⟨r', e3, rfl⟩ := map_not e1
      exact cmp_mem (ni := true) hu qa.expo qb.expo e3 e2 rfl h0
    · obtain ⟨xs, hk, e1⟩ := ninL_inv e
      refine qa.str_el fun t => ?_
      refine qb.loc_el fun x el => ?_
      obtain ⟨x', o, rx, gx, vs, n, rfl, rr, lz⟩ := S.ob _ _ hk
      cases Option.some.inj (el.symm.trans rx)
      obtain ⟨r', e3, rfl⟩ := map_not e1
      exact in_seq (ni := true) (tup := false) hu gx rr (.str k t) e3 h0
noncomputable def noD (o : Option AO) : Option Bool := match o with
  | some (.dict []) => some false
  | _ => none
theorem noD_inv {o : Option AO} {r : Bool} (e : noD o = some r) : o = some (.dict []) ∧ r = false := by
  cases o with
  | none => exact non e
  | some o =>
    cases o with
    | dict kvs =>
      cases kvs with
      | nil => exact ⟨rfl, (Option.some.inj e).symm⟩
      | cons _ _ => exact non e
    | _ => exact non e
noncomputable def TruthI (σ : Sto) (v : AV) (b : Bool) : Prop := (v = .none ∧ b = false) ∨ v = .bool b ∨ (∃ i, v = .int i ∧ b = decide (i ≠ 0)) ∨ (∃ xs, v = .lst xs ∧ b = !xs.isEmpty) ∨ ∃ l, v = .loc l ∧ σ[l]? = some (.dict []) ∧ b = false
theorem truth_inv {v : AV} {b : Bool} (e : truthOf σ v = some b) : TruthI σ v b := by
  cases v with
  | none => exact Or.inl ⟨rfl, (Option.some.inj e).symm⟩
  | bool c => exact Or.inr (Or.inl (congrArg AV.bool (Option.some.inj e)))
  | int i => exact Or.inr (Or.inr (Or.inl ⟨i, rfl, (Option.some.inj e).symm⟩))
  | lst xs => exact Or.inr (Or.inr (Or.inr (Or.inl ⟨xs, rfl, (Option.some.inj e).symm⟩)))
  | loc l => exact Or.inr (Or.inr (Or.inr (Or.inr ⟨l, rfl, noD_inv (o := σ[l]?) e⟩)))
  | _ => exact non e
theorem VRels.empty {h : Heap} {xs : List AV} {vs : List Value} (rr : VRels h Z ρ xs vs) : vs.toArray.isEmpty = xs.isEmpty := by
  cases xs with
  | nil => obtain rfl := rr.nil_inv; rfl
  | cons _ _ => obtain ⟨_, _, rfl, _⟩ := rr.cons_inv; simp
theorem op_truth {v : AV} {a : Value} {b : Bool} {Q : Bool → Shared → Prop} (S : St w hb Φ s.heap Z ρ σ) (sm : ∃ o, hb.get? sysModules = some o) (q : VRel s.heap Z ρ v a) (e : truthOf σ v = some b) (h : ∀ tk, Q b { s with toks := tk }) : wpAny (model pw w) A (truthy a) Q E s := by
  have h0 : Q b s := h s.toks
  rcases truth_inv e with ⟨rfl, rfl⟩ | rfl | ⟨i, rfl, rfl⟩ | ⟨xs, rfl, rfl⟩ | ⟨l, rfl, hk, rfl⟩
  · obtain rfl := q.none_inv; exact truthy_none h0
  · obtain rfl := q.bool_inv; exact wpAny_truthy_bool h0
  · refine q.int_el fun t => ?_
    refine PySem.P.truthy_int ?_
    rw [show (i != 0) = decide (i ≠ 0) by rw [Bool.eq_iff_iff]; simp]
    exact h0
  · refine q.lst_el fun x vs n lz z ex rr => ?_
    have ln := rr.length
    refine wpAny_truthy_list (items := vs.toArray) ⟨_, ex, rfl, n, rfl⟩ (by simp; lia) ?_
    rw [rr.empty]
    exact h _
  · refine q.loc_el fun x el => ?_
    obtain ⟨x', o, rx, gx, f, hm, _, hn, _⟩ := S.ob _ _ hk
    cases Option.some.inj (el.symm.trans rx)
    obtain ⟨n, rfl⟩ := hn rfl
    have D : s.heap.DictOf (PySem.strKind pw w) x [] := ⟨_, #[], n, gx, ⟨rfl, rfl, rfl⟩, rfl, (fun zz he => by simp at he), .nil, by simp⟩
    exact wpAny_truthy_dict (not_mods S sm el) D (by decide) (by simpa using h _)
theorem op_neg {i : Int} {a : Value} (S : St w hb Φ s.heap Z ρ σ) (q : VRel s.heap Z ρ (.int i) a) (hQ : OpQ w hb Φ s Z ρ σ (.int (-i)) Q) : wpAny (model pw w) A (unaryOp .USub a) Q E s := by
  refine q.int_el fun t => ?_
  exact PySem.P.neg_int (hQ.same S (.int _ _))
end
end Mine
end
section
open PySem PySem.W PyProof.Rows PySem.Calls
namespace Mine
section
variable {w : World} {hb h' : Heap} {Φ : List Env} {A : Around} {σ : Sto} {s : Shared} {Z : Addr → Prop} {ρ : List Addr} {Q : Value → Shared → Prop} {E : Value → Shared → Prop}
theorem post_keep {h : Heap} {ex : Addr → Prop} (k : ∀ b o, h.get? b = some o → h'.get? b = some o) : Post ex h Z ρ h' Z ρ :=
  ⟨fun b o e => ⟨o, k b o e⟩, ⟨[], by simp, by simp⟩, fun zz z => z, fun zz z => .inl z, fun b o e zz zz => ⟨o, k b o e, Chg.refl⟩⟩
theorem St.keep {h : Heap} (S : St w hb Φ h Z ρ σ) (k : ∀ b o, h.get? b = some o → h'.get? b = some o) : St w hb Φ h' Z ρ σ :=
  S.step (fun a o e zz => k a o e) fun e m => (S.fr e m).post S (post_keep (ex := no) k)
theorem OpQ.keeps {r : AV} {a : Value} {tk : Nat} (hQ : OpQ w hb Φ s Z ρ σ r Q) (S : St w hb Φ s.heap Z ρ σ) (k : ∀ b o, s.heap.get? b = some o → h'.get? b = some o) (q : VRel h' Z ρ r a) : Q a { s with heap := h', toks := tk } := hQ a h' Z ρ tk (S.keep k) q (post_keep k)
theorem adjust_upto (b n : Nat) : Builtin.Slice.sliceAdjust none (some (b : Int)) 1 (n : Int) = (0, ((min b n : Nat) : Int)) := by
  unfold Builtin.Slice.sliceAdjust
  have h1 : ¬ ((1 : Int) < 0) := by lia
  have h2 : ¬ ((b : Int) < 0) := by lia
  simp only [h1, h2, if_false]
  congr 1
  lia
theorem places_upto (m : Nat) : Builtin.Slice.slicePlaces 0 (m : Int) 1 = m := by
  unfold Builtin.Slice.slicePlaces
  have h1 : (1 : Int) > 0 := by lia
  simp only [h1, if_true, Int.ediv_one]
  split <;> lia
theorem sliceApplied_upto {sl : Addr} {b n : Nat} {u : Tok} {Q : Int × Int × Nat → Shared → Prop} (hs : s.heap.IsSliceOf sl .none (.int b u) .none) (h : Q (0, 1, min b n) s) :
    wpAny (model pw w) A (Builtin.Slice.sliceApplied (.ref sl) (pure (n : Int))) Q E s := by
  obtain ⟨os, hos, hcs, hds⟩ := id hs
  unfold Builtin.Slice.sliceApplied Builtin.Slice.sliceFields
  refine wpAny_bind (wpAny_bind (wpAny_field hos hds (x := .none) rfl (wpAny_bind (wpAny_field hos hds (x := .int b u) rfl (wpAny_bind (wpAny_field hos hds (x := .none) rfl (wpAny_pure ?_)))))))
  refine wpAny_bind (slicePart_none ?_)
  show wpAny _ _ (if ((1 : Int) == 0) = true then _ else _) _ _ s
  rw [if_neg (by decide)]
  refine wpAny_bind (slicePart_none (wpAny_bind (slicePart_int (wpAny_bind (wpAny_pure ?_)))))
  show wpAny _ _ (match Builtin.Slice.sliceAdjust none (some (b : Int)) 1 (n : Int) with | (lo, hi) => pure (lo, (1 : Int), Builtin.Slice.slicePlaces lo hi 1)) _ _ s
  rw [adjust_upto b n]
  show wpAny _ _ (pure ((0 : Int), (1 : Int), Builtin.Slice.slicePlaces 0 ((min b n : Nat) : Int) 1)) _ _ s
  rw [places_upto]
  exact wpAny_pure h
theorem pick_upto (xs : Array Value) (m : Nat) (hm : m ≤ xs.size) : ((List.range m).filterMap fun (k : Nat) => xs[((0 : Int) + (k : Int) * 1).toNat]?).toArray = (xs.toList.take m).toArray := by
  have e : (fun (k : Nat) => xs[((0 : Int) + (k : Int) * 1).toNat]?) = fun k => xs[0 + k]? := by
    funext k
    have : ((0 : Int) + (k : Int) * 1).toNat = 0 + k := by lia
    rw [this]
  rw [e]
  have := pick_run xs 0 m
  rw [List.filterMap_map] at this
  have e2 : ((fun x => xs[x]?) ∘ fun x => 0 + x) = fun k => xs[0 + k]? := rfl
  rw [e2] at this
  rw [this, List.drop_zero]
theorem getItem_tuple_upto {t sl : Addr} {items : Array Value} {b : Nat} {u : Tok} (ht : IsTup s.heap t items) (hs : s.heap.IsSliceOf sl .none (.int b u) .none)
    (h1 : items.size ≤ b → Q (.ref t) s) (h2 : b < items.size → Q (.ref s.heap.objs.size) { s with heap := s.heap.push { cls := .type "tuple", data := .seq (items.toList.take b).toArray } })
    (hsz : items.size ≤ sizeLine) : wpAny (model pw w) A (getItem (.ref t) (.ref sl)) Q E s := by
  obtain ⟨os, hos, hcs, hds⟩ := id hs
  have hTs : s.TypeIs (.ref sl) "slice" := ⟨os, hos, hcs⟩
  unfold getItem
  try with_reducible refine wpAny_holding ?_
  first | refine wpAny_bind (wpAny_pure ?_) | skip
  refine wpAny_bind (wpAny_sequenceKey ht.typeIs (by decide) ?_)
  refine wpAny_bind (wpAny_callSpecial?_slot (name := Str.ofString "__getitem__") ht.typeIs slot_tuple_getitem
    (wpAny_call_entry slot_tuple_getitem ht.typeIs entry_tuple_getitem ?_ (args_tuple_getitem _ _)))
  show wpAny _ _ (Builtin.Tuple.tupleItemsOf (.ref t) >>= _) _ _ s
  refine wpAny_bind (tupleItemsOf_ ht ?_)
  refine wpAny_bind (wpAny_typeOf hTs ?_)
  rw [if_pos (by decide)]
  refine wpAny_bind (sliceApplied_upto hs ?_)
  show wpAny _ _ (if ((0 : Int) == 0 && (1 : Int) == 1 && (min b items.size) == items.size) = true then _ else _) _ _ s
  by_cases hb : items.size ≤ b
  · have e : min b items.size = items.size := by lia
    rw [if_pos (by rw [e]; simp)]
    refine wpAny_bind (m := Builtin.Tuple.tupleIsExact _) (wpAny_bind (wpAny_typeOf ht.typeIs (wpAny_pure ?_)))
    show wpAny _ _ (if (Value.type "tuple" == Value.type "tuple") = true then _ else _) _ _ s
    rw [if_pos (by simp)]
    exact wpAny_bind (wpAny_rule (wpAny_pure ⟨_, rfl, wpAny_pure (h1 hb)⟩))
  · have e : min b items.size = b := by lia
    have hne : (b == items.size) = false := by rw [beq_eq_false_iff_ne]; lia
    rw [if_neg (by rw [e, hne]; simp)]
    rw [e, pick_upto items b (by lia)]
    have htake : sizeOk (.seq (items.toList.take b).toArray) := by
      show (items.toList.take b).toArray.size ≤ sizeLine
      rw [List.size_toArray, List.length_take, Array.length_toList]
      lia
    first
      | exact wpAny_bind (m := Builtin.Tuple.tupleExact _) (wpAny_newObj_type (wpAny_pure ⟨_, rfl, wpAny_pure (h2 (by lia))⟩) htake)
      | exact wpAny_bind (m := Builtin.Tuple.tupleExact _) (wpAny_newObj_type (wpAny_bind (wpAny_pure (wpAny_pure ⟨_, rfl, wpAny_pure (h2 (by lia))⟩))) htake)
      | exact wpAny_bind (wpAny_bind (m := Builtin.Tuple.tupleExact _) (wpAny_newObj_type (wpAny_pure (wpAny_pure ⟨_, rfl, wpAny_pure (h2 (by lia))⟩)) htake))
noncomputable def SlI (lo : Int) (u j : AV) (f : List AV → Nat → List AV) (r : AV) : Prop := ∃ xs k t, j = .int (k : Nat) ∧ lo ≤ k ∧ (k < 1000 ∨ k ≤ xs.length) ∧ ((t = true ∧ u = .tup xs ∧ r = .tup (f xs k)) ∨ (t = false ∧ u = .lst xs ∧ r = .lst (f xs k)))
theorem slF_expo (v j : AV) : slF v j = slF (expo v) j := by unfold slF; rw [expo_expo]
theorem slT_expo (v j : AV) : slT v j = slT (expo v) j := by unfold slT; rw [expo_expo]
theorem slF_inv {u j r : AV} (e : slF u j = some r) : SlI 0 (expo u) j (fun xs k => xs.drop k) r ∨ expo u ≠ u := by
  cases u with
  | tree t => exact .inr (by cases t <;> exact nofun)
  | node t => exact .inr (by cases t <;> exact nofun)
  | tup xs =>
    cases j with
    | int i =>
      obtain ⟨h, hr⟩ := if_inv e
      obtain ⟨k, rfl⟩ := Int.eq_ofNat_of_zero_le (show 0 ≤ i by lia)
      exact .inl ⟨xs, k, true, rfl, by lia, .inr h.2, .inl ⟨rfl, rfl, hr⟩⟩
    | _ => exact non e
  | lst xs =>
    cases j with
    | int i =>
      obtain ⟨h, hr⟩ := if_inv e
      obtain ⟨k, rfl⟩ := Int.eq_ofNat_of_zero_le h.1
      exact .inl ⟨xs, k, false, rfl, h.1, .inl (by lia), .inr ⟨rfl, rfl, hr⟩⟩
    | _ => exact non e
  | _ => exact non e
theorem slT_inv {u j r : AV} (e : slT u j = some r) : SlI 0 (expo u) j (fun xs k => xs.take k) r ∨ expo u ≠ u := by
  cases u with
  | tree t => exact .inr (by cases t <;> exact nofun)
  | node t => exact .inr (by cases t <;> exact nofun)
  | tup xs =>
    cases j with
    | int i =>
      obtain ⟨h, hr⟩ := if_inv e
      obtain ⟨k, rfl⟩ := Int.eq_ofNat_of_zero_le h.1
      exact .inl ⟨xs, k, true, rfl, h.1, .inl (by lia), .inl ⟨rfl, rfl, hr⟩⟩
    | _ => exact non e
  | lst xs =>
    cases j with
    | int i =>
      obtain ⟨h, hr⟩ := if_inv e
      obtain ⟨k, rfl⟩ := Int.eq_ofNat_of_zero_le h.1
      exact .inl ⟨xs, k, false, rfl, h.1, .inl (by lia), .inr ⟨rfl, rfl, hr⟩⟩
    | _ => exact non e
  | _ => exact non e
noncomputable abbrev slO (lo hi : Value) : Obj := { cls := .type "slice", data := .fields #[lo, hi, .none] }
theorem push_q {r : AV} {o : Obj} (hQ : OpQ w hb Φ s Z ρ σ r Q) : OpQ w hb Φ { s with heap := s.heap.push o } Z ρ σ r Q := fun a h' Z' ρ' tk x y z => hQ a h' Z' ρ' tk x y ((post_push _).trans z)
theorem new_sl {b : Bool} {xs : List AV} {vs : List Value} {o : Obj} (S : St w hb Φ s.heap Z ρ σ) (lz : xs.length ≤ 20000) (rr : VRels (s.heap.push o) Z ρ xs vs) (hQ : OpQ w hb Φ s Z ρ σ (if b then .tup xs else .lst xs) Q) :
    Q (.ref (s.heap.push o).objs.size) { s with heap := (s.heap.push o).push { cls := .type (if b then "tuple" else "list"), data := .seq vs.toArray } } := by
  have S1 := S.push o
  cases b with
  | true => exact new_tup (s := { s with heap := s.heap.push o }) (tk := s.toks) (m := 0) S1 rr lz (push_q hQ)
  | false => exact new_lst (s := { s with heap := s.heap.push o }) (tk := s.toks) (m := 0) S1 rr lz (push_q hQ)
theorem len_drop {xs : List AV} {k : Nat} (h : xs.length ≤ 20000) : (xs.drop k).length ≤ 20000 := by rw [List.length_drop]; lia
theorem len_take {xs : List AV} {k : Nat} (h : xs.length ≤ 20000) : (xs.take k).length ≤ 20000 := by rw [List.length_take]; lia
theorem std_pushed {h : Heap} {o : Obj} {xs : List AV} {vs : List Value} (rr : VRels h Z ρ xs vs) : VRels (h.push o) Z ρ xs vs := rr.mono (fun zz z => z) (fun zz zz e => e) (std_push o)
theorem le_line {vs : List Value} (h : vs.length ≤ 20000) : vs.toArray.size ≤ sizeLine := by rw [sizeLine_eq, List.size_toArray]; lia
noncomputable abbrev SlG (w : World) (A : Around) (E : Value → Shared → Prop) (Q : Value → Shared → Prop) (s : Shared) (a lo hi : Value) : Prop :=
  (∃ T id, s.TypeIs a T ∧ typeLookup (.type T) "__getitem__" = pure (some (.builtin id))) ∧ wpAny (model pw w) A (getItem a (.ref s.heap.objs.size)) Q E { s with heap := s.heap.push (slO lo hi) }
theorem slF_tup {x : Addr} {xs : List AV} {vs : List Value} {n k : Nat} {t : Tok} (S : St w hb Φ s.heap Z ρ σ) (lz : xs.length ≤ 20000) (ex : s.heap.get? x = some (tupO vs n)) (rr : VRels s.heap Z ρ xs vs) (h1 : 1 ≤ k) (h2 : k ≤ xs.length) (hQ : OpQ w hb Φ s Z ρ σ (.tup (xs.drop k)) Q) :
    SlG w A E Q s (.ref x) (.int k t) .none := by
  have l2 := rr.length
  refine ⟨⟨"tuple", _, ⟨_, ex, rfl⟩, slot_tuple_getitem.lookup⟩, getItem_tuple_from (s := { s with heap := s.heap.push (slO (.int k t) .none) }) (a := k) ⟨_, Heap.get?_push_of_some _ ex, rfl, n, rfl⟩ (Heap.IsSliceOf.new ..) h1 (by rw [List.size_toArray]; lia) ?_ (le_line (by lia))⟩
  have := new_sl (b := true) (o := slO (.int k t) .none) S (len_drop lz) ((std_pushed rr).drop k) hQ
  simpa [tupO] using this
theorem slF_lst {x : Addr} {xs : List AV} {vs : List Value} {n k : Nat} {t : Tok} (S : St w hb Φ s.heap Z ρ σ) (lz : xs.length ≤ 20000) (ex : s.heap.get? x = some (lstO vs n)) (rr : VRels s.heap Z ρ xs vs) (hQ : OpQ w hb Φ s Z ρ σ (.lst (xs.drop k)) Q) :
    SlG w A E Q s (.ref x) (.int k t) .none := by
  have l2 := rr.length
  refine ⟨⟨"list", _, ⟨_, ex, rfl⟩, slot_list_getitem.lookup⟩, wpAny_getItem_list_slice (s := { s with heap := s.heap.push (slO (.int k t) .none) }) (lo := some (k : Int)) (hi := none) (st := none) ⟨_, Heap.get?_push_of_some _ ex, rfl, n, rfl⟩ (Heap.IsSliceOf.new ..) (.int _ _) .none .none (by simp) ?_ (le_line (by lia))⟩
  rw [slicePick_from']
  have := new_sl (b := false) (o := slO (.int k t) .none) S (len_drop lz) ((std_pushed rr).drop k) hQ
  simpa [lstO] using this
theorem slT_tup {x : Addr} {xs : List AV} {vs : List Value} {n k : Nat} {t : Tok} (S : St w hb Φ s.heap Z ρ σ) (lz : xs.length ≤ 20000) (z : Z x) (ex : s.heap.get? x = some (tupO vs n)) (rr : VRels s.heap Z ρ xs vs) (hQ : OpQ w hb Φ s Z ρ σ (.tup (xs.take k)) Q) :
    SlG w A E Q s (.ref x) .none (.int k t) := by
  have l2 := rr.length
  refine ⟨⟨"tuple", _, ⟨_, ex, rfl⟩, slot_tuple_getitem.lookup⟩, getItem_tuple_upto (s := { s with heap := s.heap.push (slO .none (.int k t)) }) (b := k) (items := vs.toArray) ⟨_, Heap.get?_push_of_some _ ex, rfl, n, rfl⟩ (Heap.IsSliceOf.new ..) (fun hk => ?_) (fun hk => ?_) (le_line (by lia))⟩
  · rw [List.take_of_length_le (show xs.length ≤ k by rw [l2]; simpa using hk)] at hQ
    exact (push_q hQ).same (tk := s.toks) (S.push _) (.tup xs x vs n lz z (Heap.get?_push_of_some _ ex) (std_pushed rr))
  · have := new_sl (b := true) (o := slO .none (.int k t)) S (len_take lz) ((std_pushed rr).take k) hQ
    simpa [tupO] using this
theorem slT_lst {x : Addr} {xs : List AV} {vs : List Value} {n k : Nat} {t : Tok} (S : St w hb Φ s.heap Z ρ σ) (lz : xs.length ≤ 20000) (ex : s.heap.get? x = some (lstO vs n)) (rr : VRels s.heap Z ρ xs vs) (hQ : OpQ w hb Φ s Z ρ σ (.lst (xs.take k)) Q) :
    SlG w A E Q s (.ref x) .none (.int k t) := by
  have l2 := rr.length
  refine ⟨⟨"list", _, ⟨_, ex, rfl⟩, slot_list_getitem.lookup⟩, wpAny_getItem_list_slice (s := { s with heap := s.heap.push (slO .none (.int k t)) }) (lo := none) (hi := some (k : Int)) (st := none) ⟨_, Heap.get?_push_of_some _ ex, rfl, n, rfl⟩ (Heap.IsSliceOf.new ..) .none (.int _ _) .none (by simp) ?_ (le_line (by lia))⟩
  rw [slicePick_upto']
  have := new_sl (b := false) (o := slO .none (.int k t)) S (len_take lz) ((std_pushed rr).take k) hQ
  simpa [lstO] using this
theorem op_slF {v j r : AV} {a ja : Value} (S : St w hb Φ s.heap Z ρ σ) (q : VRel s.heap Z ρ v a) (qj : VRel s.heap Z ρ j ja) (e : slF v j = some r) (hQ : OpQ w hb Φ s Z ρ σ r Q) : SlG w A E Q s a ja .none := by
  rw [slF_expo] at e
  obtain ⟨xs, k, t, rfl, h0, h1, ⟨_, eu, rfl⟩ | ⟨_, eu, rfl⟩⟩ := (slF_inv e).resolve_right (fun h => h (expo_expo v))
  · rw [expo_expo] at eu
    rw [eu] at e
    have h2 := (if_inv e).1
    refine (eu ▸ q.expo).tup_el fun x vs n lz z ex rr => ?_
    refine qj.int_el fun u => ?_
    exact slF_tup S lz ex rr (by lia) (by lia) hQ
  · refine (((expo_expo v).symm.trans eu) ▸ q.expo).lst_el fun x vs n lz z ex rr => ?_
    refine qj.int_el fun u => ?_
    exact slF_lst S lz ex rr hQ
theorem op_slT {v j r : AV} {a ja : Value} (S : St w hb Φ s.heap Z ρ σ) (q : VRel s.heap Z ρ v a) (qj : VRel s.heap Z ρ j ja) (e : slT v j = some r) (hQ : OpQ w hb Φ s Z ρ σ r Q) : SlG w A E Q s a .none ja := by
  rw [slT_expo] at e
  obtain ⟨xs, k, t, rfl, h0, h1, ⟨_, eu, rfl⟩ | ⟨_, eu, rfl⟩⟩ := (slT_inv e).resolve_right (fun h => h (expo_expo v))
  · refine (((expo_expo v).symm.trans eu) ▸ q.expo).tup_el fun x vs n lz z ex rr => ?_
    refine qj.int_el fun u => ?_
    exact slT_tup S lz z ex rr hQ
  · refine (((expo_expo v).symm.trans eu) ▸ q.expo).lst_el fun x vs n lz z ex rr => ?_
    refine qj.int_el fun u => ?_
    exact slT_lst S lz ex rr hQ
end
end Mine
end
section
open PySem PySem.W PyProof.Rows PySem.Calls
namespace Mine
theorem isi_ok : ∀ P : Params, [168, 190].all (fun D => kin_not (K P) D 147 && plainGet (K P) D "__class__" && hasDictIn (K P) D && (findIn (K P) (.ref D) "__class__" == some (some (.builtin "object.__class__"))) &&
    (specialIn (K P) (.builtin "object.__class__") "__get__" == some (some (.builtin "getset_descriptor.__get__"))) && (takesIn (K P) (.builtin "object.__class__") == some true) && (mroIn (K P) D (.type "object") == some true)) = true := by intro P; kernel_rfl
theorem isi_147 : ∀ P : Params, isIn (K P) (.ref 147) 147 = true := by intro P; kernel_rfl
section
variable {w : World} {hb h' : Heap} {Φ : List Env} {A : Around} {σ : Sto} {s : Shared} {Z : Addr → Prop} {ρ : List Addr} {Q : Value → Shared → Prop} {E : Value → Shared → Prop}
theorem isVec_expo (v : AV) : isVec σ v = isVec σ (expo v) := by unfold isVec; rw [expo_expo]
noncomputable def VecI (s : Shared) (a : Value) (b : Bool) : Prop := (b = true ∧ ∃ x d es n, a = .ref x ∧ s.heap.get? x = some (instObj (CA 1) d) ∧ s.heap.get? d = some (dictOf es n)) ∨ (b = false ∧ ∃ x c d es n, (c = 2 ∨ c = 3) ∧ a = .ref x ∧ s.heap.get? x = some (instObj (CA c) d) ∧ s.heap.get? d = some (dictOf es n))
theorem vec_inv {u : AV} {a : Value} {b : Bool} (q : VRel s.heap Z ρ u a) (e : isVec σ u = some b) : VecI s a b ∨ expo u ≠ u := by
  cases q with
  | vec k x a' d e0 e1 e2 e3 e4 n t0 t1 t2 t3 t4 b z zd ex ed k0 k1 k2 k3 k4 r0 r1 r2 r3 r4 => exact .inl (Or.inl ⟨(Option.some.inj e).symm, _, _, _, _, rfl, ex, ed⟩)
  | fin c ks fs a' d es n cc z zd ex ed nsh fr => exact .inl (Or.inr ⟨(Option.some.inj e).symm, _, _, _, _, _, cc, rfl, ex, ed⟩)
  | tree t => exact .inr (by cases t <;> exact nofun)
  | node t => exact .inr (by cases t <;> exact nofun)
  | _ => exact non e
theorem op_isi {v : AV} {a : Value} {b : Bool} (B : Bs w hb) (S : St w hb Φ s.heap Z ρ σ) (q : VRel s.heap Z ρ v a) (e : isVec σ v = some b) (hQ : OpQ w hb Φ s Z ρ σ (.bool b) Q) : wpAny (model pw w) A (call (.builtin "isinstance") [a, .ref 147]) Q E s := by
  have X := B.K S.base
  rw [isVec_expo] at e
  rcases (vec_inv q.expo e).resolve_right (fun h => h (expo_expo v)) with ⟨rfl, x, d, es, n, rfl, ex, ed⟩ | ⟨rfl, x, c, d, es, n, cc, rfl, ex, ed⟩
  · have I : InstAt s.heap x (instObj (CA 1) d) (CA 1) (some (dictOf es n)) := ⟨ex, rfl, rfl, ed⟩
    exact isi_call (K := K w.params) (t := .ref 147) X (fun M => I.type) (isi_147 _) (by simp) (hQ.same S (.bool _))
  · have I : InstAt s.heap x (instObj (CA c) d) (CA c) (some (dictOf es n)) := ⟨ex, rfl, rfl, ed⟩
    have ok := List.all_eq_true.mp (isi_ok w.params) (CA c) (by rcases cc with rfl | rfl <;> simp [CA])
    simp only [Bool.and_eq_true] at ok
    obtain ⟨⟨⟨⟨⟨⟨o1, o2⟩, o3⟩, o4⟩, o5⟩, o6⟩, o7⟩ := ok
    exact kin_callC (K := K w.params) X I o1 o2 o3 (beq_iff_eq.mp o4) (beq_iff_eq.mp o5) (beq_iff_eq.mp o6) (beq_iff_eq.mp o7) (hQ.same S (.bool _))
theorem asI_inv {v : AV} {i : Int} (e : asI v = some i) : v = .int i := by
  cases v with
  | int j => exact congrArg AV.int (Option.some.inj e)
  | _ => exact non e
theorem glOf_inv {v : AV} {g : Nat} (e : glOf v = some g) : v = .glob g := by
  cases v with
  | glob j => exact congrArg AV.glob (Option.some.inj e)
  | _ => exact non e
theorem opt_int {o : AV} {P : Int → Prop} {h : Heap} {a : Value} (e : opt (asI o) P) (q : VRel h Z ρ o a) : ∃ i t, a = .int i t ∧ P i := by
  refine opt_el e fun i e1 e2 => ?_
  refine (asI_inv e1 ▸ q).int_el fun t => ?_
  exact ⟨i, t, rfl, e2⟩
noncomputable abbrev CQ (w : World) (hb : Heap) (Φ : List Env) (s : Shared) (Z : Addr → Prop) (ρ : List Addr) (k : KE) (Q : Value → Shared → Prop) : Prop := ∀ b σ' a h' Z' ρ' tk, k b σ' → St w hb Φ h' Z' ρ' σ' → VRel h' Z' ρ' b a → Post no s.heap Z ρ h' Z' ρ' → Q a { s with heap := h', toks := tk }
theorem CQ.on {k : KE} {r : AV} (hQ : CQ w hb Φ s Z ρ k Q) (hk : k r σ) : OpQ w hb Φ s Z ρ σ r Q := fun a h' Z' ρ' tk x y z => hQ _ _ a h' Z' ρ' tk hk x y z
theorem gl_is {g : Nat} {f f' : Value} (hf : GL.lookup g = some f) (h : GL.lookup g = some f') : f = f' := Option.some.inj (hf.symm.trans h)
theorem one_call {g : Nat} {v : AV} {f a : Value} {k : KE} (S : St w hb Φ s.heap Z ρ σ) (q : VRel s.heap Z ρ v a) (hf : GL.lookup g = some f) (e : oneB g v σ k) (hQ : CQ w hb Φ s Z ρ k Q) : wpAny (model pw w) A (call f [a]) Q E s := by
  unfold oneB at e
  split at e
  · rename_i h
    subst h
    refine opt_el e fun n e1 e2 => ?_
    cases gl_is hf (show _ = some (Value.builtin "len") by decide +kernel)
    exact op_len S q e1 (hQ.on e2)
  · obtain ⟨i, t, rfl, e'⟩ := opt_int e q
    replace e := e'
    clear e'
    unfold oneI at e
    split at e
    · rename_i h
      subst h
      cases gl_is hf (show _ = some (Value.type "range") by decide +kernel)
      exact call_range_1 ((hQ.on e).pushZ S rfl (.rng 0 _ _ _ _ _ (.inr rfl) (Heap.get?_push_size _ rfl)))
    · split at e
      · rename_i h
        subst h
        cases gl_is hf (show _ = some (Value.builtin "abs") by decide +kernel)
        exact call_abs_int fun u tk => (hQ.on e).same S (.int _ u)
      · split at e
        · rename_i h
          subst h
          cases gl_is hf (show _ = some (Value.type "int") by decide +kernel)
          exact call_int_int ((hQ.on e).same (tk := s.toks) S (.int _ _))
        · exact e.elim
theorem rel_if {h : Heap} {a b : Int} {t u : Tok} {c c' : Prop} [Decidable c] [Decidable c'] (hc : c ↔ c') : VRel h Z ρ (.int (if c then b else a)) (if c' then .int b u else .int a t) := by
  by_cases x : c
  · rw [if_pos x, if_pos (hc.mp x)]; exact .int _ _
  · rw [if_neg x, if_neg (fun y => x (hc.mpr y))]; exact .int _ _
theorem two_call {g : Nat} {v y : AV} {f a b : Value} {k : KE} (B : Bs w hb) (hh : A.handled = none) (S : St w hb Φ s.heap Z ρ σ) (q : VRel s.heap Z ρ v a) (q' : VRel s.heap Z ρ y b) (hf : GL.lookup g = some f) (e : twoB g v y σ k) (hQ : CQ w hb Φ s Z ρ k Q) : wpAny (model pw w) A (call f [a, b]) Q E s := by
  unfold twoB at e
  split at e
  · rename_i h
    subst h
    refine opt_el e fun x e1 e2 => ?_
    have e3 := (glOf_inv e1 ▸ q').glob_inv
    split at e2
    · rename_i h
      subst h
      refine opt_el e2 fun c e4 e5 => ?_
      cases gl_is e3 (show _ = some (Value.ref 147) by decide +kernel)
      cases gl_is hf (show _ = some (Value.builtin "isinstance") by decide +kernel)
      exact op_isi B S q e4 (hQ.on e5)
    · exact e2.elim
  · obtain ⟨i, t, rfl, e1⟩ := opt_int e q
    obtain ⟨j, u, rfl, e2⟩ := opt_int e1 q'
    replace e := e2
    clear e1 e2
    unfold twoI at e
    split at e
    · rename_i h
      subst h
      cases gl_is hf (show _ = some (Value.type "range") by decide +kernel)
      exact call_range_2 ((hQ.on e).pushZ S rfl (.rng _ _ _ _ _ _ (.inr rfl) (Heap.get?_push_size _ rfl)))
    · split at e
      · rename_i h
        subst h
        cases gl_is hf (show _ = some (Value.builtin "max") by decide +kernel)
        exact max_two_ints hh fun h' tk kp => (hQ.on e).keeps S kp (rel_if Iff.rfl)
      · split at e
        · rename_i h
          subst h
          cases gl_is hf (show _ = some (Value.builtin "min") by decide +kernel)
          exact min_two_ints hh fun h' tk kp => (hQ.on e).keeps S kp (rel_if Iff.rfl)
        · exact e.elim
theorem three_call {g : Nat} {x y z : AV} {f a b c : Value} {k : KE} (hh : A.handled = none) (S : St w hb Φ s.heap Z ρ σ) (q : VRel s.heap Z ρ x a) (q' : VRel s.heap Z ρ y b) (q'' : VRel s.heap Z ρ z c) (hf : GL.lookup g = some f) (e : threeB g x y z σ k) (hQ : CQ w hb Φ s Z ρ k Q) : wpAny (model pw w) A (call f [a, b, c]) Q E s := by
  unfold threeB at e
  split at e
  · rename_i h
    subst h
    obtain ⟨i, t, rfl, e1⟩ := opt_int e q
    obtain ⟨j, u, rfl, e2⟩ := opt_int e1 q'
    obtain ⟨l, v, rfl, e3⟩ := opt_int e2 q''
    replace e := e3
    clear e1 e2 e3
    cases gl_is hf (show _ = some (Value.builtin "max") by decide +kernel)
    refine max_three_ints hh fun h' tk kp => (hQ.on e).keeps S kp ?_
    by_cases h1 : i < j
    · rw [if_pos h1, if_pos (show j > i from h1)]; exact rel_if Iff.rfl
    · rw [if_neg h1, if_neg (show ¬ j > i from h1)]; exact rel_if Iff.rfl
  · exact e.elim
theorem op_callB {g : Nat} {vs : List AV} {f : Value} {args : List Value} {k : KE} (B : Bs w hb) (hh : A.handled = none) (S : St w hb Φ s.heap Z ρ σ) (qs : VRels s.heap Z ρ vs args) (hf : GL.lookup g = some f) (e : callB g vs σ k)
    (hQ : CQ w hb Φ s Z ρ k Q) : wpAny (model pw w) A (call f args) Q E s := by
  cases vs with
  | nil => exact e.elim
  | cons x vs =>
    refine qs.cons_el fun a args r qs => ?_
    cases vs with
    | nil => obtain rfl := qs.nil_inv; exact one_call S r hf e hQ
    | cons y vs =>
      refine qs.cons_el fun b args r' qs => ?_
      cases vs with
      | nil => obtain rfl := qs.nil_inv; exact two_call B hh S r r' hf e hQ
      | cons z vs =>
        refine qs.cons_el fun c args r'' qs => ?_
        cases vs with
        | nil => obtain rfl := qs.nil_inv; exact three_call hh S r r' r'' hf e hQ
        | cons _ _ => exact False.elim e
end
end Mine
end
section
open PySem PySem.W PyProof.Rows PySem.Calls
namespace Mine
theorem gl_keep : ∀ P : Params, GL.all (fun p => match p.2 with | .ref _ => keepIn (K P) p.2 | .builtin i => !(withoutEnding? i "#data").isSome | .type _ => true | _ => false) = true := by intro P; kernel_rfl
theorem gl_mem {k : Nat} {v : Value} (e : GL.lookup k = some v) : (k, v) ∈ GL := by
  have mem : ∀ {l : List (Nat × Value)}, l.lookup k = some v → (k, v) ∈ l := by
    intro l
    induction l with
    | nil => intro e; cases e
    | cons p r ih =>
      intro e
      obtain ⟨a, b⟩ := p
      rw [List.lookup_cons] at e
      cases q : k == a with
      | true => rw [q] at e; cases e; rw [beq_iff_eq.mp q]; exact .head _
      | false => rw [q] at e; exact .tail _ (ih e)
  exact mem e
noncomputable def notStar : Expr → Bool
  | .Starred _ _ => false
  | _ => true
noncomputable def okBase : Expr → Bool
  | .Call _ [] [] _ => false
  | _ => true
theorem base_of {o : Expr} {name : Str} {env : Env} (h : okBase o = true) : attributeBase o name env (eval o env) = eval o env := by
  cases o with
  | Call f args kws pos =>
    cases args with
    | nil =>
      cases kws with
      | nil => cases h
      | cons a b => cases f <;> rfl
    | cons a b => cases f <;> rfl
  | _ => rfl
theorem star_of {e : Expr} {rest : List Expr} {env : Env} (h : notStar e = true) : starEach (e :: rest) env = (false, eval e env) :: starEach rest env := by cases e <;> first | rfl | cases h
theorem star_any {pos : Pos} {env : Env} : ∀ {es : List Expr}, es.all notStar = true → (backTo pos (starEach es env)).any (·.1) = false
  | [], _ => rfl
  | e :: r, h => by
    simp only [List.all_cons, Bool.and_eq_true] at h
    rw [star_of h.1]
    show (false || (backTo pos (starEach r env)).any (·.1)) = false
    rw [star_any h.2]; rfl
theorem star_all {pos : Pos} {env : Env} : ∀ {es : List Expr}, es.all notStar = true → (backTo pos (starEach es env)).all (fun x => !x.1) = true
  | [], _ => rfl
  | e :: r, h => by
    simp only [List.all_cons, Bool.and_eq_true] at h
    rw [star_of h.1]
    show (!false && (backTo pos (starEach r env)).all (fun x => !x.1)) = true
    rw [star_all h.2]; rfl
section
variable {w : World} {hb h' : Heap} {Φ : List Env} {A : Around} {σ : Sto} {s : Shared} {Z : Addr → Prop} {ρ : List Addr} {Q : Value → Shared → Prop} {E : Value → Shared → Prop} {env : Env}
theorem evalArgs_any {f : Value} {es : List Expr} {pos : Pos} {Q : Args → Shared → Prop} (hs : es.all notStar = true) (h : wpAny (model pw w) A (spliced (backTo pos (starEach es env))) (fun vs s' => Q ⟨vs, []⟩ s') E s) :
    wpAny (model pw w) A (evalArgs f true (backTo pos (starEach es env)) []) Q E s := by
  cases es with
  | nil =>
    unfold evalArgs
    show wpAny (model pw w) A (spliced [] >>= _) Q E s
    refine wpAny_bind (wpAny_mono h (fun vs s' h' => wpAny_bind (wpAny_pure ?_)) fun zz zz e => e)
    refine wpAny_holding ?_
    exact wpAny_bind (wpAny_pure (wpAny_bind (wpAny_pure (wpAny_pure h'))))
  | cons e r =>
    simp only [List.all_cons, Bool.and_eq_true] at hs
    rw [star_of hs.1] at h ⊢
    exact evalArgs_plain h
theorem callWith_any {g : Nat} {f : Value} {first : List Value} {es : List Expr} {pos : Pos} (hf : GL.lookup g = some f) (hs : es.all notStar = true)
    (h : wpAny (model pw w) A (spliced (backTo pos (starEach es env))) (fun vs s₁ => (K w.params).In s₁.heap ∧ wpAny (model pw w) A (call f (first ++ vs)) Q E s₁) E s) :
    wpAny (model pw w) A (callWith pos f first (backTo pos (starEach es env)) []) Q E s := by
  have ok := List.all_eq_true.mp (gl_keep w.params) _ (gl_mem hf)
  cases f with
  | ref a => exact callWith_of (by rw [star_any hs]; rfl) (keeps_K ok) (evalArgs_any hs h)
  | builtin i => exact callWith_builtin (star_any hs) (evalArgs_any hs (wpAny_mono h (fun zz zz q => q.2) fun zz zz e => e))
  | type T => exact PySem.callWith_type (star_any hs) (evalArgs_any hs (wpAny_mono h (fun zz zz q => q.2) fun zz zz e => e))
  | _ => cases ok
theorem call_attr {o : Expr} {name : Str} {apos pos : Pos} {es : List Expr} (hb : okBase o = true) (hs : es.all notStar = true) (hn : es.length < 29) (hl : (apos.endLine == pos.line) = true)
    (h : wpAny (model pw w) A (eval o env) (fun ov s₁ => wpAny (model pw w) A (getMethod ov name (do return (← importBound o env).getD true)) (fun p s₂ => wpAny (model pw w) A (callWith pos p.1 p.2 (backTo pos (starEach es env)) []) Q E s₂) E s₁) E s) :
    wpAny (model pw w) A (eval (.Call (.Attribute o name apos) es [] pos) env) Q E s := by
  rw [arm_eval_Call, base_of hb]
  refine wpAny_bind (wpAny_mono h (fun ov s₁ h₁ => wpAny_bind (wpAny_standAt ?_)) fun zz zz e => e)
  have hform : methodCallForm (es.length + ([] : List Keyword).length) (backTo pos (starEach es env)) (backToKw pos (keywordEach [] env)) = true := by
    unfold methodCallForm
    rw [star_all hs]
    have : decide (es.length + ([] : List Keyword).length + 0 < 30) = true := decide_eq_true (by simp; lia)
    exact this
  have hpos : methodCallPos true o env apos pos = pure pos := by unfold methodCallPos; simp [hl]
  unfold methodCall
  rw [hform]
  refine wpAny_bind (wpAny_holding ?_)
  show wpAny _ _ (getMethod ov name (do return (← importBound o env).getD true)) _ _ _
  exact wpAny_mono h₁ (fun p s₂ h₂ => wpAny_bind (wpAny_of_eq hpos h₂)) fun zz zz e => e
end
end Mine
end
section
open PySem PySem.W PyProof.Rows PySem.Calls
namespace Mine
noncomputable def meOk (P : Params) (p : Nat × Nat) : Bool := match GL.lookup p.2 with
  | some (.ref f) => (findIn (K P) (.ref 448) (TT p.1) == some (some (.ref f))) && (typeIn (K P) (.ref f) == some (.type "function"))
  | _ => false
theorem me_ok : ∀ P : Params, MEL.all (meOk P) = true := by intro P; kernel_rfl
theorem cls_ga : ∀ P : Params, [0, 1, 2, 3, 6].all (fun c => plainGet (K P) (CA c) "") = true := by intro P; kernel_rfl
theorem me_mem {m g : Nat} (h : ME 6 m = some g) : (m, g) ∈ MEL := lookup_mem h
noncomputable def okMeth (m : Nat) : Bool := Nat.beq m 29 || Nat.beq m 30 || Nat.beq m 123 || (ME 6 m).isSome
theorem FRel.miss {h : Heap} {Z : Addr → Prop} {ρ : List Addr} {f : Nat} {ks : List Nat} {vs : List AV} {es : List DictEntry} (q : FRel h Z ρ ks vs es) (e : kvLk ks vs f = Option.none) : getL (TT f) es = some Option.none := by
  induction ks generalizing vs es with
  | nil => obtain ⟨rfl, rfl⟩ := q.nil_inv; rfl
  | cons k ks ih =>
    obtain ⟨x, gs, en, ds, t, rfl, rfl, hk, r, rs⟩ := q.cons_inv
    rw [getL_cons hk]
    by_cases h : k = f
    · exact nomatch ((if_pos h).symm.trans e : some x = Option.none)
    · rw [if_neg h]
      exact ih rs ((if_neg h).symm.trans e)
section
variable {w : World} {hb h' : Heap} {Φ : List Env} {A : Around} {σ : Sto} {s : Shared} {Z : Addr → Prop} {ρ : List Addr} {Q : Value → Shared → Prop} {E : Value → Shared → Prop}
noncomputable def CalRel (h : Heap) (Z : Addr → Prop) (ρ : List Addr) (c : Cal) (m : Nat) (f : Value) (first : List Value) : Prop := match c with
  | .lst l => ∃ x, ρ[l]? = some x ∧ first = [.ref x] ∧ ((m = 29 ∧ f = .builtin "list.append") ∨ (m = 30 ∧ f = .builtin "list.pop"))
  | .fn g fs => GL.lookup g = some f ∧ VRels h Z ρ fs first
noncomputable def calF (fv : AV) (m c : Nat) : Option Cal := match fv with
  | .glob g => if isBi g = true ∨ m ≠ 123 ∨ c ≠ 6 then Option.none else some (.fn g [])
  | _ => Option.none
noncomputable def calM (o : Option AV) (ov : AV) (m c : Nat) : Option Cal := match o with
  | some fv => calF fv m c
  | Option.none => (ME c m).map fun g => .fn g [ov]
noncomputable def calN (o : Option AO) (ov : AV) (m c : Nat) : Option Cal := match o with
  | some (.ns kvs) => calM (nsLk kvs m) ov m c
  | _ => Option.none
noncomputable def calL (σ : Sto) (o : Option AO) (l m : Nat) : Option Cal := match o with
  | some (.list _) => if m = 29 ∨ m = 30 then some (.lst l) else Option.none
  | some (.inst c d) => calN σ[d]? (.loc l) m c
  | _ => Option.none
theorem calF_inv {fv : AV} {m c : Nat} {r : Cal} (e : calF fv m c = some r) : ∃ g, fv = .glob g ∧ m = 123 ∧ c = 6 ∧ r = .fn g [] := by
  cases fv with
  | glob g =>
    by_cases hn : isBi g = true ∨ m ≠ 123 ∨ c ≠ 6
    · exact non ((if_pos hn).symm.trans e)
    · exact ⟨g, rfl, Classical.byContradiction fun q => hn (.inr (.inl q)), Classical.byContradiction fun q => hn (.inr (.inr q)), (Option.some.inj ((if_neg hn).symm.trans e)).symm⟩
  | _ => exact non e
noncomputable def CalMI (o : Option AV) (ov : AV) (m c : Nat) (r : Cal) : Prop := (∃ g, o = some (.glob g) ∧ m = 123 ∧ c = 6 ∧ r = .fn g []) ∨ (o = Option.none ∧ ∃ g, ME c m = some g ∧ r = .fn g [ov])
theorem calM_inv {o : Option AV} {ov : AV} {m c : Nat} {r : Cal} (e : calM o ov m c = some r) : CalMI o ov m c r := by
  cases o with
  | none => obtain ⟨g, e1, e2⟩ := Option.map_eq_some_iff.mp e; exact Or.inr ⟨rfl, g, e1, e2.symm⟩
  | some fv => obtain ⟨g, rfl, x⟩ := calF_inv e; exact Or.inl ⟨g, rfl, x⟩
theorem calN_inv {o : Option AO} {ov : AV} {m c : Nat} {r : Cal} (e : calN o ov m c = some r) : ∃ kvs, o = some (.ns kvs) ∧ CalMI (nsLk kvs m) ov m c r := by
  cases o with
  | none => exact non e
  | some o =>
    cases o with
    | ns kvs => exact ⟨kvs, rfl, calM_inv e⟩
    | _ => exact non e
noncomputable def CalLI (σ : Sto) (o : Option AO) (l m : Nat) (r : Cal) : Prop := (∃ xs, o = some (.list xs) ∧ (m = 29 ∨ m = 30) ∧ r = .lst l) ∨ ∃ c d, o = some (.inst c d) ∧ calN σ[d]? (.loc l) m c = some r
theorem calL_inv {o : Option AO} {l m : Nat} {r : Cal} (e : calL σ o l m = some r) : CalLI σ o l m r := by
  cases o with
  | none => exact non e
  | some o =>
    cases o with
    | list xs =>
      by_cases h : m = 29 ∨ m = 30
      · exact Or.inl ⟨xs, rfl, h, (Option.some.inj ((if_pos h).symm.trans e)).symm⟩
      · exact non ((if_neg h).symm.trans e)
    | inst c d => exact Or.inr ⟨c, d, rfl, e⟩
    | _ => exact non e
theorem calOf_inv {ov : AV} {m : Nat} {r : Cal} (e : calOf σ ov m = some r) : ∃ l, ov = .loc l ∧ calL σ σ[l]? l m = some r := by
  cases ov with
  | loc l => exact ⟨l, rfl, e⟩
  | _ => exact non e
theorem me_six {c m g : Nat} (e : ME c m = some g) : c = 6 := by
  by_cases h : c = 6
  · exact h
  · unfold ME at e; rw [if_neg h] at e; exact non e
theorem me_fn (w : World) {m g : Nat} (e : ME 6 m = some g) : ∃ f, GL.lookup g = some (.ref f) ∧ findIn (K w.params) (.ref 448) (TT m) = some (some (.ref f)) ∧ typeIn (K w.params) (.ref f) = some (.type "function") := by
  have ok := List.all_eq_true.mp (me_ok w.params) _ (me_mem e)
  unfold meOk at ok
  generalize GL.lookup g = o at ok ⊢
  cases o with
  | none => exact Bool.noConfusion ok
  | some v =>
    cases v with
    | ref f => exact ⟨f, rfl, beq_iff_eq.mp (Bool.and_eq_true_iff.mp ok).1, beq_iff_eq.mp (Bool.and_eq_true_iff.mp ok).2⟩
    | _ => exact Bool.noConfusion ok
theorem lst_method {x : Addr} {vs : List Value} {n m : Nat} {pl : Sem Bool} {Q : Value × List Value → Shared → Prop} (hm : m = 29 ∨ m = 30) (gx : s.heap.get? x = some (lstO vs n)) (h : ∀ f, ((m = 29 ∧ f = .builtin "list.append") ∨ (m = 30 ∧ f = .builtin "list.pop")) → Q (f, [.ref x]) s) : wpAny (model pw w) A (getMethod (.ref x) (TT m) pl) Q E s := by
  have lm : ∀ {id : String}, Slot "list" (TT m) id → typeOf (.builtin id) = pure (.type "method_descriptor") → ((m = 29 ∧ Value.builtin id = .builtin "list.append") ∨ (m = 30 ∧ Value.builtin id = .builtin "list.pop")) → wpAny (model pw w) A (getMethod (.ref x) (TT m) pl) Q E s := fun {id} sl ty hh =>
    getMethod_builtin (T := "list") ⟨_, gx, rfl⟩ PySem.F.plainAttrs_list sl ty (fun a e => by cases e; exact ⟨_, gx, rfl⟩) (h _ hh)
  rcases hm with rfl | rfl
  · exact lm (id := "list.append") PySem.slot_list_append (by show builtinType _ = _; rw [builtinType_eq_fast]; kernel_rfl) (.inl ⟨rfl, rfl⟩)
  · exact lm (id := "list.pop") PySem.F.slot_list_pop PySem.F.type_list_pop (.inr ⟨rfl, rfl⟩)
theorem op_cal {ov : AV} {a : Value} {m : Nat} {c : Cal} {pl : Sem Bool} {Q : Value × List Value → Shared → Prop} (B : Bs w hb) (S : St w hb Φ s.heap Z ρ σ) (q : VRel s.heap Z ρ ov a) (hm : okMeth m = true) (e : calOf σ ov m = some c)
    (h : ∀ f first tk, CalRel s.heap Z ρ c m f first → Q (f, first) { s with toks := tk }) : wpAny (model pw w) A (getMethod a (TT m) pl) Q E s := by
  have X := B.K S.base
  refine Classical.byContradiction fun go => ?_
  obtain ⟨l, rfl, e1⟩ := calOf_inv e
  obtain ⟨x, rfl, el⟩ := q.loc_inv
  clear e q
  rcases calL_inv e1 with ⟨xs, hk, hm2, rfl⟩ | ⟨c, d, hc, e2⟩ <;> clear e1
  · exact S.list_el hk el fun vs n gx rr lz => go <| lst_method hm2 gx fun f hf => h f _ s.toks ⟨x, el, rfl, hf⟩
  · obtain ⟨kvs, hk, e3⟩ := calN_inv e2
    refine S.attr_el hc hk el fun dd es n rd gx hcl gd fr ln => ?_
    have I : InstAt s.heap x (instObj (CA c) dd) (CA c) (some (dictOf es n)) := ⟨gx, rfl, rfl, gd⟩
    have ga := List.all_eq_true.mp (cls_ga w.params) c (by rcases hcl with rfl | rfl | rfl | rfl | rfl <;> simp)
    clear e2
    rw [nsLk_kv] at e3
    rcases e3 with ⟨g, hv, rfl, rfl, rfl⟩ | ⟨hv, g, e4, rfl⟩
    · obtain ⟨val, g1, rr⟩ := fr.get hv
      have ek := rr.glob_inv
      have ok := cls_at w.params (c := 6) (f := 123) (by simp) (by decide) (by simp)
      exact go <| method_usual (K := K w.params) (r := Option.none) X I (plainGet_of ga).1 (plainGet_of ga).2 (beq_iff_eq.mp (Bool.and_eq_true_iff.mp ok).2) rfl
        (get_fld (C := 0) X hcl (by decide) (by simp) gx gd g1 (gl_handed w ek) (h _ _ _ ⟨ek, .nil⟩))
    · obtain rfl := me_six e4
      obtain ⟨f, hf, o1, o2⟩ := me_fn w e4
      refine go (method_fn (K := K w.params) X I (plainGet_of ga).1 (plainGet_of ga).2 o1 o2 ?_ (h _ _ s.toks ⟨hf, .cons _ _ _ _ (.loc l x el) .nil⟩))
      show (lookIn (TT m) (dictOf es n)).map _ = _
      rw [lookIn_dict, fr.miss hv]; rfl
end
end Mine
end
section
open PySem PySem.W PyProof.Rows PySem.Calls
namespace Mine
structure Itr (w : World) (hb : Heap) (Φ : List Env) (A : Around) (I : Addr) (v : AV) (a : Value) (xs0 : List AV) (J : Nat → Heap → Prop) : Prop where
  at_ : ∀ i h, J i h → ∃ o vs, h.get? I = some o ∧ o.data = .fields vs ∧ o.cls ≠ .type "frame"
  frame : ∀ i h h', J i h → h'.get? I = h.get? I → J i h'
  item : ∀ i y (s : Shared) (Z : Addr → Prop) (ρ : List Addr) (σ : Sto) (Q : Option Value → Shared → Prop) (E : Value → Shared → Prop), J i s.heap → St w hb Φ s.heap Z ρ σ → VRel s.heap Z ρ v a → itemsOf σ v = some xs0 → xs0[i]? = some y → I ∉ ρ → ¬ Z I →
    (∀ u h' tk, J (i + 1) h' → Heap.SameBut I s.heap h' → VRel s.heap Z ρ y u → Q (some u) { s with heap := h', toks := tk }) → wpAny (model pw w) A (pyNext (.ref I)) Q E s
  done : ∀ (s : Shared) (Z : Addr → Prop) (ρ : List Addr) (σ : Sto) (Q : Option Value → Shared → Prop) (E : Value → Shared → Prop), J xs0.length s.heap → St w hb Φ s.heap Z ρ σ → VRel s.heap Z ρ v a → itemsOf σ v = some xs0 → I ∉ ρ → ¬ Z I →
    (∀ h' tk, (∀ b o, b ≠ I → s.heap.get? b = some o → h'.get? b = some o) → Q none { s with heap := h', toks := tk }) → wpAny (model pw w) A (pyNext (.ref I)) Q E s
  self : ∀ i (s : Shared) (Q : Value → Shared → Prop) (E : Value → Shared → Prop), J i s.heap → Q (.ref I) s → wpAny (model pw w) A (pyIter (.ref I)) Q E s
section
variable {w : World} {hb h' : Heap} {Φ : List Env} {A : Around} {σ : Sto} {s : Shared} {Z : Addr → Prop} {ρ : List Addr} {Q : Value → Shared → Prop} {E : Value → Shared → Prop}
theorem isList_same {h h' : Heap} {a b : Addr} {its : Array Value} (hl : h.IsList a its) (hs : Heap.SameBut b h h') (n : a ≠ b) : h'.IsList a its := hl.at fun o e => (hs.2 a n).trans e
inductive ItsI (σ : Sto) : AV → List AV → Prop
  | tup (xs) : ItsI σ (.tup xs) xs
  | lst (xs) : ItsI σ (.lst xs) xs
  | loc (l xs) : σ[l]? = some (.list xs) → ItsI σ (.loc l) xs
  | rng (a b) : (0 ≤ a ∧ a < 10000 ∧ -10000 < b ∧ b < 10000) → ItsI σ (.rng a b) ((List.range (b - a).toNat).map fun (i : Nat) => AV.int (a + (i : Int)))
noncomputable def itsL (o : Option AO) : Option (List AV) := match o with
  | some (.list xs) => some xs
  | _ => none
theorem itsL_inv {o : Option AO} {xs : List AV} (e : itsL o = some xs) : o = some (.list xs) := by
  cases o with
  | none => exact non e
  | some o =>
    cases o with
    | list ys => exact congrArg (fun z => some (AO.list z)) (Option.some.inj e)
    | _ => exact non e
theorem itsU {u : AV} {xs : List AV} (e : itemsOf σ u = some xs) : ItsI σ (expo u) xs ∨ expo u ≠ u := by
  cases u with
  | tree t => exact .inr (by cases t <;> exact nofun)
  | node t => exact .inr (by cases t <;> exact nofun)
  | tup ys => exact .inl (Option.some.inj e ▸ .tup ys)
  | lst ys => exact .inl (Option.some.inj e ▸ .lst ys)
  | loc l => exact .inl (.loc l xs (itsL_inv (o := σ[l]?) e))
  | rng a b =>
    by_cases h : 0 ≤ a ∧ a < 10000 ∧ -10000 < b ∧ b < 10000
    · exact .inl (Option.some.inj ((if_pos h).symm.trans e) ▸ .rng a b h)
    · exact non ((if_neg h).symm.trans e)
  | _ => exact non e
theorem itsI {v : AV} {xs : List AV} (e : itemsOf σ v = some xs) : ItsI σ (expo v) xs := by
  have e' : itemsOf σ (expo v) = some xs := by unfold itemsOf at e ⊢; rw [expo_expo]; exact e
  have h := (itsU e').resolve_right fun h => h (expo_expo v)
  rwa [expo_expo] at h
theorem lst_now {v : AV} {x : Addr} {xs0 : List AV} (S : St w hb Φ s.heap Z ρ σ) (q : VRel s.heap Z ρ v (.ref x)) (e : itemsOf σ v = some xs0) (nt : (∀ t, expo v ≠ .tup t)) (nr : ∀ a b, expo v ≠ .rng a b) : ∃ vs n, s.heap.get? x = some (lstO vs n) ∧ VRels s.heap Z ρ xs0 vs := by
  have q := q.expo
  have i := itsI e
  clear e
  revert q nt nr i
  generalize expo v = u
  intro nt nr q i
  cases i with
  | tup => exact absurd rfl (nt _)
  | rng => exact absurd rfl (nr _ _)
  | lst => exact q.lst_ref fun vs n g r lz z => ⟨vs, n, g, r⟩
  | loc l ys hk => exact S.list_el hk q.loc_ref fun vs n g r lz => ⟨vs, n, g, r⟩
theorem tup_now {v : AV} {x : Addr} {xs0 xs : List AV} (q : VRel s.heap Z ρ v (.ref x)) (e : itemsOf σ v = some xs0) (nt : expo v = .tup xs) : ∃ vs n, s.heap.get? x = some (tupO vs n) ∧ VRels s.heap Z ρ xs0 vs := by
  have q := q.expo
  unfold itemsOf at e
  rw [nt] at e q
  exact q.tup_ref fun vs n g r lz z => ⟨vs, n, g, Option.some.inj e ▸ r⟩
theorem itr_list (hh : A.handled = none) (I x : Addr) (v : AV) (xs0 : List AV) (nt : (∀ t, expo v ≠ .tup t)) (nr : ∀ a b, expo v ≠ .rng a b) : Itr w hb Φ A I v (.ref x) xs0 (fun i h => h.IsListIter I x i) where
  at_ := fun i h ⟨o, a, b, c⟩ => ⟨o, _, a, c, by rw [b]; simp⟩
  frame := fun i h h' ⟨o, a, b⟩ e => ⟨o, e.trans a, b⟩
  item := fun i y s Z ρ σ Q E j S q e ey zz zz hQ => by
    obtain ⟨vs, n, g, rr⟩ := lst_now S q e nt nr
    obtain ⟨u, hu, ru⟩ := rr.get ey
    exact wpAny_pyNext_list_item j (items := vs.toArray) ⟨_, g, rfl, n, rfl⟩ (by simpa using hu) fun h' j' hs => hQ u h' s.toks j' hs ru
  done := fun s Z ρ σ Q E j S q e zz zz hQ => by
    obtain ⟨vs, n, g, rr⟩ := lst_now S q e nt nr
    exact wpAny_pyNext_list_end hh j (items := vs.toArray) ⟨_, g, rfl, n, rfl⟩ (by rw [rr.length]; simp) fun h' he => hQ h' s.toks fun b o nb e => he b o nb e
  self := fun i s Q E j hQ => wpAny_pyIter_listiter j hQ
theorem itr_tuple (hh : A.handled = none) (I x : Addr) (v : AV) (xs0 xs : List AV) (nt : expo v = .tup xs) : Itr w hb Φ A I v (.ref x) xs0 (fun i h => h.IsTupleIter I x i) where
  at_ := fun i h ⟨o, a, b, c⟩ => ⟨o, _, a, c, by rw [b]; simp⟩
  frame := fun i h h' ⟨o, a, b⟩ e => ⟨o, e.trans a, b⟩
  item := fun i y s Z ρ σ Q E j S q e ey zz zz hQ => by
    obtain ⟨vs, n, g, rr⟩ := tup_now q e nt
    obtain ⟨u, hu, ru⟩ := rr.get ey
    exact wpAny_pyNext_tuple_item j (items := vs.toArray) ⟨_, g, rfl, n, rfl⟩ (by simpa using hu) fun h' j' hs => hQ u h' s.toks j' hs ru
  done := fun s Z ρ σ Q E j S q e zz zz hQ => by
    obtain ⟨vs, n, g, rr⟩ := tup_now q e nt
    exact wpAny_pyNext_tuple_end hh j (items := vs.toArray) ⟨_, g, rfl, n, rfl⟩ (by rw [rr.length]; simp) fun h' he => hQ h' s.toks fun b o nb e => he b o nb e
  self := fun i s Q E j hQ => wpAny_pyIter_tupleiter j hQ
theorem rng_ends {σ : Sto} {a b : Int} {v : AV} {xs0 : List AV} (e : itemsOf σ v = some xs0) (nt : expo v = .rng a b) : xs0 = (List.range (b - a).toNat).map fun (i : Nat) => AV.int (a + (i : Int)) := by
  have i := itsI e
  rw [nt] at i
  cases i with
  | rng => rfl
theorem itr_range (hh : A.handled = none) (I x : Addr) (v : AV) (xs0 : List AV) (a b : Int) (nt : expo v = .rng a b) : Itr w hb Φ A I v (.ref x) xs0 (fun i h => IsRangeIter h I (a + (i : Nat)) ((((b - a).toNat : Nat) : Int) - (i : Nat)) 1) where
  at_ := fun i h e => ⟨_, _, e, rfl, by simp⟩
  frame := fun i h h' j e => e.trans j
  item := fun i y s Z ρ σ Q E j S q e ey zz zz hQ => by
    cases rng_ends e nt
    · rw [List.getElem?_map] at ey
      obtain ⟨k, e1, rfl⟩ := Option.map_eq_some_iff.mp ey
      have hi : i < (b - a).toNat := by simpa using (List.getElem?_eq_some_iff.mp e1).1
      obtain rfl : i = k := by
        have := (List.getElem?_eq_some_iff.mp e1).2
        simpa using this
      refine wpAny_pyNext_range_item j (by lia) fun h' j' hs => hQ _ h' _ ?_ hs (.int _ _)
      have e1 : a + ((i + 1 : Nat) : Int) = a + (i : Int) + 1 := by lia
      have e2 : (((b - a).toNat : Nat) : Int) - ((i + 1 : Nat) : Int) = (((b - a).toNat : Nat) : Int) - (i : Int) - 1 := by lia
      rw [e1, e2]; exact j'
  done := fun s Z ρ σ Q E j S q e zz zz hQ => by
    have : xs0.length = (b - a).toNat := by rw [rng_ends e nt, List.length_map, List.length_range]
    rw [this] at j
    exact wpAny_pyNext_range_end hh j (by lia) fun h' he => hQ h' s.toks fun b o nb e => he b o nb e
  self := fun i s Q E j hQ => wpAny_pyIter_rangeiter j hQ
theorem op_iter {v : AV} {a : Value} {xs0 : List AV} (hh : A.handled = none) (S : St w hb Φ s.heap Z ρ σ) (q : VRel s.heap Z ρ v a) (e : itemsOf σ v = some xs0)
    (hQ : ∀ J o, Itr w hb Φ A s.heap.objs.size v a xs0 J → J 0 (s.heap.push o) → Q (.ref s.heap.objs.size) { s with heap := s.heap.push o }) : wpAny (model pw w) A (pyIter a) Q E s := by
  have q' := q.expo
  have lst : ∀ x, a = .ref x → (∀ t, expo v ≠ .tup t) → (∀ a b, expo v ≠ .rng a b) → wpAny (model pw w) A (pyIter a) Q E s := fun x ex nt nr => by
    subst ex
    obtain ⟨vs, n, g, rr⟩ := lst_now S q e nt nr
    exact wpAny_pyIter_list (items := vs.toArray) ⟨_, g, rfl, n, rfl⟩ (hQ _ _ (itr_list hh _ x v xs0 nt nr) ⟨_, Heap.get?_push_size _ rfl, rfl, rfl⟩)
  have i := itsI e
  clear e
  generalize hu : expo v = u at q' i lst
  cases i with
  | loc l ys hk =>
    obtain ⟨x, ex, el⟩ := q'.loc_inv
    exact lst x ex (fun t => nofun) (fun a b => nofun)
  | lst =>
    obtain ⟨x, vs, n, ex, h⟩ := q'.lst_inv
    exact lst x ex (fun t => nofun) (fun a b => nofun)
  | tup =>
    obtain ⟨x, vs, n, rfl, lz, z, ex, rr⟩ := q'.tup_inv
    exact wpAny_pyIter_tuple (items := vs.toArray) ⟨_, ex, rfl, n, rfl⟩ (hQ _ _ (itr_tuple hh _ x v _ _ hu) ⟨_, Heap.get?_push_size _ rfl, rfl, rfl⟩)
  | rng c d hr =>
    obtain ⟨r, t, u, k, rfl, z, ee⟩ := q'.rng_inv
    have hsz : Builtin.Range.rangeSize c d 1 = ((d - c).toNat : Nat) := by
      rw [rangeSize_one]
      split <;> lia
    refine wpAny_pyIter_range ee (small_one (by lia) (by lia) (by lia) (by lia)) ?_
    rw [hsz]
    refine hQ _ _ (itr_range hh _ r v _ c d hu) ?_
    have := Heap.get?_push_size s.heap (o := { cls := .type "range_iterator", data := .fields #[rawInt c, rawInt ((d - c).toNat : Nat), rawInt 1] }) rfl
    simpa using this
theorem its_len {v : AV} {a : Value} {xs : List AV} (S : St w hb Φ s.heap Z ρ σ) (r : VRel s.heap Z ρ v a) (e : itemsOf σ v = some xs) : xs.length ≤ 20000 := by
  have i := itsI e
  have r := r.expo
  clear e
  revert r i
  generalize expo v = u
  intro i r
  cases i with
  | tup => obtain ⟨_, _, _, _, lz, _⟩ := r.tup_inv; exact lz
  | lst => obtain ⟨_, _, _, _, lz, _⟩ := r.lst_inv; exact lz
  | loc l ys hk => obtain ⟨x, rfl, el⟩ := r.loc_inv; exact S.list_el hk el fun _ _ _ _ lz => lz
  | rng c d h => rw [List.length_map, List.length_range]; lia
end
end Mine
end
section
open PySem PySem.W PyProof.Rows PySem.Calls
namespace Mine
noncomputable def clOf (cells : List (Str × Addr)) : List (Str × NameKind) → List (Str × Addr) → List (Str × Addr)
  | [], acc => acc
  | (n, k) :: r, acc => if k == .free then (match cells.lookup n with
    | some c => clOf cells r ((n, c) :: acc)
    | none => clOf cells r acc) else clOf cells r acc
theorem clOf_forIn {env : Env} : ∀ (names : List (Str × NameKind)) (acc : List (Str × Addr)), (∀ n, (n, NameKind.free) ∈ names → ∃ c, env.cells.lookup n = some c) →
    (forIn names acc fun x r => (match x with | (name, kind) => if (kind == NameKind.free) = true then (do let c ← cellOf env name; pure (ForInStep.yield ((name, c) :: r))) else pure (ForInStep.yield r) : Sem (ForInStep (List (Str × Addr))))) = pure (clOf env.cells names acc)
  | [], acc, _ => by rw [List.forIn_nil]; rfl
  | (n, k) :: r, acc, h => by
    rw [List.forIn_cons]
    have hr : ∀ m, (m, NameKind.free) ∈ r → ∃ c, env.cells.lookup m = some c := fun m hm => h m (.tail _ hm)
    unfold clOf
    by_cases hk : (k == NameKind.free) = true
    · have : k = .free := beq_iff_eq.mp hk
      subst this
      obtain ⟨c, hc⟩ := h n (.head _)
      simp only [hk, if_true, hc]
      have e : cellOf env n = pure c := by unfold cellOf; rw [hc]
      rw [e, pure_bind, pure_bind]
      exact clOf_forIn r _ hr
    · simp only [hk, Bool.false_eq_true, if_false]
      rw [pure_bind]
      exact clOf_forIn r _ hr
theorem closure_is {env : Env} {scope : Scope} (h : ∀ n, (n, NameKind.free) ∈ scope.names → ∃ c, env.cells.lookup n = some c) : closureFor scope env = pure (clOf env.cells scope.names []) := by
  unfold closureFor
  have := clOf_forIn (env := env) scope.names [] h
  simp only at this ⊢
  rw [show (forIn scope.names ([] : List (Str × Addr)) fun x r => (do
      if (x.snd == NameKind.free) = true then do let __do_lift ← cellOf env x.fst; pure (ForInStep.yield ((x.fst, __do_lift) :: r)) else pure (ForInStep.yield r) : Sem _)) = pure (clOf env.cells scope.names []) from this]
  rfl
set_option tactic.hygienic true in
theorem clOf_mem {cells : List (Str × Addr)} : ∀ {names : List (Str × NameKind)} {acc : List (Str × Addr)} {p : Str × Addr}, p ∈ clOf cells names acc → p ∈ acc ∨ (cells.lookup p.1 = some p.2 ∧ (p.1, NameKind.free) ∈ names)
  | [], _, _, h => .inl h
  | (n, k) :: r, acc, p, h => by
    unfold clOf at h
    split at h
    · rename_i hk
      have : k = .free := beq_iff_eq.mp hk
      subst this
      split at h
      · rename_i c hc
        rcases clOf_mem h with q | q
        · rcases List.mem_cons.mp q with rfl | q
          · exact .inr ⟨hc, .head _⟩
          · exact .inl q
        · exact .inr ⟨q.1, .tail _ q.2⟩
      · rcases clOf_mem h with q | q
        · exact .inl q
        · exact .inr ⟨q.1, .tail _ q.2⟩
    · rcases clOf_mem h with q | q
      · exact .inl q
      · exact .inr ⟨q.1, .tail _ q.2⟩
theorem clOf_sub {cells : List (Str × Addr)} : ∀ {names : List (Str × NameKind)} {acc : List (Str × Addr)} {p : Str × Addr}, p ∈ acc → p ∈ clOf cells names acc
  | [], _, _, h => h
  | (n, k) :: r, acc, p, h => by
    unfold clOf
    split
    · split
      · exact clOf_sub (.tail _ h)
      · exact clOf_sub h
    · exact clOf_sub h
theorem clOf_has {cells : List (Str × Addr)} : ∀ {names : List (Str × NameKind)} {acc : List (Str × Addr)} {n : Str} {c : Addr}, (n, NameKind.free) ∈ names → cells.lookup n = some c → (n, c) ∈ clOf cells names acc
  | (m, k) :: r, acc, n, c, h, hc => by
    unfold clOf
    rcases List.mem_cons.mp h with e | h
    · cases e
      rw [if_pos (by decide), hc]
      exact clOf_sub (.head _)
    · split
      · split
        · exact clOf_has h hc
        · exact clOf_has h hc
      · exact clOf_has h hc
theorem clOf_pair {cells : List (Str × Addr)} (ap : cells.Pairwise fun x y => x.2 ≠ y.2) : ∀ {names : List (Str × NameKind)} {acc : List (Str × Addr)}, (names.map (·.1)).Nodup → (∀ p ∈ acc, p.1 ∉ names.map (·.1)) → (∀ p ∈ acc, cells.lookup p.1 = some p.2) → (acc.Pairwise fun x y => x.2 ≠ y.2) → (clOf cells names acc).Pairwise fun x y => x.2 ≠ y.2
  | [], _, _, _, _, h => h
  | (n, k) :: r, acc, nd, hn, hl, h => by
    simp only [List.map_cons, List.nodup_cons] at nd
    have hn' : ∀ p ∈ acc, p.1 ∉ r.map (·.1) := fun p hp q => hn p hp (by simp only [List.map_cons]; exact .tail _ q)
    unfold clOf
    split
    · split
      · rename_i c hc
        refine clOf_pair ap nd.2 ?_ ?_ ?_
        · intro p hp
          rcases List.mem_cons.mp hp with rfl | hp
          · exact nd.1
          · exact hn' p hp
        · intro p hp
          rcases List.mem_cons.mp hp with rfl | hp
          · exact hc
          · exact hl p hp
        · refine List.pairwise_cons.mpr ⟨fun p hp e => ?_, h⟩
          have h1 := mem_of_lookup (hl p hp)
          have h2 := mem_of_lookup hc
          have := name_of_addr ap h2 (by rw [show (c : Addr) = p.2 from e]; exact h1)
          exact hn p hp (by simp [← this])
      · exact clOf_pair ap nd.2 hn' hl h
    · exact clOf_pair ap nd.2 hn' hl h
theorem lookup_of_mem {α : Type} {l : List (Str × α)} {n : Str} {c : α} (h : (n, c) ∈ l) : ∃ d, l.lookup n = some d := by
  induction l with
  | nil => cases h
  | cons p r ih =>
    obtain ⟨a, b⟩ := p
    rw [List.lookup_cons]
    cases q : n == a with
    | true => exact ⟨b, rfl⟩
    | false =>
      rcases List.mem_cons.mp h with e | h
      · cases e; simp at q
      · exact ih h
theorem clOf_look {cells : List (Str × Addr)} {names : List (Str × NameKind)} {n : Str} {c : Addr} (h : (clOf cells names []).lookup n = some c) : cells.lookup n = some c ∧ (n, NameKind.free) ∈ names := by
  rcases clOf_mem (mem_of_lookup h) with q | q
  · cases q
  · exact q
noncomputable def relN (ns names : List (Str × NameKind)) : List (Str × NameKind) := names.map fun p => if (p.2 == .free && ns.lookup p.1 == some .cell) then (p.1, .cell) else p
noncomputable def compR (ns : List (Str × NameKind)) (rest : List (Str × NameKind)) : Bool := rest.all fun p => (p.2 == .free && (ns.lookup p.1 == some .cell || ns.lookup p.1 == some .free)) || p.2 == .globalImplicit
noncomputable def compOk (ns : List (Str × NameKind)) (x : Nat) (names : List (Str × NameKind)) : Bool := onCons names fun a r => onCons r fun b rest => a.2 == .local && (b.2 == .local && (a.1 == (".0" : Str) && (b.1 == TT x && (compR ns rest && decide ((names.map (·.1)).Nodup)))))
theorem compOk_ex {ns : List (Str × NameKind)} {x : Nat} {names : List (Str × NameKind)} (ck : compOk ns x names = true) : ∃ rest, names = ((".0" : Str), NameKind.local) :: (TT x, NameKind.local) :: rest ∧ compR ns rest = true ∧ (names.map (·.1)).Nodup :=
  onCons_el (P := fun l => l = names → ∃ rest, l = ((".0" : Str), NameKind.local) :: (TT x, NameKind.local) :: rest ∧ compR ns rest = true ∧ (names.map (·.1)).Nodup) (fun a r h => onCons_el (P := fun r => a :: r = names → ∃ rest, a :: r = ((".0" : Str), NameKind.local) :: (TT x, NameKind.local) :: rest ∧ compR ns rest = true ∧ (names.map (·.1)).Nodup)
    (fun b rest h e => ⟨rest, congr (congrArg List.cons (Prod.ext (eq_of_beq (aL (aR (aR h)))) (eq_of_beq (aL h)))) (congrArg (· :: rest) (Prod.ext (eq_of_beq (aL (aR (aR (aR h))))) (eq_of_beq (aL (aR h))))), aL (aR (aR (aR (aR h)))), of_decide_eq_true (aR (aR (aR (aR (aR h)))))⟩) r h) names ck rfl
theorem lookup_relN {ns : List (Str × NameKind)} : ∀ {names : List (Str × NameKind)} {n : Str}, (relN ns names).lookup n = (names.lookup n).map fun k => if (k == .free && ns.lookup n == some .cell) then .cell else k
  | [], _ => rfl
  | (m, k) :: r, n => by
    have ih := lookup_relN (ns := ns) (names := r) (n := n)
    unfold relN at ih ⊢
    simp only [List.map_cons]
    by_cases hc : (k == NameKind.free && ns.lookup m == some .cell) = true
    · rw [if_pos hc, List.lookup_cons, List.lookup_cons]
      cases q : n == m with
      | true =>
        have : n = m := beq_iff_eq.mp q
        subst this
        show some NameKind.cell = Option.map _ (some k)
        rw [Option.map_some, if_pos hc]
      | false => exact ih
    · rw [if_neg hc, List.lookup_cons, List.lookup_cons]
      cases q : n == m with
      | true =>
        have : n = m := beq_iff_eq.mp q
        subst this
        show some k = Option.map _ (some k)
        rw [Option.map_some, if_neg hc]
      | false => exact ih
theorem TT_dot0 (k : Nat) : (TT k == (".0" : Str)) = false := TT_ne (by decide +kernel) (by decide +kernel) k
section
variable {env : Env} {ns : List (Str × NameKind)} {scope : Scope} {x : Nat} {C : Addr}
theorem comp_names (ck : compOk ns x scope.names = true) : scope.names.lookup (TT x) = some .local ∧ (∀ y ∈ scope.names, y.2 ≠ .cell) ∧ (∀ y ∈ scope.names, y.2 = .local → scope.names.lookup y.1 = some .local) ∧ (scope.names.map (·.1)).Nodup ∧
    (∀ n, (n, NameKind.free) ∈ scope.names → ns.lookup n = some .cell ∨ ns.lookup n = some .free) ∧ (∀ z, z ≠ x → scope.names.lookup (TT z) ≠ some .local) := by
  obtain ⟨rest, hn, hr, nd⟩ := compOk_ex ck
  unfold compR at hr
  simp only [Bool.and_eq_true, beq_iff_eq, List.all_eq_true, Bool.or_eq_true] at hr
  rw [hn] at nd
  have hne : (TT x == (".0" : Str)) = false := TT_dot0 x
  refine ⟨?_, ?_, ?_, by rw [hn]; exact nd, ?_, ?_⟩
  · rw [hn, List.lookup_cons, hne, List.lookup_cons]; simp
  · intro y hy
    rw [hn] at hy
    rcases List.mem_cons.mp hy with rfl | hy
    · simp
    · rcases List.mem_cons.mp hy with rfl | hy
      · simp
      · rcases hr y hy with q | q
        · rw [q.1]; simp
        · rw [q]; simp
  · intro y hy hl
    rw [hn] at hy ⊢
    rcases List.mem_cons.mp hy with rfl | hy
    · simp [List.lookup_cons]
    · rcases List.mem_cons.mp hy with rfl | hy
      · rw [List.lookup_cons, hne, List.lookup_cons]; simp
      · rcases hr y hy with q | q
        · rw [q.1] at hl; cases hl
        · rw [q] at hl; cases hl
  · intro n hm
    rw [hn] at hm
    rcases List.mem_cons.mp hm with e | hm
    · cases e
    · rcases List.mem_cons.mp hm with e | hm
      · cases e
      · rcases hr _ hm with q | q
        · exact q.2
        · cases q
  · intro z hz e
    rw [hn, List.lookup_cons, TT_dot0 z, List.lookup_cons] at e
    have : (TT z == TT x) = false := by
      rw [beq_eq_false_iff_ne]
      exact fun q => hz (TT_inj q)
    rw [this] at e
    simp only at e
    have m := mem_of_lookup e
    rcases hr _ m with q | q
    · simp at q
    · simp at q
theorem FrOk.comp (fr : FrOk env ns) (ck : compOk ns x scope.names = true) (hk : scope.kind = .function) (hC : ∀ n c, (n, c) ∈ env.cells → c ≠ C) : FrOk (compEnvC scope (clOf env.cells scope.names []) C env) (relN ns scope.names) := by
  obtain ⟨_, c2, _, c4, c5, _⟩ := comp_names ck
  refine ⟨?_, ?_, fr.glob, fr.blt, clOf_pair fr.apart c4 (fun p hp => by cases hp) (fun p hp => by cases hp) List.Pairwise.nil, ?_, ?_⟩
  · show (relabel scope env).names = _
    unfold relabel relN
    refine List.map_congr_left fun p hp => ?_
    obtain ⟨n, k⟩ := p
    have e1 : (env.scope.kind == ScopeKind.function) = true := by rw [fr.kind]; rfl
    have e2 : env.kindOf n = ns.lookup n := by unfold Env.kindOf; rw [fr.names]
    simp only [e1, e2, Bool.and_true]
  · exact hk
  · intro n c m
    rcases clOf_mem m with q | q
    · cases q
    · exact hC n c (mem_of_lookup q.1)
  · intro n h
    have hf : (n, NameKind.free) ∈ scope.names := by
      rw [lookup_relN] at h
      cases q : scope.names.lookup n with
      | none => rw [q] at h; simp at h
      | some k =>
        rw [q] at h
        have m := mem_of_lookup q
        simp only [Option.map_some, Option.some.injEq] at h
        by_cases hc : (k == NameKind.free && ns.lookup n == some .cell) = true
        · have : k = .free := beq_iff_eq.mp (Bool.and_eq_true_iff.mp hc).1
          rwa [this] at m
        · simp only [hc, if_false] at h
          rcases h with h | h
          · subst h; exact absurd rfl (c2 _ m)
          · subst h; exact m
    obtain ⟨c, hc⟩ := fr.cell n (c5 n hf)
    exact lookup_of_mem (clOf_has hf hc)
end
end Mine
end
section
open PySem PySem.W PyProof.Rows PySem.Calls
namespace Mine
section
variable {w : World} {hb h h' h0 : Heap} {Φ : List Env} {A : Around} {σ σ' : Sto} {s : Shared} {Z Z' Z0 : Addr → Prop} {ρ ρ' ρ0 : List Addr} {E : Value → Shared → Prop} {env : Env} {l : Loc} {ns : List (Str × NameKind)} {ex : Addr → Prop}
theorem Post.but {a : Addr} (x : Post ex h0 Z0 ρ0 h Z ρ) (new : h0.get? a = none) (hs : ∀ b o, b ≠ a → h.get? b = some o → h'.get? b = some o) : Post ex h0 Z0 ρ0 h' Z ρ := by
  refine ⟨fun b o e => ?_, x.ext, x.zx, x.zn, fun b o e n ne => ?_⟩
  · obtain ⟨o', e'⟩ := x.live b o e
    exact ⟨o', hs b o' (fun q => by rw [q, new] at e; cases e) e'⟩
  · obtain ⟨o', e', c⟩ := x.keep b o e n ne
    exact ⟨o', hs b o' (fun q => by rw [q, new] at e; cases e) e', c⟩
theorem std_but {a : Addr} (nz : ¬ Z a) (hs : ∀ b o, b ≠ a → h.get? b = some o → h'.get? b = some o) : Std h Z h' := fun b o z e => ⟨o, hs b o (fun q => nz (q ▸ z)) e, Chg.refl⟩
theorem In.but {a : Addr} {l0 : Loc} {σ0 : Sto} (I0 : In w hb Φ h0 Z0 ρ0 σ0 env l0) (new : h0.get? a = none) (I : In w hb Φ h Z ρ σ env l) (nr : a ∉ ρ) (nz : ¬ Z a) (hs : ∀ b o, b ≠ a → h.get? b = some o → h'.get? b = some o) : In w hb Φ h' Z ρ σ env l := by
  have sd := std_but nz hs
  have na : ∀ b o, h0.get? b = some o → b ≠ a := fun b o e q => by rw [q, new] at e; cases e
  refine ⟨I.st.step (fun b o e q => hs b o ?_ e) fun e m => ?_, ?_, fun b o => ?_⟩
  · rcases q with q | q | ⟨o0, q⟩
    · exact fun z => nr (z ▸ q)
    · exact fun z => nz (z ▸ q)
    · exact na b o0 (I0.st.base b o0 q)
  · obtain ⟨k, L, o, p1, p2, p3, p4, p5, p6⟩ := I.st.fr e m
    obtain ⟨_, L', o', q1, _, _, _, q5, _⟩ := I0.st.fr e m
    rw [p1] at q1; cases q1
    exact ⟨k, L, o, p1, p2, p3, p4, hs L o (na L o' q5) p5, p6⟩
  · obtain ⟨m, cm, hm, hc, hl⟩ := I.lr
    have nl : env.locals ≠ a := let ⟨_, _, _, o, g⟩ := I0.lo _ own_loc; na _ o g
    refine ⟨m, cm, ?_, fun n c e => ?_, fun y v e => ?_⟩
    · obtain ⟨o, es, ep, ho, r⟩ := hm
      exact ⟨o, es, ep, hs _ o nl ho, r⟩
    · obtain ⟨o, ho, hd⟩ := hc n c e
      have nc : c ≠ a := let ⟨_, _, _, o, g⟩ := I0.lo _ (own_cell e); na _ o g
      exact ⟨o, hs _ o nc ho, hd⟩
    · obtain ⟨val, r, p⟩ := hl y v e
      exact ⟨val, r.mono (fun zz z => z) (fun zz zz e => e) sd, p⟩
  · obtain ⟨p1, p2, p3, ob, p4⟩ := I.lo b o
    obtain ⟨_, _, _, o0, g⟩ := I0.lo b o
    exact ⟨p1, p2, p3, ob, hs b ob (na b o0 g) p4⟩
theorem Post.out (x : Post ex h Z ρ h' Z' ρ') {a : Addr} {o : Obj} (g : h.get? a = some o) (nr : a ∉ ρ) (nz : ¬ Z a) : a ∉ ρ' ∧ ¬ Z' a := by
  obtain ⟨e, r, be⟩ := x.ext
  refine ⟨?_, fun q => ?_⟩
  · rw [r]
    intro q
    rcases List.mem_append.mp q with q | q
    · exact nr q
    · rw [be a q] at g; cases g
  · rcases x.zn a q with q | q
    · exact nz q
    · rw [q] at g; cases g
theorem Post.priv (x : Post Mine.no h Z ρ h' Z' ρ') {a : Addr} {o : Obj} (g : h.get? a = some o) (nr : a ∉ ρ) (nz : ¬ Z a) (hc : o.cls ≠ .type "frame") : h'.get? a = some o := by
  obtain ⟨o', e', c⟩ := x.keep a o g nr id
  have := (c.imp fun z => (nz z)).keep hc
  rw [this] at e'; exact e'
theorem St.freeze {a : Addr} {o : Obj} (S : St w hb Φ h Z ρ σ) (nb : hb.get? a = none) (nr : a ∉ ρ) (g : h.get? a = some o) (nf : ∀ e ∈ Φ, e.frame ≠ some a) : St w hb Φ h (ZP Z a) ρ σ := by
  have sd : Std h Z h := fun b o z e => ⟨o, e, Chg.refl⟩
  refine ⟨S.base, S.len, S.nd, fun b m z => z.elim (S.sep b m) fun q => nr (q ▸ m), fun b m => ?_, fun b z => z.elim (S.zl b) fun q => ⟨o, q ▸ g⟩, fun i ao e => ?_, fun e m => ?_⟩
  · rcases m with m | m | m
    · exact S.nb b (.inl m)
    · exact S.nb b (.inr m)
    · exact m ▸ nb
  · obtain ⟨b, x, r, gx, q⟩ := S.ob i ao e
    exact ⟨b, x, r, gx, q.mono (fun zz z => .inl z) (fun zz zz e => e) (Nat.le_refl _) sd⟩
  · obtain ⟨k, L, o, p1, p2, p3, p4, p5⟩ := S.fr e m
    exact ⟨k, L, o, p1, p2, p3, fun z => z.elim p4 fun q => nf e m (q ▸ p1), p5⟩
theorem Post.freeze {a : Addr} (x : Post ex h0 Z0 ρ0 h Z ρ) (new : h0.get? a = none) : Post ex h0 Z0 ρ0 h (ZP Z a) ρ :=
  ⟨x.live, x.ext, fun b z => .inl (x.zx b z), fun b z => z.elim (x.zn b) fun q => .inr (q ▸ new), x.keep⟩
end
theorem drop_cons {α : Type} {xs r : List α} {y : α} {i : Nat} (h : xs.drop i = y :: r) : xs[i]? = some y ∧ xs.drop (i + 1) = r ∧ i < xs.length := by
  have hi : i < xs.length := by
    rcases Nat.lt_or_ge i xs.length with q | q
    · exact q
    · rw [List.drop_of_length_le q] at h; cases h
  rw [List.drop_eq_getElem_cons hi] at h
  cases h
  exact ⟨List.getElem?_eq_getElem hi, rfl, hi⟩
theorem ns_move {h h' : Heap} {a b : Addr} {m : Str → Option Value} (n : b ≠ a) (hs : ∀ c o, c ≠ a → h.get? c = some o → h'.get? c = some o) (N : h.Ns b m) : h'.Ns b m :=
  let ⟨o, es, ep, ho, r⟩ := N
  ⟨o, es, ep, hs _ o n ho, r⟩
section
variable {w : World} {hb : Heap} {Φ : List Env} {A : Around} {σ : Sto} {s₁ : Shared} {Z : Addr → Prop} {ρ : List Addr} {env : Env} {l : Loc} {ns : List (Str × NameKind)}
structure Turn (w : World) (hb : Heap) (Φ : List Env) (env : Env) (l : Loc) (s₁ : Shared) (Z : Addr → Prop) (ρ : List Addr) (v : AV) (a : Value) (xs : List AV) (J : Nat → Heap → Prop) (I D C : Addr) (elt : Loc → Sto → KE → Prop) (x : Nat) (k : KE)
    (i : Nat) (h' : Heap) (Z' : Addr → Prop) (ρ' : List Addr) (σ' : Sto) (acc : List AV) (vs : List Value) (nD : Nat) (m' : Str → Option Value) : Prop where
  inn : In w hb Φ h' Z' ρ' σ' env l
  post : Post no s₁.heap Z ρ h' Z' ρ'
  it : J i h'
  pI : I ∉ ρ' ∧ ¬ Z' I
  pD : D ∉ ρ' ∧ ¬ Z' D
  pC : C ∉ ρ' ∧ ¬ Z' C
  gD : h'.get? D = some (lstO vs nD)
  rD : VRels h' Z' ρ' acc vs
  nC : h'.Ns C m'
  wp : compV elt x v xs l k (xs.drop i) acc σ'
  rv : VRel h' Z' ρ' v a
  la : acc.length = i
  li : i ≤ xs.length
inductive CompI (w : World) (hb : Heap) (Φ : List Env) (env : Env) (l : Loc) (s₁ : Shared) (Z : Addr → Prop) (ρ : List Addr) (v : AV) (a : Value) (xs : List AV) (J : Nat → Heap → Prop) (I D C : Addr) (elt : Loc → Sto → KE → Prop) (x : Nat) (k : KE) : Nat → Shared → Prop
  | mk (i : Nat) (h' : Heap) (tk : Nat) (Z' : Addr → Prop) (ρ' : List Addr) (σ' : Sto) (acc : List AV) (vs : List Value) (nD : Nat) (m' : Str → Option Value) (T : Turn w hb Φ env l s₁ Z ρ v a xs J I D C elt x k i h' Z' ρ' σ' acc vs nD m') : CompI w hb Φ env l s₁ Z ρ v a xs J I D C elt x k (xs.length - i) { s₁ with heap := h', toks := tk }
theorem comp_loop {elt iter : Expr} {wpe : Loc → Sto → KE → Prop} {x : Nat} {px : Pos} {scope : Scope} {pos : Pos} {v : AV} {a : Value} {xs : List AV} {J : Nat → Heap → Prop} {I D C : Addr} {k : KE} {R : Result → Shared → Prop}
    (hh : A.handled = none) (fr : FrOk env ns) (ck : compOk ns x scope.names = true) (hk : scope.kind = .function) (lx : xs.length ≤ 20000)
    (nI : s₁.heap.get? I = none) (nD : s₁.heap.get? D = none) (nC : s₁.heap.get? C = none) (hID : I ≠ D) (hIC : I ≠ C) (hDC : D ≠ C)
    (In1 : In w hb Φ s₁.heap Z ρ σ env l) (W : Itr w hb Φ A I v a xs J)
    (helt : ∀ l σ k, wpe l σ k → VT w hb Φ A (compEnvC scope (clOf env.cells scope.names []) C env) l (eval elt (compEnvC scope (clOf env.cells scope.names []) C env)) σ k noX)
    (hR : ∀ h' tk Z' ρ' σ' acc vs m m', k (.lst acc) σ' → In w hb Φ h' Z' ρ' σ' env l → Post no s₁.heap Z ρ h' Z' ρ' → D ∉ ρ' ∧ ¬ Z' D → C ∉ ρ' ∧ ¬ Z' C → h'.get? D = some (lstO vs m) → VRels h' Z' ρ' acc vs → h'.Ns C m' → acc.length ≤ 20000 → R (.ok .next) { s₁ with heap := h', toks := tk })
    {h₀ : Heap} {Z₀ : Addr → Prop} {ρ₀ : List Addr} {σ₀ : Sto} {m₀ : Str → Option Value} {d₀ : Nat} {tk₀ : Nat} (T : Turn w hb Φ env l s₁ Z ρ v a xs J I D C wpe x k 0 h₀ Z₀ ρ₀ σ₀ [] [] d₀ m₀) :
    codeAny (model pw w) A (.compLoop (.ListComp elt [⟨.Name (TT x) px, iter, [], 0⟩] scope pos) 0 (.ref I) (.ref D) (compEnvC scope (clOf env.cells scope.names []) C env)) R { s₁ with heap := h₀, toks := tk₀ } := by
  obtain ⟨c1, c2, _, c4, c5, c6⟩ := comp_names ck
  refine codeAny_compLoop_list (CompI w hb Φ env l s₁ Z ρ v a xs J I D C wpe x k) ?_ xs.length (.mk 0 h₀ tk₀ Z₀ ρ₀ σ₀ [] [] d₀ m₀ T)
  rintro n s' ⟨i, h', tk, Z', ρ', σ', acc, vs, nd, m', T⟩
  refine Classical.byContradiction fun go => ?_
  obtain ⟨inn, post, it, pI, pD, pC, gD, rD, nC', wp, rv, la, li⟩ := T
  cases hd : xs.drop i with
  | nil =>
    rw [hd] at wp
    have hi : xs.length = i := Nat.le_antisymm (List.drop_eq_nil_iff.mp hd) li
    refine go (W.done _ Z' ρ' σ' _ _ (hi ▸ it) inn.st rv wp.1 pI.1 pI.2 fun h₁ tk₁ hs => ?_)
    have sd := std_but pI.2 hs
    exact hR h₁ tk₁ Z' ρ' σ' acc vs nd m' wp.2 (In.but In1 nI inn pI.1 pI.2 hs) (post.but nI hs) pD pC (hs _ _ (Ne.symm hID) gD) (rD.mono (fun zz z => z) (fun zz zz e => e) sd) (ns_move (Ne.symm hIC) hs nC') (by rw [la]; exact Nat.le_trans li lx)
  | cons y r =>
    obtain ⟨ey, er, hi⟩ := drop_cons hd
    rw [hd] at wp
    refine go (W.item i y _ Z' ρ' σ' _ _ it inn.st rv wp.1 ey pI.1 pI.2 fun u h₁ tk₁ j₁ hs ru => ?_)
    have hs' : ∀ b o, b ≠ I → h'.get? b = some o → h₁.get? b = some o := fun b o n e => (hs.2 b n).trans e
    have sd := std_but pI.2 hs'
    have I1 := In.but In1 nI inn pI.1 pI.2 hs'
    have nC1 : h₁.Ns C m' := ns_move (Ne.symm hIC) hs' nC'
    refine wpAny_assign_Name (wpAny_storeName_local (env := compEnvC scope (clOf env.cells scope.names []) C env) (lookup_relabel_local c1) nC1 (fun h₂ hn₂ hs₂ => ?_) (by show ((relabel scope env).kind == .class || ((relabel scope env).kind == .module && _)) = false; rw [show (relabel scope env).kind = .function from hk]; rfl))
    have hs2' : ∀ b o, b ≠ C → h₁.get? b = some o → h₂.get? b = some o := fun b o n e => (hs₂.2 b n).trans e
    have sd2 := std_but pC.2 hs2'
    have I2 := In.but In1 nC I1 pC.1 pC.2 hs2'
    have ru2 : VRel h₂ Z' ρ' y u := (ru.mono (fun zz z => z) (fun zz zz e => e) sd).mono (fun zz z => z) (fun zz zz e => e) sd2
    have gD2 : h₂.get? D = some (lstO vs nd) := hs2' _ _ hDC (hs' _ _ (Ne.symm hID) gD)
    have rD2 : VRels h₂ Z' ρ' acc vs := (rD.mono (fun zz z => z) (fun zz zz e => e) sd).mono (fun zz z => z) (fun zz zz e => e) sd2
    have rv2 : VRel h₂ Z' ρ' v a := (rv.mono (fun zz z => z) (fun zz zz e => e) sd).mono (fun zz z => z) (fun zz zz e => e) sd2
    have it2 : J (i + 1) h₂ := W.frame _ _ _ j₁ (hs₂.2 I hIC)
    refine Classical.byContradiction fun go => ?_
    obtain ⟨oI, vI, gI, dI, cI⟩ := W.at_ _ _ it2
    have Ic : In w hb Φ h₂ Z' ρ' σ' (compEnvC scope (clOf env.cells scope.names []) C env) ((x, y) :: l) := by
      obtain ⟨mo, cm, hmo, hcm, hlo⟩ := I2.lr
      refine ⟨I2.st, ⟨_, fun n => if ((clOf env.cells scope.names []).lookup n).isSome then cm n else if env.kindOf n = some .local then mo n else cm n, hn₂, fun n c e => ?_, fun z q e => ?_⟩, fun b ob => ?_⟩
      · have e' : (clOf env.cells scope.names []).lookup n = some c := e
        simp only [e', Option.isSome_some, if_true]
        exact hcm n c (clOf_look e').1
      · have kz : (compEnvC scope (clOf env.cells scope.names []) C env).kindOf (TT z) = (relN ns scope.names).lookup (TT z) := by
          have : (relabel scope env).names = relN ns scope.names := by
            unfold relabel relN
            refine List.map_congr_left fun p hp => ?_
            obtain ⟨n, k⟩ := p
            have e1 : (env.scope.kind == ScopeKind.function) = true := by rw [fr.kind]; rfl
            have e2 : env.kindOf n = ns.lookup n := by unfold Env.kindOf; rw [fr.names]
            simp only [e1, e2, Bool.and_true]
          show (relabel scope env).names.lookup (TT z) = _
          rw [this]
        by_cases hz : z = x
        · subst hz
          simp only [nsLk, if_true] at e
          cases e
          refine ⟨u, ru2, fun zz => by simp, fun q => ?_⟩
          exact absurd (by rw [kz, lookup_relN, c1]; rfl) q
        · have e' : nsLk l z = some q := by
            simp only [nsLk] at e
            rwa [if_neg (fun q => hz q.symm)] at e
          obtain ⟨val, rr, p1, p2⟩ := hlo z q e'
          have nl : (compEnvC scope (clOf env.cells scope.names []) C env).kindOf (TT z) ≠ some .local := by
            rw [kz, lookup_relN]
            intro q
            obtain ⟨k, q1, q2⟩ := Option.map_eq_some_iff.mp q
            split at q2
            · cases q2
            · subst q2; exact c6 z hz q1
          refine ⟨val, rr, fun q => absurd q nl, fun zz => ?_⟩
          show (if _ then _ else _) = _
          split
          · rename_i hs
            obtain ⟨c, hc⟩ := Option.isSome_iff_exists.mp hs
            have := c5 _ (clOf_look hc).2
            refine p2 ?_
            unfold Env.kindOf
            rw [fr.names]
            rcases this with q | q <;> rw [q] <;> simp
          · split
            · rename_i q; exact p1 q
            · rename_i q; exact p2 q
      · rcases ob with ob | ⟨n, hm⟩
        · have eb : b = C := ob
          rw [eb]
          have nbC : hb.get? C = none := by
            cases q : hb.get? C with
            | none => rfl
            | some o => rw [In1.st.base _ _ q] at nC; cases nC
          obtain ⟨o, _, _, ho, _⟩ := hn₂
          exact ⟨nbC, pC.1, pC.2, o, ho⟩
        · have hm' : (n, b) ∈ clOf env.cells scope.names [] := hm
          rcases clOf_mem hm' with q | q
          · cases q
          · exact I2.lo b (own_cell q.1)
    refine go (helt _ _ _ wp.2 _ Z' ρ' _ _ Ic (fun ev σ₃ av h₃ Z₃ ρ₃ tk₃ hk₃ Ic₃ rv₃ p₃ => ?_) (fun zz zz zz zz zz zz hx => hx.elim))
    refine Classical.byContradiction fun go => ?_
    have gD3 : h₃.get? D = some (lstO vs nd) := p₃.priv gD2 pD.1 pD.2 (by simp)
    have oD := p₃.out gD2 pD.1 pD.2
    have oI' := p₃.out gI pI.1 pI.2
    obtain ⟨oC, esC, epC, hoC, hdC, rC⟩ := hn₂
    have oC' := p₃.out hoC pC.1 pC.2
    have nC3 := p₃.nsK (⟨oC, esC, epC, hoC, hdC, rC⟩ : h₂.Ns C _) pC.1 pC.2 id
    have I3 : In w hb Φ h₃ Z₃ ρ₃ σ₃ env l := I2.step p₃ Ic₃.st
    have gI3 := p₃.priv gI pI.1 pI.2 cI
    have it3 : J (i + 1) h₃ := W.frame _ _ _ it2 (gI3.trans gI.symm)
    have lz : vs.length ≤ 20000 := by rw [← rD.length, la]; lia
    refine go (wpAny_list_append_plain (items := vs.toArray) ⟨nd, gD3⟩ (fun h₄ hl₄ hs₄ => ?_) (by simp only [List.size_toArray]; rw [sizeLine_eq]; lia))
    have hs4' : ∀ b o, b ≠ D → h₃.get? b = some o → h₄.get? b = some o := fun b o n e => (hs₄.2 b n).trans e
    have sd4 := std_but oD.2 hs4'
    have P1 := ((post.but nI hs').but nC hs2').trans p₃
    refine ⟨xs.length - (i + 1), Nat.sub_lt_sub_left hi (Nat.lt_succ_self i), ?_⟩
    obtain ⟨nd4, gD4⟩ := hl₄
    refine .mk (i + 1) h₄ tk₃ Z₃ ρ₃ σ₃ (acc ++ [ev]) (vs ++ [av]) nd4 _ ⟨In.but In1 nD I3 oD.1 oD.2 hs4', P1.but nD hs4', W.frame _ _ _ it3 (hs₄.2 I hID), oI', oD, oC', by simpa using gD4, ?_, ns_move (Ne.symm hDC) hs4' nC3, ?_, ?_, by rw [List.length_append, la]; rfl, hi⟩
    · exact ((p₃.rels I2.st rD2).append (.cons _ _ _ _ rv₃ .nil)).mono (fun zz z => z) (fun zz zz e => e) sd4
    · rw [er]; exact hk₃
    · exact (p₃.rel I2.st rv2).mono (fun zz z => z) (fun zz zz e => e) sd4
end
end Mine
end
section
open PySem PySem.W PyProof.Rows PySem.Calls
namespace Mine
noncomputable def notSet : Expr → Bool
  | .Set _ _ _ => false
  | _ => true
theorem folded_of {e : Expr} {env : Env} (h : notSet e = true) (x : Value) : foldedSetIterable e env x = pure x := by cases e <;> first | rfl | cases h
section
variable {w : World} {hb : Heap} {Φ : List Env} {A : Around} {σ : Sto} {s : Shared} {Z : Addr → Prop} {ρ : List Addr} {env : Env} {l : Loc} {ns : List (Str × NameKind)} {Q : Value → Shared → Prop} {E : Value → Shared → Prop}
theorem comp_any {elt iter : Expr} {wpe : Loc → Sto → KE → Prop} {x : Nat} {px : Pos} {scope : Scope} {pos ipos : Pos} {k : KE} {X : KX} {use : Option (Value → Sem Unit)} {wi : Loc → Sto → KE → KX → Prop}
    (hh : A.handled = none) (fr : FrOk env ns) (ck : compOk ns x scope.names = true) (hk : scope.kind = .function) (hst : notSet iter = true) (I₀ : In w hb Φ s.heap Z ρ σ env l)
    (hiter : ∀ k, wi l σ k X → VT w hb Φ A env l (eval iter env) σ k X)
    (helt : ∀ C, (∀ n c, (n, c) ∈ env.cells → c ≠ C) → ∀ l σ k, wpe l σ k → VT w hb Φ A (compEnvC scope (clOf env.cells scope.names []) C env) l (eval elt (compEnvC scope (clOf env.cells scope.names []) C env)) σ k noX)
    (wp : wi l σ (fun v σ => opt (itemsOf σ v) fun xs => compV wpe x v xs l k xs [] σ) X)
    (hR : ∀ D C h' tk Z' ρ' σ' acc vs m m', k (.lst acc) σ' → In w hb Φ h' Z' ρ' σ' env l → Post no s.heap Z ρ h' Z' ρ' → (s.heap.get? D = none ∧ D ∉ ρ' ∧ ¬ Z' D) → (s.heap.get? C = none ∧ C ∉ ρ' ∧ ¬ Z' C) → D ≠ C → h'.get? D = some (lstO vs m) → VRels h' Z' ρ' acc vs → h'.Ns C m' → acc.length ≤ 20000 →
      compPost (model pw w) A E use Q (.ref D) C (.ok .next) { s with heap := h', toks := tk })
    (hX : ∀ e σ' h' Z' ρ' tk, X σ' → Fly s.heap h' Z' ρ' e → In w hb Φ h' Z' ρ' σ' env l → Post no s.heap Z ρ h' Z' ρ' → E e { s with heap := h', toks := tk }) :
    wpAny (model pw w) A (comprehension (.ListComp elt [⟨.Name (TT x) px, iter, [], 0⟩] scope pos) scope env ipos (newList []) false (eval iter env) use) Q E s := by
  have cn := comp_names ck
  have hclos : closureFor scope env = pure (clOf env.cells scope.names []) := closure_is fun n hn => fr.cell n (cn.2.2.2.2.1 n hn)
  refine wpAny_comprehension_free (g := ⟨.Name (TT x) px, iter, [], 0⟩) (gs := []) rfl (folded_of hst) hclos hk cn.2.2.1 ?_
  refine hiter _ wp s Z ρ _ _ I₀ (fun v σ₁ a h₁ Z₁ ρ₁ tk₁ hw I₁ rv p₁ => ?_) hX
  refine Classical.byContradiction fun go => ?_
  refine opt_el hw fun xs ex hc => ?_
  have lx : xs.length ≤ 20000 := its_len (s := { s with heap := h₁ }) I₁.st rv ex
  refine go (op_iter hh I₁.st rv ex fun J oI W j0 => ?_)
  have nI : h₁.get? h₁.objs.size = none := get_size h₁
  obtain ⟨I, hI⟩ : ∃ I : Nat, h₁.objs.size = I := ⟨_, rfl⟩
  dsimp only at W j0 ⊢
  rw [hI] at W nI ⊢
  have e01 : (I : Addr) ≠ I + 1 := Nat.ne_of_lt (Nat.lt_succ_self _)
  have e12 : (I + 1 : Addr) ≠ I + 2 := Nat.ne_of_lt (Nat.lt_succ_self _)
  have e02 : (I : Addr) ≠ I + 2 := Nat.ne_of_lt (Nat.lt_succ_of_lt (Nat.lt_succ_self _))
  have sI : (h₁.push oI).objs.size = I + 1 := by rw [Heap.size_push, hI]
  refine wpAny_newObj_type (wpAny_newFunctionEnv cn.2.1 (by intro y hy; simp at hy) (fun h₄ hns hsb => ?_) hk)
  generalize hH : (h₁.push oI).push { cls := .type "list", dict := none, data := .seq ([] : List Value).toArray } = H3 at hns hsb
  have sD : (h₁.push oI).objs.size = I + 1 := sI
  have sC : H3.objs.size = I + 2 := by rw [← hH, Heap.size_push, sI]
  have gD3 : H3.get? (I + 1) = some (lstO [] 0) := by
    have := Heap.get?_push_size (h₁.push oI) (o := { cls := .type "list", dict := none, data := .seq ([] : List Value).toArray }) rfl
    rw [sI, hH] at this; exact this
  have up : ∀ b o, h₁.get? b = some o → h₄.get? b = some o := fun b o e => by
    have e3 : H3.get? b = some o := hH ▸ Heap.get?_push_of_some _ (Heap.get?_push_of_some _ e)
    have : b ≠ H3.objs.size := Nat.ne_of_lt (Heap.lt_size e3)
    exact (hsb.2 b this).trans (Heap.get?_push_of_some _ e3)
  have I₄ := I₁.step (post_keep up) (I₁.st.keep up)
  have gD4 : h₄.get? (I + 1) = some (lstO [] 0) := (hsb.2 (I + 1) (by rw [sC]; exact e12)).trans (Heap.get?_push_of_some _ gD3)
  have gI4 : h₄.get? I = (h₁.push oI).get? I := by
    obtain ⟨o, vs, g, _⟩ := W.at_ _ _ j0
    rw [g]
    have e3 : H3.get? I = some o := hH ▸ Heap.get?_push_of_some _ g
    exact (hsb.2 I (by rw [sC]; exact e02)).trans (Heap.get?_push_of_some _ e3)
  have j4 : J 0 h₄ := W.frame _ _ _ j0 gI4
  have big : ∀ a, I ≤ a → h₁.get? a = none := fun a ha => by
    cases q : h₁.get? a with
    | none => rfl
    | some o => exact absurd (Heap.lt_size q) (Nat.not_lt.mpr (hI ▸ ha))
  have prv : ∀ a, I ≤ a → a ∉ ρ₁ ∧ ¬ Z₁ a := fun a ha => ⟨fun m => absurd (I₁.st.mem_lt m) (Nat.not_lt.mpr (hI ▸ ha)), fun z => absurd (I₁.st.z_lt z) (Nat.not_lt.mpr (hI ▸ ha))⟩
  have hCoff : ∀ n c, (n, c) ∈ env.cells → c ≠ I + 2 := fun n c m e => by
    obtain ⟨_, _, _, o, g⟩ := I₁.lo c (.inr ⟨n, m⟩)
    rw [e, big _ (Nat.le_add_right _ _)] at g; cases g
  have rv4 := rv.mono (Z' := Z₁) (ρ' := ρ₁) (fun zz z => z) (fun zz zz e => e) (show Std h₁ Z₁ h₄ from fun a o z e => ⟨o, up a o e, Chg.refl⟩)
  have nsC : h₄.Ns (I + 2) (fun x => ([] : List (Str × Value)).reverse.lookup x) := by rw [← sC]; exact hns
  have ns0 : s.heap.get? I = none ∧ s.heap.get? (I + 1) = none ∧ s.heap.get? (I + 2) = none := ⟨get_none_of p₁.live (big I (Nat.le_refl _)), get_none_of p₁.live (big _ (Nat.le_add_right _ _)), get_none_of p₁.live (big _ (Nat.le_add_right _ _))⟩
  have T : Turn w hb Φ env l { s with heap := h₁, toks := tk₁ } Z₁ ρ₁ v a xs J I (I + 1) (I + 2) wpe x k 0 h₄ Z₁ ρ₁ σ₁ [] [] 0 (fun x => ([] : List (Str × Value)).reverse.lookup x) :=
    ⟨I₄, post_keep up, j4, prv I (Nat.le_refl _), prv _ (Nat.le_add_right _ _), prv _ (Nat.le_add_right _ _), gD4, .nil, nsC, by simpa using hc, rv4, rfl, Nat.zero_le _⟩
  have loop : ∀ s₃ : Shared, s₃ = { s with heap := h₄, toks := tk₁ + ([] : List (Str × Value)).length } →
      codeAny (model pw w) A (.compLoop (.ListComp elt [⟨.Name (TT x) px, iter, [], 0⟩] scope pos) 0 (.ref I) (.ref (I + 1)) (compEnvC scope (clOf env.cells scope.names []) (I + 2) env)) (compPost (model pw w) A E use Q (.ref (I + 1)) (I + 2)) s₃ := by
    rintro s₃ rfl
    exact comp_loop (s₁ := { s with heap := h₁, toks := tk₁ }) hh fr ck hk lx (big I (Nat.le_refl _)) (big _ (Nat.le_add_right _ _)) (big _ (Nat.le_add_right _ _)) e01 e02 e12 I₁ W (helt (I + 2) hCoff)
      (fun h' tk Z' ρ' σ' acc vs m m' q1 q2 q3 q4 q5 q6 q7 q8 q9 => hR (I + 1) (I + 2) h' tk Z' ρ' σ' acc vs m m' q1 q2 (p₁.trans q3) ⟨ns0.2.1, q4⟩ ⟨ns0.2.2, q5⟩ e12 q6 q7 q8 q9) T
  have fin := codeAny_compStart_list (loop _ rfl) (W.self 0 _ _ (notedBy (model pw w) A (compEnvC scope (clOf env.cells scope.names []) (I + 2) env) fun x s' => compPost (model pw w) A E use Q (.ref (I + 1)) (I + 2) (.error x) s') j4 (loop _ rfl))
  have eC : H3.objs.size = I + 2 := sC
  rw [← eC] at fin
  rw [show (I + 1 : Nat) = (h₁.push oI).objs.size from sD.symm] at fin
  exact fin
theorem VT.comp {elt iter : Expr} {wpe : Loc → Sto → KE → Prop} {x : Nat} {px : Pos} {scope : Scope} {pos : Pos} {k : KE} {X : KX} {wi : Loc → Sto → KE → KX → Prop}
    (hh : A.handled = none) (fr : FrOk env ns) (ck : compOk ns x scope.names = true) (hk : scope.kind = .function) (hst : notSet iter = true)
    (hiter : ∀ k, wi l σ k X → VT w hb Φ A env l (eval iter env) σ k X)
    (helt : ∀ C, (∀ n c, (n, c) ∈ env.cells → c ≠ C) → ∀ l σ k, wpe l σ k → VT w hb Φ A (compEnvC scope (clOf env.cells scope.names []) C env) l (eval elt (compEnvC scope (clOf env.cells scope.names []) C env)) σ k noX)
    (wp : wi l σ (fun v σ => opt (itemsOf σ v) fun xs => compV wpe x v xs l k xs [] σ) X) :
    VT w hb Φ A env l (eval (.ListComp elt [⟨.Name (TT x) px, iter, [], 0⟩] scope pos) env) σ k X := fun s Z ρ Q E I hQ hX => by
  rw [eval_ListComp]
  refine comp_any hh fr ck hk hst I hiter helt wp (fun D C h' tk Z' ρ' σ' acc vs m m' q1 q2 q3 q4 q5 q6 q7 q8 q9 q10 => ?_) hX
  refine ⟨m', q9, fun h'' hs => ?_⟩
  have hs' : ∀ b o, b ≠ C → h'.get? b = some o → h''.get? b = some o := fun b o n e => (hs.2 b n).trans e
  have I2 := In.but I q5.1 q2 q5.2.1 q5.2.2 hs'
  have P2 := q3.but q5.1 hs'
  have g2 : h''.get? D = some (lstO vs m) := hs' _ _ q6 q7
  have nbD : hb.get? D = none := by
    cases q : hb.get? D with
    | none => rfl
    | some o => have := I.st.base _ _ q; rw [q4.1] at this; cases this
  have S3 := I2.st.freeze nbD q4.2.1 g2 (fun e me ef => by
    obtain ⟨_, L, o, p1, _, _, _, p5, _⟩ := I.st.fr e me
    rw [ef] at p1; cases p1
    rw [q4.1] at p5; cases p5)
  have rr : VRels h'' (ZP Z' D) ρ' acc vs := q8.mono (fun zz z => .inl z) (fun zz zz e => e) (std_but q5.2.2 hs')
  have I3 : In w hb Φ h'' (ZP Z' D) ρ' σ' env l := I.step (P2.freeze q4.1) S3
  exact hQ _ _ _ _ _ _ _ q1 I3 (.lst acc D vs m q10 (.inr rfl) g2 rr) (P2.freeze q4.1)
end
end Mine
end
section
open PySem PySem.W PyProof.Rows PySem.Calls
namespace Mine
noncomputable abbrev QK {α β : Type} (w : World) (hb : Heap) (Φ : List Env) (rel : Heap → (Addr → Prop) → List Addr → β → α → Prop) (env : Env) (l : Loc) (s : Shared) (Z : Addr → Prop) (ρ : List Addr) (k : β → Sto → Prop) (Q : α → Shared → Prop) : Prop :=
  ∀ b σ' a h' Z' ρ' tk, k b σ' → In w hb Φ h' Z' ρ' σ' env l → rel h' Z' ρ' b a → Post no s.heap Z ρ h' Z' ρ' → Q a { s with heap := h', toks := tk }
noncomputable abbrev XK (w : World) (hb : Heap) (Φ : List Env) (env : Env) (l : Loc) (s : Shared) (Z : Addr → Prop) (ρ : List Addr) (X : KX) (E : Value → Shared → Prop) : Prop :=
  ∀ e σ' h' Z' ρ' tk, X σ' → Fly s.heap h' Z' ρ' e → In w hb Φ h' Z' ρ' σ' env l → Post no s.heap Z ρ h' Z' ρ' → E e { s with heap := h', toks := tk }
section
variable {w : World} {hb h₁ : Heap} {Φ : List Env} {A : Around} {σ : Sto} {s : Shared} {Z Z₁ : Addr → Prop} {ρ ρ₁ : List Addr} {env : Env} {l : Loc} {E : Value → Shared → Prop} {X : KX} {tk₁ : Nat}
theorem QK.after {α β : Type} {rel : Heap → (Addr → Prop) → List Addr → β → α → Prop} {k : β → Sto → Prop} {Q : α → Shared → Prop} (hQ : QK w hb Φ rel env l s Z ρ k Q) (p : Post no s.heap Z ρ h₁ Z₁ ρ₁) : QK w hb Φ rel env l { s with heap := h₁, toks := tk₁ } Z₁ ρ₁ k Q :=
  fun b σ' a h' Z' ρ' tk hk I r q => hQ b σ' a h' Z' ρ' tk hk I r (p.trans q)
theorem XK.after (hX : XK w hb Φ env l s Z ρ X E) (p : Post no s.heap Z ρ h₁ Z₁ ρ₁) : XK w hb Φ env l { s with heap := h₁, toks := tk₁ } Z₁ ρ₁ X E :=
  fun e σ' h' Z' ρ' tk hx f I q => hX e σ' h' Z' ρ' tk hx (f.after p.live) I (p.trans q)
theorem QK.op {k : KE} {Q : Value → Shared → Prop} {r : AV} {σ' : Sto} (hQ : QK w hb Φ VRel env l s Z ρ k Q) (I : In w hb Φ s.heap Z ρ σ env l) (hk : k r σ') : OpQ w hb Φ s Z ρ σ' r Q :=
  fun a h' Z' ρ' tk S' q p => hQ _ _ a h' Z' ρ' tk hk (I.step p S') q p
theorem QK.same {α β : Type} {rel : Heap → (Addr → Prop) → List Addr → β → α → Prop} {k : β → Sto → Prop} {Q : α → Shared → Prop} {a : α} {b : β} {tk : Nat} (hQ : QK w hb Φ rel env l s Z ρ k Q) (I : In w hb Φ s.heap Z ρ σ env l) (hk : k b σ) (r : rel s.heap Z ρ b a) : Q a { s with toks := tk } :=
  hQ b σ a s.heap Z ρ tk hk I r Post.refl
noncomputable def SV (w : World) (hb : Heap) (Φ : List Env) (A : Around) (env : Env) (l : Loc) (we : Loc → Sto → KE → KX → Prop) (t : Sem Value) : Prop := ∀ σ k X, we l σ k X → VT w hb Φ A env l t σ k X
noncomputable def ST (w : World) (hb : Heap) (Φ : List Env) (A : Around) (env : Env) (l : Loc) (we : Loc → Sto → KT → KX → Prop) (t : Sem Bool) : Prop := ∀ σ k X, we l σ k X → TrT w hb Φ A env l t σ k X
noncomputable def SVs (w : World) (hb : Heap) (Φ : List Env) (A : Around) (env : Env) (l : Loc) (n : Nat) (ws : List W2) (t : Sem (List Value)) : Prop := ∀ σ k X, valsV ws l σ k X → Tr w hb Φ (fun h Z ρ b a => VRels h Z ρ b a ∧ b.length = n) A env l t σ k X
noncomputable def plainT : Expr → Bool
  | .UnaryOp .Not _ _ => false
  | .BoolOp _ _ _ => false
  | .IfExp _ _ _ _ => false
  | .Compare _ _ _ _ => false
  | _ => true
theorem ST.of {a : Expr} {we : Loc → Sto → KE → KX → Prop} (sm : ∃ o, hb.get? sysModules = some o) (hp : plainT a = true) (h : SV w hb Φ A env l we (eval a env)) : ST w hb Φ A env l (ofV we).t (PySem.isTrue a env (eval a env)) := fun σ k X wp s Z ρ Q E I hQ hX => by
  have e : PySem.isTrue a env (eval a env) = (do let v ← eval a env; standAt a.pos; holding [v] (truthy v)) := by
    cases a with
    | UnaryOp op x p => cases op <;> first | rfl | cases hp
    | _ => first | rfl | cases hp
  rw [e]
  refine wpAny_bind (h σ _ X wp s Z ρ _ E I (fun v σ₁ a₁ h₁ Z₁ ρ₁ tk₁ hk I₁ r₁ p₁ => ?_) hX)
  refine opt_el hk fun b et hk => ?_
  refine wpAny_bind (wpAny_standAt (wpAny_holding ?_))
  exact op_truth I₁.st sm r₁ et fun tk => hQ _ _ _ _ _ _ tk hk I₁ rfl p₁
theorem SV.attr {a : Expr} {f : Nat} {pos : Pos} {we : Loc → Sto → KE → KX → Prop} (B : Bs w hb) (hf : f ∈ AL) (hbs : okBase a = true) (h : SV w hb Φ A env l we (eval a env)) :
    SV w hb Φ A env l (fun l σ k X => we l σ (fun v σ => opt (attrOf σ v f) fun r => k r σ) X) (eval (.Attribute a (TT f) pos) env) := fun σ k X wp s Z ρ Q E I hQ hX => by
  rw [arm_eval_Attribute, base_of hbs]
  refine wpAny_bind (h σ _ X wp s Z ρ _ E I (fun v σ₁ a₁ h₁ Z₁ ρ₁ tk₁ hk I₁ r₁ p₁ => ?_) hX)
  refine opt_el hk fun r e hk => ?_
  refine wpAny_bind (wpAny_standAt (wpAny_bind (wpAny_holding (op_attr B I₁.st r₁ hf e ?_))))
  exact fun a₂ h₂ Z₂ ρ₂ tk₂ S₂ q₂ p₂ => wpAny_bind (wpAny_letTemporaryGo (wpAny_pure (hQ _ _ _ _ _ _ _ hk (I₁.step p₂ S₂) q₂ (p₁.trans p₂))))
noncomputable def notSlice : Expr → Bool
  | .Slice _ _ _ _ => false
  | _ => true
theorem subs_of {e : Expr} (h : notSlice e = true) (o i : Value) : subscripted e false o i = operate [o, i] (getItem o i) := by cases e <;> first | rfl | cases h
theorem SV.sub {a b : Expr} {pos : Pos} {we wi : Loc → Sto → KE → KX → Prop} (hs : notSlice b = true) (h : SV w hb Φ A env l we (eval a env)) (h2 : SV w hb Φ A env l wi (eval b env)) :
    SV w hb Φ A env l (fun l σ k X => we l σ (fun v σ => wi l σ (fun j σ => opt (itemOf σ v j) fun r => k r σ) X) X) (eval (.Subscript a b pos) env) := fun σ k X wp s Z ρ Q E I hQ hX => by
  refine Subscript_ (h σ _ X wp s Z ρ _ E I (fun v σ₁ a₁ h₁ Z₁ ρ₁ tk₁ hk I₁ r₁ p₁ => ?_) hX)
  refine h2 σ₁ _ X hk _ Z₁ ρ₁ _ E I₁ (fun j σ₂ a₂ h₂ Z₂ ρ₂ tk₂ hk I₂ r₂ p₂ => ?_) (XK.after hX p₁)
  refine opt_el hk fun r e hk => ?_
  exact op_sub I₂.st (p₂.rel I₁.st r₁) r₂ e (subs_of hs) (QK.op (QK.after (s := s) (h₁ := h₂) (tk₁ := tk₂) hQ (p₁.trans p₂)) I₂ hk)
theorem sliced_any {value : Expr} {lo hi : Option Expr} {p pos : Pos} {Q : Value → Shared → Prop}
    (h : wpAny (model pw w) A (eval value env) (fun o s₁ => wpAny (model pw w) A (evalPart lo env) (fun x s₂ => wpAny (model pw w) A (evalPart hi env) (fun u s₃ =>
      (∃ T id, ({ s₃ with heap := s₃.heap.push { cls := .type "slice", data := .fields #[x, u, .none] } } : Shared).TypeIs o T ∧ typeLookup (.type T) "__getitem__" = pure (some (.builtin id))) ∧
      wpAny (model pw w) A (getItem o (.ref s₃.heap.objs.size)) Q E { s₃ with heap := s₃.heap.push { cls := .type "slice", data := .fields #[x, u, .none] } }) E s₂) E s₁) E s) :
    wpAny (model pw w) A (eval (.Subscript value (.Slice lo hi none p) pos) env) Q E s := by
  rw [eval_Subscript]
  refine wpAny_bind (wpAny_mono h (fun o s₁ h₁ => wpAny_bind (wpAny_holding (wpAny_Slice (wpAny_mono h₁ (fun x s₂ h₂ => wpAny_mono h₂ (fun u s₃ h₃ => evalPart_none_step ?_) fun zz zz x => x) fun zz zz x => x)))) fun zz zz x => x)
  obtain ⟨⟨T, id, hT, hl⟩, hg⟩ := h₃
  refine wpAny_bind (wpAny_standAt ?_)
  generalize ({ s₃ with heap := s₃.heap.push { cls := .type "slice", data := .fields #[x, u, .none] } } : Shared) = s₄ at hT hg ⊢
  have fin : wpAny (model pw w) A (operate [.ref s₃.heap.objs.size, o] (getItem o (.ref s₃.heap.objs.size))) (fun r s₃ => wpAny (model pw w) A (letTemporaryGo value o r >>= fun zz => pure r) Q E s₃) E s₄ :=
    wpAny_operating (wpAny_mono hg (fun r s₃ h₃ => wpAny_bind (wpAny_letTemporaryGo (wpAny_pure h₃))) fun zz zz x => x)
  first
    | (refine wpAny_bind ?_; rw [getitemInPython_of_ne hT.not_modules]; refine wpAny_bind (wpAny_specialOf hT hl ?_))
    | refine wpAny_bind (wpAny_specialOf hT hl ?_)
  first
    | exact wpAny_pure (wpAny_bind fin)
    | exact wpAny_bind (wpAny_pure (wpAny_bind fin))
    | exact wpAny_bind fin
theorem typeIs_push {o : Value} {T : String} {x : Obj} (h : s.TypeIs o T) : ({ s with heap := s.heap.push x } : Shared).TypeIs o T := by
  cases o with
  | ref a => obtain ⟨y, e, c⟩ := h; exact ⟨y, Heap.get?_push_of_some _ e, c⟩
  | _ => exact h
theorem SV.slF {a b : Expr} {p pos : Pos} {we wi : Loc → Sto → KE → KX → Prop} (h : SV w hb Φ A env l we (eval a env)) (h2 : SV w hb Φ A env l wi (eval b env)) :
    SV w hb Φ A env l (fun l σ k X => we l σ (fun v σ => wi l σ (fun j σ => opt (slF v j) fun r => k r σ) X) X) (eval (.Subscript a (.Slice (some b) none none p) pos) env) := fun σ k X wp s Z ρ Q E I hQ hX => by
  refine sliced_any (h σ _ X wp s Z ρ _ E I (fun v σ₁ a₁ h₁ Z₁ ρ₁ tk₁ hk I₁ r₁ p₁ => evalPart_some_step ?_) hX)
  refine h2 σ₁ _ X hk _ Z₁ ρ₁ _ E I₁ (fun j σ₂ a₂ h₂ Z₂ ρ₂ tk₂ hk I₂ r₂ p₂ => evalPart_none_step ?_) (XK.after hX p₁)
  refine opt_el hk fun r e hk => ?_
  have hh := op_slF (E := E) (A := A) (s := { s with heap := h₂, toks := tk₂ }) I₂.st (p₂.rel I₁.st r₁) r₂ e (QK.op (QK.after (s := s) (h₁ := h₂) (tk₁ := tk₂) hQ (p₁.trans p₂)) I₂ hk)
  obtain ⟨⟨T, id, hT, hl⟩, hg⟩ := hh
  exact ⟨⟨T, id, typeIs_push hT, hl⟩, hg⟩
theorem SV.slT {a b : Expr} {p pos : Pos} {we wi : Loc → Sto → KE → KX → Prop} (h : SV w hb Φ A env l we (eval a env)) (h2 : SV w hb Φ A env l wi (eval b env)) :
    SV w hb Φ A env l (fun l σ k X => we l σ (fun v σ => wi l σ (fun j σ => opt (slT v j) fun r => k r σ) X) X) (eval (.Subscript a (.Slice none (some b) none p) pos) env) := fun σ k X wp s Z ρ Q E I hQ hX => by
  refine sliced_any (h σ _ X wp s Z ρ _ E I (fun v σ₁ a₁ h₁ Z₁ ρ₁ tk₁ hk I₁ r₁ p₁ => evalPart_none_step (evalPart_some_step ?_)) hX)
  refine h2 σ₁ _ X hk _ Z₁ ρ₁ _ E I₁ (fun j σ₂ a₂ h₂ Z₂ ρ₂ tk₂ hk I₂ r₂ p₂ => ?_) (XK.after hX p₁)
  refine opt_el hk fun r e hk => ?_
  have hh := op_slT (E := E) (A := A) (s := { s with heap := h₂, toks := tk₂ }) I₂.st (p₂.rel I₁.st r₁) r₂ e (QK.op (QK.after (s := s) (h₁ := h₂) (tk₁ := tk₂) hQ (p₁.trans p₂)) I₂ hk)
  obtain ⟨⟨T, id, hT, hl⟩, hg⟩ := hh
  exact ⟨⟨T, id, typeIs_push hT, hl⟩, hg⟩
noncomputable def opNum : Operator → Nat
  | .Add => 0 | .Sub => 1 | .Mult => 2 | .FloorDiv => 3 | .Mod => 4
  | _ => 9
noncomputable def bopOf (op : Nat) (b : Operator) : Bool := Nat.beq op (opNum b) && Nat.ble op 4
theorem bop_of {op : Nat} {b : Operator} (h : bopOf op b = true) : (op = 0 ∧ b = .Add) ∨ (op = 1 ∧ b = .Sub) ∨ (op = 2 ∧ b = .Mult) ∨ (op = 3 ∧ b = .FloorDiv) ∨ (op = 4 ∧ b = .Mod) := by
  have e := Nat.eq_of_beq_eq_true (aL h)
  have l := aR h
  clear h
  subst e
  cases b <;> first | exact nof l | exact .inl ⟨rfl, rfl⟩ | exact .inr (.inl ⟨rfl, rfl⟩) | exact .inr (.inr (.inl ⟨rfl, rfl⟩)) | exact .inr (.inr (.inr (.inl ⟨rfl, rfl⟩))) | exact .inr (.inr (.inr (.inr ⟨rfl, rfl⟩)))
theorem SV.bin {a b : Expr} {op : Nat} {bop : Operator} {pos : Pos} {we wi : Loc → Sto → KE → KX → Prop} (ho : bopOf op bop = true) (h : SV w hb Φ A env l we (eval a env)) (h2 : SV w hb Φ A env l wi (eval b env)) :
    SV w hb Φ A env l (fun l σ k X => we l σ (fun va σ => wi l σ (fun vb σ => opt (binOf op va vb) fun r => k r σ) X) X) (eval (.BinOp a bop b pos) env) := fun σ k X wp s Z ρ Q E I hQ hX => by
  refine wpAny_BinOp (h σ _ X wp s Z ρ _ E I (fun v σ₁ a₁ h₁ Z₁ ρ₁ tk₁ hk I₁ r₁ p₁ => ?_) hX)
  refine h2 σ₁ _ X hk _ Z₁ ρ₁ _ E I₁ (fun j σ₂ a₂ h₂ Z₂ ρ₂ tk₂ hk I₂ r₂ p₂ => ?_) (XK.after hX p₁)
  refine opt_el hk fun r e hk => ?_
  exact op_bin (bop_of ho) I₂.st (p₂.rel I₁.st r₁) r₂ e (QK.op (QK.after (s := s) (h₁ := h₂) (tk₁ := tk₂) hQ (p₁.trans p₂)) I₂ hk)
theorem SV.neg {a : Expr} {pos : Pos} {we : Loc → Sto → KE → KX → Prop} (h : SV w hb Φ A env l we (eval a env)) :
    SV w hb Φ A env l (fun l σ k X => we l σ (fun v σ => opt (asI v) fun i => k (.int (-i)) σ) X) (eval (.UnaryOp .USub a pos) env) := fun σ k X wp s Z ρ Q E I hQ hX => by
  refine wpAny_UnaryOp (h σ _ X wp s Z ρ _ E I (fun v σ₁ a₁ h₁ Z₁ ρ₁ tk₁ hk I₁ r₁ p₁ => ?_) hX)
  refine opt_el hk fun i e hk => ?_
  exact op_neg I₁.st (asI_ex e ▸ r₁) (QK.op (QK.after (s := s) (h₁ := h₁) (tk₁ := tk₁) hQ p₁) I₁ hk)
theorem SV.not {a : Expr} {pos : Pos} {we : Loc → Sto → KE → KX → Prop} (sm : ∃ o, hb.get? sysModules = some o) (h : SV w hb Φ A env l we (eval a env)) :
    SV w hb Φ A env l (fun l σ k X => we l σ (fun v σ => opt (truthOf σ v) fun b => k (.bool (!b)) σ) X) (eval (.UnaryOp .Not a pos) env) := fun σ k X wp s Z ρ Q E I hQ hX => by
  refine wpAny_UnaryOp (h σ _ X wp s Z ρ _ E I (fun v σ₁ a₁ h₁ Z₁ ρ₁ tk₁ hk I₁ r₁ p₁ => ?_) hX)
  refine opt_el hk fun b e hk => ?_
  exact not_of (op_truth I₁.st sm r₁ e fun tk => hQ _ _ _ _ _ _ tk hk I₁ (.bool _) p₁)
theorem ST.not {a : Expr} {pos : Pos} {wt : Loc → Sto → KT → KX → Prop} {whole : Sem Value} (h : ST w hb Φ A env l wt (PySem.isTrue a env (eval a env))) :
    ST w hb Φ A env l (fun l σ k X => wt l σ (fun b σ => k (!b) σ) X) (PySem.isTrue (.UnaryOp .Not a pos) env whole) := fun σ k X wp s Z ρ Q E I hQ hX => by
  refine isTrue_not (h σ _ X wp s Z ρ _ E I (fun v σ₁ a₁ h₁ Z₁ ρ₁ tk₁ hk I₁ r₁ p₁ => ?_) hX)
  subst r₁
  exact hQ _ _ _ _ _ _ _ hk I₁ rfl p₁
theorem SV.cmp {a b : Expr} {op : Nat} {cop : CmpOp} {pos : Pos} {we wi : Loc → Sto → KE → KX → Prop} (sm : ∃ o, hb.get? sysModules = some o) (hu : A.units ≤ 9000) (ho : op ≤ 9) (hc : cop = copOf op) (hm : behindInMarks cop b = false) (h : SV w hb Φ A env l we (eval a env)) (h2 : SV w hb Φ A env l wi (eval b env)) :
    SV w hb Φ A env l (fun l σ k X => we l σ (fun va σ => wi l σ (fun vb σ => opt (cmpS σ op va vb) fun r => k (.bool r) σ) X) X) (eval (.Compare a [cop] [b] pos) env) := fun σ k X wp s Z ρ Q E I hQ hX => by
  refine wpAny_Compare1 (h σ _ X wp s Z ρ _ E I (fun v σ₁ a₁ h₁ Z₁ ρ₁ tk₁ hk I₁ r₁ p₁ => ?_) hX) hm
  refine h2 σ₁ _ X hk _ Z₁ ρ₁ _ E I₁ (fun j σ₂ a₂ h₂ Z₂ ρ₂ tk₂ hk I₂ r₂ p₂ => ?_) (XK.after hX p₁)
  refine opt_el hk fun r e hk => ?_
  subst hc
  exact op_cmp I₂.st ho hu sm (p₂.rel I₁.st r₁) r₂ e fun tk => hQ _ _ _ _ _ _ tk hk I₂ (.bool _) (p₁.trans p₂)
theorem ST.cmp {a b : Expr} {op : Nat} {cop : CmpOp} {pos : Pos} {whole : Sem Value} {we wi : Loc → Sto → KE → KX → Prop} (sm : ∃ o, hb.get? sysModules = some o) (hu : A.units ≤ 9000) (ho : op ≤ 9) (hc : cop = copOf op) (hm : behindInMarks cop b = false) (h : SV w hb Φ A env l we (eval a env)) (h2 : SV w hb Φ A env l wi (eval b env)) :
    ST w hb Φ A env l (fun l σ k X => we l σ (fun va σ => wi l σ (fun vb σ => opt (cmpS σ op va vb) fun r => k r σ) X) X) (PySem.isTrue (.Compare a [cop] [b] pos) env whole) := fun σ k X wp s Z ρ Q E I hQ hX => by
  refine wpAny_isTrue_Compare1 (h σ _ X wp s Z ρ _ E I (fun v σ₁ a₁ h₁ Z₁ ρ₁ tk₁ hk I₁ r₁ p₁ => ?_) hX) hm
  refine h2 σ₁ _ X hk _ Z₁ ρ₁ _ E I₁ (fun j σ₂ a₂ h₂ Z₂ ρ₂ tk₂ hk I₂ r₂ p₂ => ?_) (XK.after hX p₁)
  refine opt_el hk fun r e hk => ?_
  subst hc
  exact op_cmp I₂.st ho hu sm (p₂.rel I₁.st r₁) r₂ e fun tk => wpAny_truthy_bool (hQ _ _ _ _ _ _ tk hk I₂ rfl (p₁.trans p₂))
theorem SV.ife {t a b : Expr} {pos : Pos} {wt : Loc → Sto → KT → KX → Prop} {wa wb : Loc → Sto → KE → KX → Prop} (ht : ST w hb Φ A env l wt (PySem.isTrue t env (eval t env))) (h : SV w hb Φ A env l wa (eval a env)) (h2 : SV w hb Φ A env l wb (eval b env)) :
    SV w hb Φ A env l (fun l σ k X => wt l σ (fun c σ => br c (wa l σ k X) (wb l σ k X)) X) (eval (.IfExp t a b pos) env) := fun σ k X wp s Z ρ Q E I hQ hX => by
  refine wpAny_IfExp (ht σ _ X wp s Z ρ _ E I (fun c σ₁ a₁ h₁ Z₁ ρ₁ tk₁ hk I₁ r₁ p₁ => ?_) hX)
  subst r₁
  cases c with
  | true => exact h σ₁ _ X hk _ Z₁ ρ₁ _ E I₁ (QK.after (s := s) (h₁ := h₁) (tk₁ := tk₁) hQ p₁) (XK.after hX p₁)
  | false => exact h2 σ₁ _ X hk _ Z₁ ρ₁ _ E I₁ (QK.after (s := s) (h₁ := h₁) (tk₁ := tk₁) hQ p₁) (XK.after hX p₁)
theorem ST.ife {t a b : Expr} {pos : Pos} {whole : Sem Value} {wt wa wb : Loc → Sto → KT → KX → Prop} (ht : ST w hb Φ A env l wt (PySem.isTrue t env (eval t env))) (h : ST w hb Φ A env l wa (PySem.isTrue a env (eval a env))) (h2 : ST w hb Φ A env l wb (PySem.isTrue b env (eval b env))) :
    ST w hb Φ A env l (fun l σ k X => wt l σ (fun c σ => br c (wa l σ k X) (wb l σ k X)) X) (PySem.isTrue (.IfExp t a b pos) env whole) := fun σ k X wp s Z ρ Q E I hQ hX => by
  refine isTrue_IfExp (ht σ _ X wp s Z ρ _ E I (fun c σ₁ a₁ h₁ Z₁ ρ₁ tk₁ hk I₁ r₁ p₁ => ?_) hX)
  subst r₁
  cases c with
  | true => exact h σ₁ _ X hk _ Z₁ ρ₁ _ E I₁ (QK.after (s := s) (h₁ := h₁) (tk₁ := tk₁) hQ p₁) (XK.after hX p₁)
  | false => exact h2 σ₁ _ X hk _ Z₁ ρ₁ _ E I₁ (QK.after (s := s) (h₁ := h₁) (tk₁ := tk₁) hQ p₁) (XK.after hX p₁)
end
end Mine
end
section
open PySem PySem.W PyProof.Rows PySem.Calls
namespace Mine
section
variable {w : World} {hb h₁ : Heap} {Φ : List Env} {A : Around} {σ : Sto} {s : Shared} {Z Z₁ : Addr → Prop} {ρ ρ₁ : List Addr} {env : Env} {l : Loc} {E : Value → Shared → Prop} {X : KX} {tk₁ : Nat}
inductive SVL (w : World) (hb : Heap) (Φ : List Env) (A : Around) (env : Env) (l : Loc) : List W2 → List Expr → Prop
  | nil : SVL w hb Φ A env l [] []
  | cons {p : W2} {ps : List W2} {a : Expr} {as : List Expr} (hv : SV w hb Φ A env l p.v (eval a env)) (ht : ST w hb Φ A env l p.t (PySem.isTrue a env (eval a env))) (rs : SVL w hb Φ A env l ps as) : SVL w hb Φ A env l (p :: ps) (a :: as)
theorem SVL.and {pos : Pos} (sm : ∃ o, hb.get? sysModules = some o) {ps : List W2} {as : List Expr} (h : SVL w hb Φ A env l ps as) : SV w hb Φ A env l (andV ps) (boolOp pos .And (evalEach as env)) := by
  induction h with
  | nil => exact fun σ k X wp => wp.elim
  | cons hv ht rs ih =>
    cases rs with
    | nil => exact hv
    | cons hv2 ht2 rs2 =>
      refine fun σ k X wp s Z ρ Q E I hQ hX => wpAny_bind (hv σ _ X wp s Z ρ _ E I (fun v σ₁ a₁ h₁ Z₁ ρ₁ tk₁ hk I₁ r₁ p₁ => wpAny_bind (wpAny_standAt (wpAny_bind (wpAny_holding (opt_el hk fun b e hk => op_truth I₁.st sm r₁ e fun tk => ?_))))) hX)
      cases b with
      | true => exact ih σ₁ k X hk _ Z₁ ρ₁ _ E I₁ (QK.after (s := s) (h₁ := h₁) (tk₁ := tk) hQ p₁) (XK.after (s := s) (h₁ := h₁) (tk₁ := tk) hX p₁)
      | false => exact wpAny_pure (hQ _ _ _ _ _ _ _ hk I₁ r₁ p₁)
theorem SVL.or {pos : Pos} (sm : ∃ o, hb.get? sysModules = some o) {ps : List W2} {as : List Expr} (h : SVL w hb Φ A env l ps as) : SV w hb Φ A env l (orV ps) (boolOp pos .Or (evalEach as env)) := by
  induction h with
  | nil => exact fun σ k X wp => wp.elim
  | cons hv ht rs ih =>
    cases rs with
    | nil => exact hv
    | cons hv2 ht2 rs2 =>
      refine fun σ k X wp s Z ρ Q E I hQ hX => wpAny_bind (hv σ _ X wp s Z ρ _ E I (fun v σ₁ a₁ h₁ Z₁ ρ₁ tk₁ hk I₁ r₁ p₁ => wpAny_bind (wpAny_standAt (wpAny_bind (wpAny_holding (opt_el hk fun b e hk => op_truth I₁.st sm r₁ e fun tk => ?_))))) hX)
      cases b with
      | false => exact ih σ₁ k X hk _ Z₁ ρ₁ _ E I₁ (QK.after (s := s) (h₁ := h₁) (tk₁ := tk) hQ p₁) (XK.after (s := s) (h₁ := h₁) (tk₁ := tk) hX p₁)
      | true => exact wpAny_pure (hQ _ _ _ _ _ _ _ hk I₁ r₁ p₁)
theorem SVL.andT {pos : Pos} {whole : Sem Value} {ps : List W2} {as : List Expr} (h : SVL w hb Φ A env l ps as) : ST w hb Φ A env l (andT ps) (PySem.isTrue (.BoolOp .And as pos) env whole) := by
  induction h with
  | nil => exact fun σ k X wp s Z ρ Q E I hQ hX => isTrue_and_nil (QK.same (s := s) (tk := s.toks) hQ I wp rfl)
  | cons hv ht rs ih =>
    refine fun σ k X wp s Z ρ Q E I hQ hX => isTrue_and (ht σ _ X wp s Z ρ _ E I (fun b σ₁ a₁ h₁ Z₁ ρ₁ tk₁ hk I₁ r₁ p₁ => ?_) hX)
    subst r₁
    cases b with
    | true => exact ih σ₁ k X hk _ Z₁ ρ₁ _ E I₁ (QK.after (s := s) (h₁ := h₁) (tk₁ := tk₁) hQ p₁) (XK.after hX p₁)
    | false => exact hQ _ _ _ _ _ _ _ hk I₁ rfl p₁
theorem SVL.orT {pos : Pos} {whole : Sem Value} {ps : List W2} {as : List Expr} (h : SVL w hb Φ A env l ps as) : ST w hb Φ A env l (orT ps) (PySem.isTrue (.BoolOp .Or as pos) env whole) := by
  induction h with
  | nil => exact fun σ k X wp s Z ρ Q E I hQ hX => isTrue_or_nil (QK.same (s := s) (tk := s.toks) hQ I wp rfl)
  | cons hv ht rs ih =>
    refine fun σ k X wp s Z ρ Q E I hQ hX => isTrue_or (ht σ _ X wp s Z ρ _ E I (fun b σ₁ a₁ h₁ Z₁ ρ₁ tk₁ hk I₁ r₁ p₁ => ?_) hX)
    subst r₁
    cases b with
    | false => exact ih σ₁ k X hk _ Z₁ ρ₁ _ E I₁ (QK.after (s := s) (h₁ := h₁) (tk₁ := tk₁) hQ p₁) (XK.after hX p₁)
    | true => exact hQ _ _ _ _ _ _ _ hk I₁ rfl p₁
theorem SVL.all {pos : Pos} {ps : List W2} {as : List Expr} (h : SVL w hb Φ A env l ps as) (hs : as.all notStar = true) : SVs w hb Φ A env l as.length ps (spliced (backTo pos (starEach as env))) := by
  induction h with
  | nil => exact fun σ k X wp s Z ρ Q E I hQ hX => args_nil (QK.same (s := s) (tk := s.toks) hQ I wp ⟨.nil, rfl⟩)
  | cons hv ht rs ih =>
    exact fun σ k X wp s Z ρ Q E I hQ hX => args_cons (hv σ _ X wp s Z ρ _ E I (fun v σ₁ a₁ h₁ Z₁ ρ₁ tk₁ hk I₁ r₁ p₁ =>
      ih (aR hs) σ₁ _ X hk _ Z₁ ρ₁ _ E I₁ (fun vs σ₂ as₂ h₂ Z₂ ρ₂ tk₂ hk I₂ r₂ p₂ => hQ _ _ _ _ _ _ _ hk I₂ ⟨.cons _ _ _ _ (p₂.rel I₁.st r₁) r₂.1, congrArg Nat.succ r₂.2⟩ (p₁.trans p₂)) (XK.after hX p₁)) hX) (star_of (aL hs))
theorem SVs.tup {as : List Expr} {pos : Pos} {ps : List W2} {x1} (hn : as.length ≤ 100) (h : ∀ pos, SVs w hb Φ A env l as.length ps (spliced (backTo pos (starEach as env)))) :
    SV w hb Φ A env l (fun l σ k X => valsV ps l σ (fun vs σ => k (.tup vs) σ) X) (eval (.Tuple as x1 pos) env) := fun σ k X wp s Z ρ Q E I hQ hX => by
  refine wpAny_Tuple_spliced (h pos σ _ X wp s Z ρ _ E I (fun vs σ₁ as₁ h₁ Z₁ ρ₁ tk₁ hk I₁ r₁ p₁ => ?_) hX)
  obtain ⟨rr, ln⟩ := r₁
  refine ⟨by rw [← rr.length, ln]; exact Nat.le_trans hn (by decide), ?_⟩
  exact new_tup (m := 0) (tk := tk₁) (s := { s with heap := h₁, toks := tk₁ }) I₁.st rr (by lia) (QK.op (QK.after (s := s) (h₁ := h₁) (tk₁ := tk₁) hQ p₁) I₁ hk)
theorem SVs.fls {as : List Expr} {pos : Pos} {ps : List W2} (hn : as.length ≤ 100) (h : ∀ pos, SVs w hb Φ A env l as.length ps (spliced (backTo pos (starEach as env)))) :
    SV w hb Φ A env l (fun l σ k X => valsV ps l σ (fun vs σ => k (.lst vs) σ) X) (eval (.List as pos) env) := fun σ k X wp s Z ρ Q E I hQ hX => by
  refine wpAny_List_spliced (h pos σ _ X wp s Z ρ _ E I (fun vs σ₁ as₁ h₁ Z₁ ρ₁ tk₁ hk I₁ r₁ p₁ => ?_) hX)
  obtain ⟨rr, ln⟩ := r₁
  refine ⟨by rw [← rr.length, ln]; exact Nat.le_trans hn (by decide), ?_⟩
  exact new_lst (m := 0) (tk := tk₁) (s := { s with heap := h₁, toks := tk₁ }) I₁.st rr (by lia) (QK.op (QK.after (s := s) (h₁ := h₁) (tk₁ := tk₁) hQ p₁) I₁ hk)
theorem SVs.lst {as : List Expr} {pos : Pos} {ps : List W2} (hn : as.length ≤ 100) (h : ∀ pos, SVs w hb Φ A env l as.length ps (spliced (backTo pos (starEach as env)))) :
    SV w hb Φ A env l (fun l σ k X => valsV ps l σ (fun vs σ => k (.loc σ.length) (σ ++ [.list vs])) X) (eval (.List as pos) env) := fun σ k X wp s Z ρ Q E I hQ hX => by
  refine wpAny_List_spliced (h pos σ _ X wp s Z ρ _ E I (fun vs σ₁ as₁ h₁ Z₁ ρ₁ tk₁ hk I₁ r₁ p₁ => ?_) hX)
  obtain ⟨rr, ln⟩ := r₁
  refine ⟨by rw [← rr.length, ln]; exact Nat.le_trans hn (by decide), ?_⟩
  have r' : ORel w (h₁.push (lstO as₁ 0)) Z₁ (ρ₁ ++ [h₁.objs.size]) (.list vs) (lstO as₁ 0) := ⟨as₁, 0, rfl, rr.mono (fun zz z => z) (fun zz zz e => rho_app e) (std_push _), by lia⟩
  exact hQ _ _ _ _ _ _ tk₁ hk (I₁.step (post_pushO _) (I₁.st.pushO rfl r')) (.loc _ _ (by rw [← I₁.st.len, List.getElem?_append_right (Nat.le_refl _)]; simp)) (p₁.trans (post_pushO _))
end
end Mine
end
section
open PySem PySem.W PyProof.Rows PySem.Calls
namespace Mine
section
variable {w : World} {hb h₁ h h0 h' : Heap} {Φ : List Env} {A : Around} {σ : Sto} {s : Shared} {Z Z₁ Z0 : Addr → Prop} {ρ ρ₁ ρ0 : List Addr} {env : Env} {l : Loc} {E : Value → Shared → Prop} {X : KX} {tk₁ : Nat} {ex : Addr → Prop}
theorem St.own {a : Addr} {o : Obj} {ao : AO} (S : St w hb Φ h Z ρ σ) (nb : hb.get? a = none) (nr : a ∉ ρ) (nz : ¬ Z a) (g : h.get? a = some o) (nf : ∀ e ∈ Φ, e.frame ≠ some a) (r : ORel w h Z (ρ ++ [a]) ao o) : St w hb Φ h Z (ρ ++ [a]) (σ ++ [ao]) := by
  have sd : Std h Z h := fun b o z e => ⟨o, e, Chg.refl⟩
  refine ⟨S.base, by simp [S.len], ?_, fun b m z => ?_, fun b m => ?_, S.zl, fun i ao' e => ?_, fun e m => ?_⟩
  · rw [List.nodup_append]
    exact ⟨S.nd, by simp, fun b m c hc => by simp at hc; subst hc; exact fun q => nr (q ▸ m)⟩
  · rcases List.mem_append.mp m with m | m
    · exact S.sep b m z
    · simp at m; subst m; exact nz z
  · rcases m with m | m
    · rcases List.mem_append.mp m with m | m
      · exact S.nb b (.inl m)
      · simp at m; subst m; exact nb
    · exact S.nb b (.inr m)
  · by_cases hi : i < σ.length
    · rw [List.getElem?_append_left hi] at e
      obtain ⟨b, x, r', g', q⟩ := S.ob i ao' e
      exact ⟨b, x, rho_app r', g', q.mono (fun zz z => z) (fun zz zz e => rho_app e) (by simp) sd⟩
    · have : i = σ.length := by
        have := (List.getElem?_eq_some_iff.mp e).1
        simp at this; lia
      subst this
      rw [List.getElem?_append_right (Nat.le_refl _)] at e
      simp at e
      subst e
      exact ⟨a, o, by rw [← S.len, List.getElem?_append_right (Nat.le_refl _)]; simp, g, r⟩
  · obtain ⟨k, L, o', p1, p2, p3, p4, p5⟩ := S.fr e m
    refine ⟨k, L, o', p1, p2, fun q => ?_, p4, p5⟩
    rcases List.mem_append.mp q with q | q
    · exact p3 q
    · simp at q; subst q; exact nf e m p1
theorem Post.own {a : Addr} (x : Post ex h0 Z0 ρ0 h Z ρ) (new : h0.get? a = none) : Post ex h0 Z0 ρ0 h Z (ρ ++ [a]) := by
  obtain ⟨e, r, be⟩ := x.ext
  refine ⟨x.live, ⟨e ++ [a], by rw [r, List.append_assoc], fun b hb => ?_⟩, x.zx, x.zn, x.keep⟩
  rcases List.mem_append.mp hb with q | q
  · exact be b q
  · simp at q; subst q; exact new
noncomputable def cNone : Const → Bool
  | .none => true
  | _ => false
noncomputable def cBool (b : Bool) : Const → Bool
  | .bool c => b == c
  | _ => false
noncomputable def cInt (i : Int) : Const → Bool
  | .int c => decide (i = c)
  | _ => false
noncomputable def cStr (k : Nat) : Const → Bool
  | .str c => c == TT k
  | _ => false
@[elab_as_elim] theorem cNone_el {P : Const → Prop} (c : Const) (h : cNone c = true) (k : P .none) : P c := by
  cases c with
  | none => exact k
  | _ => exact nof h
@[elab_as_elim] theorem cBool_el {b : Bool} {P : Const → Prop} (c : Const) (h : cBool b c = true) (k : P (.bool b)) : P c := by
  cases c with
  | bool c => exact eq_of_beq h ▸ k
  | _ => exact nof h
@[elab_as_elim] theorem cInt_el {i : Int} {P : Const → Prop} (c : Const) (h : cInt i c = true) (k : P (.int i)) : P c := by
  cases c with
  | int c => exact (of_decide_eq_true h : i = c) ▸ k
  | _ => exact nof h
@[elab_as_elim] theorem cStr_el {i : Nat} {P : Const → Prop} (c : Const) (h : cStr i c = true) (k : P (.str (TT i))) : P c := by
  cases c with
  | str c => exact (eq_of_beq h : c = TT i) ▸ k
  | _ => exact nof h
noncomputable def isU : UnaryOp → UnaryOp → Bool
  | .USub, .USub => true
  | .Not, .Not => true
  | _, _ => false
@[elab_as_elim] theorem isU_el {b : UnaryOp} {P : UnaryOp → Prop} (a : UnaryOp) (h : isU a b = true) (k : P b) : P a := by cases a <;> cases b <;> first | exact k | exact nof h
noncomputable def isB : BoolOp → BoolOp → Bool
  | .And, .And => true
  | .Or, .Or => true
  | _, _ => false
@[elab_as_elim] theorem isB_el {b : BoolOp} {P : BoolOp → Prop} (a : BoolOp) (h : isB a b = true) (k : P b) : P a := by cases a <;> cases b <;> first | exact k | exact nof h
noncomputable def keyEs : List Nat → List (Option Expr) → Bool
  | [], es => es.isEmpty
  | k :: ks, es => onCons es fun e r => onSome e (fun x => onCon x fun c zz zz => cStr k c) && keyEs ks r
noncomputable def pairEs (env : Env) (pos : Pos) : List (Option Expr) → List Expr → List (Sem Value × Sem Value)
  | [], _ => []
  | e :: ks, vs => match e with
    | none => []
    | some k => match vs with
      | [] => []
      | v :: vs => (eval k env, do let x ← eval v env; standAt pos; pure x) :: pairEs env pos ks vs
theorem pairs_shape {pos : Pos} {ks : List Nat} {es : List (Option Expr)} {vs : List Expr} (h : keyEs ks es = true) :
    (evalEachOpt es env).zip ((evalEach vs env).map fun v => do let x ← v; standAt pos; pure x) = (pairEs env pos es vs).map fun p => (some p.1, p.2) := by
  induction ks generalizing es vs with
  | nil => exact nil_el es h rfl
  | cons k ks ih =>
    refine onCons_el (fun e r h => onSome_el (fun x zz => ?_) e (aL h)) es h
    cases vs with
    | nil => rfl
    | cons v vs => exact congrArg (_ :: ·) (ih (aR h))
theorem pairs_len {pos : Pos} {ks : List Nat} {es : List (Option Expr)} {vs : List Expr} (h : keyEs ks es = true) (g : ks.length = vs.length) : (pairEs env pos es vs).length = ks.length := by
  induction ks generalizing es vs with
  | nil => exact nil_el es h rfl
  | cons k ks ih =>
    refine onCons_el (fun e r h => onSome_el (fun x zz => ?_) e (aL h)) es h
    cases vs with
    | nil => cases g
    | cons v vs => exact congrArg Nat.succ (ih (aR h) (Nat.succ.inj g))
noncomputable def PRel (ks : List Nat) (h : Heap) (Z : Addr → Prop) (ρ : List Addr) (b : List AV) (vs : List (Value × Value)) : Prop :=
  b.length = ks.length ∧ allStrKeys vs = true ∧ (strPairs vs).map (·.1) = ks.map TT ∧ VRels h Z ρ b ((strPairs vs).map (·.2))
theorem SVL.pairs {pos : Pos} {ps : List W2} {as : List Expr} {ks : List Nat} {es : List (Option Expr)} (hs : SVL w hb Φ A env l ps as) (he : keyEs ks es = true) (hl : ks.length = as.length) :
    ∀ σ k X, valsV ps l σ k X → Tr w hb Φ (PRel ks) A env l (evalPairs (pairEs env pos es as)) σ k X := by
  induction hs generalizing ks es with
  | nil =>
    cases ks with
    | cons _ _ => cases hl
    | nil => exact nil_el es he fun σ k X wp s Z ρ Q E I hQ hX => evalPairs_nil (QK.same (s := s) (tk := s.toks) hQ I wp ⟨rfl, rfl, rfl, .nil⟩)
  | cons hv ht rs ih =>
    cases ks with
    | nil => cases hl
    | cons k₀ ks =>
    refine onCons_el (fun e r h => onSome_el (fun x h' => onCon_el (fun c j p h' => cStr_el c h' ?_) x h') e (aL h)) es he
    refine fun σ k X wp s Z ρ Q E I hQ hX => evalPairs_cons (Constant_str (wpAny_bind (hv σ _ X wp _ Z ρ _ E I (fun v σ₁ a₁ h₁ Z₁ ρ₁ tk₁ hk I₁ r₁ p₁ => wpAny_bind (wpAny_standAt (wpAny_pure ?_))) hX)))
    refine ih (aR h) (Nat.succ.inj hl) σ₁ _ X hk _ Z₁ ρ₁ _ E I₁ (fun vs σ₂ as₂ h₂ Z₂ ρ₂ tk₂ hk I₂ r₂ p₂ => hQ _ _ _ _ _ _ _ hk I₂ ?_ (p₁.trans p₂)) (XK.after hX p₁)
    exact ⟨congrArg Nat.succ r₂.1, r₂.2.1, congrArg (TT k₀ :: ·) r₂.2.2.1, .cons _ _ _ _ (p₂.rel I₁.st r₁) r₂.2.2.2⟩
theorem valueAt_pos {p : Str × Value} {P : List (Str × Value)} {k : Str} (h : p.1 = k) : valueAt (p :: P) k = some p.2 := by
  unfold valueAt
  rw [List.find?_cons, decide_eq_true h]; rfl
theorem valueAt_neg {p : Str × Value} {P : List (Str × Value)} {k : Str} (h : ¬ p.1 = k) : valueAt (p :: P) k = valueAt P k := by
  unfold valueAt
  rw [List.find?_cons, decide_eq_false h]
theorem lookup_zip {ks : List Nat} {b : List AV} {P : List (Str × Value)} {k : Nat} {v : AV} (hl : b.length = ks.length) (hm : P.map (·.1) = ks.map TT) (hr : VRels h Z ρ b (P.map (·.2))) (e : nsLk (ks.zip b) k = some v) : ∃ val, valueAt P (TT k) = some val ∧ VRel h Z ρ v val := by
  induction ks generalizing b P with
  | nil => exact non e
  | cons k₀ ks ih =>
    cases b with
    | nil => cases hl
    | cons x b =>
    cases P with
    | nil => cases hm
    | cons p P =>
    obtain ⟨_, _, e1, r, rs⟩ := hr.cons_inv
    obtain ⟨rfl, rfl⟩ := List.cons.inj e1
    obtain ⟨m1, m2⟩ := List.cons.inj hm
    have e' : (if k₀ = k then some x else nsLk (ks.zip b) k) = some v := e
    by_cases q : k₀ = k
    · rw [if_pos q] at e'
      exact ⟨_, valueAt_pos (Eq.trans (b := TT k₀) m1 (congrArg TT q)), Option.some.inj e' ▸ r⟩
    · rw [if_neg q] at e'
      obtain ⟨val, a, c⟩ := ih (Nat.succ.inj hl) m2 rs e'
      exact ⟨val, (valueAt_neg fun q' => q (TT_inj (Eq.trans (b := p.1) (Eq.symm m1) q'))).trans a, c⟩
theorem zip_snd_bnd {n : Nat} {ks : List Nat} {b : List AV} (h : bnds n b = true) (v : Nat × AV) (m : v ∈ ks.zip b) : bnd n v.2 = true := by
  induction ks generalizing b with
  | nil => cases m
  | cons k ks ih =>
    cases b with
    | nil => cases m
    | cons x b =>
    cases m with
    | head => exact aL h
    | tail _ m => exact ih (aR h) m
theorem SV.dct {ps : List W2} {as : List Expr} {ks : List Nat} {es : List (Option Expr)} {pos : Pos} (he : keyEs ks es = true) (hl : ks.length = as.length) (hn : ks.Nodup) (h0 : ks ≠ []) (h15 : ks.length ≤ 15) (h : SVL w hb Φ A env l ps as) :
    SV w hb Φ A env l (fun l σ k X => valsV ps l σ (fun vs σ => k (.loc σ.length) (σ ++ [.dict (ks.zip vs)])) X) (eval (.Dict es as pos) env) := fun σ k X wp s Z ρ Q E I hQ hX => by
  have lp := pairs_len (env := env) (pos := pos) he hl
  refine wpAny_Dict_pairs (knd := PySem.strKind pw w) (pairs := pairEs env pos es as) (pairs_shape he) (fun q => h0 (List.eq_nil_of_length_eq_zero (by rw [← lp, q]; rfl))) (by lia) ?_
  obtain ⟨D, hD⟩ : ∃ D : Nat, s.heap.objs.size = D := ⟨_, rfl⟩
  have g0 : (s.heap.push { cls := .type "dict", data := .dict #[] }).get? D = some { cls := .type "dict", data := .dict #[] } := hD ▸ Heap.get?_push_size _ rfl
  have nD : s.heap.get? D = none := hD ▸ get_size _
  have nr : D ∉ ρ := fun m => absurd (I.st.mem_lt m) (by rw [hD]; exact Nat.lt_irrefl _)
  have nz : ¬ Z D := fun m => absurd (I.st.z_lt m) (by rw [hD]; exact Nat.lt_irrefl _)
  have I' : In w hb Φ (s.heap.push { cls := .type "dict", data := .dict #[] }) Z ρ σ env l := I.step (post_push _) (I.st.push _)
  have p0 : Post Mine.no s.heap Z ρ (s.heap.push { cls := .type "dict", data := .dict #[] }) Z ρ := post_push _
  rw [hD]
  refine SVL.pairs h he hl σ _ X wp _ Z ρ _ E I' (fun vs σ₁ ps₁ h₁ Z₁ ρ₁ tk₁ hk I₁ r₁ p₁ => ?_) (XK.after (s := s) (tk₁ := s.toks) hX p0)
  obtain ⟨q1, q2, q3, q4⟩ := r₁
  have g1 := p₁.priv g0 nr nz (by simp)
  obtain ⟨nr1, nz1⟩ := p₁.out g0 nr nz
  have nbD : hb.get? D = none := by
    cases q : hb.get? D with
    | none => rfl
    | some o => have := I.st.base _ _ q; rw [nD] at this; cases this
  refine display_done_str (prog := pw) (w := w) q2 (by rw [q3]; exact List.pairwise_map.mpr (hn.imp fun hab e => hab (TT_inj e))) ⟨_, #[], 0, g1, ⟨rfl, rfl, rfl⟩, rfl, by intro e m; simp at m, .nil, by simp⟩ fun h' hd hs => ?_
  have P1 : Post Mine.no s.heap Z ρ h₁ Z₁ ρ₁ := p0.trans p₁
  have hs' : ∀ b o, b ≠ D → h₁.get? b = some o → h'.get? b = some o := fun b o n e => (hs.2 b n).trans e
  have I2 := In.but I nD I₁ nr1 nz1 hs'
  have P2 := P1.but nD hs'
  have rr : VRels h' Z₁ (ρ₁ ++ [D]) vs ((strPairs ps₁).map (·.2)) := q4.mono (fun zz z => z) (fun zz zz e => rho_app e) (std_but nz1 hs')
  obtain ⟨o, g, ido⟩ := Heap.dictOf_iff.mp hd
  have h2 : (strPairs ps₁).length = ks.length := by rw [← List.length_map (f := (·.1)), q3, List.length_map]
  have orr : ORel w h' Z₁ (ρ₁ ++ [D]) (.dict (ks.zip vs)) o := by
    refine ⟨strPairs ps₁, ⟨ido, by lia⟩, fun k v e => lookup_zip q1 q3 rr e, fun e => ?_, zip_snd_bnd rr.bnd⟩
    cases ks with
    | nil => exact absurd rfl h0
    | cons a b =>
      cases vs with
      | nil => simp at q1
      | cons c d => simp at e
  have S3 := I2.st.own nbD nr1 nz1 g (fun e me ef => by
    obtain ⟨_, L, o, p1, _, _, _, p5, _⟩ := I.st.fr e me
    rw [ef] at p1; cases p1
    rw [nD] at p5; cases p5) orr
  exact hQ _ _ _ _ _ _ _ hk (I.step (P2.own nD) S3) (.loc _ _ (by rw [← I2.st.len, List.getElem?_append_right (Nat.le_refl _)]; simp)) (P2.own nD)
theorem SV.dct0 {pos : Pos} : SV w hb Φ A env l (fun l σ k X => k (.loc σ.length) (σ ++ [.dict []])) (eval (.Dict [] [] pos) env) := fun σ k X wp s Z ρ Q E I hQ hX => by
  refine wpAny_Dict_empty ?_
  have r' : ORel w (s.heap.push { cls := .type "dict", data := .dict #[] }) Z (ρ ++ [s.heap.objs.size]) (.dict []) { cls := .type "dict", data := .dict #[] } :=
    ⟨[], ⟨⟨#[], 0, ⟨rfl, rfl, rfl⟩, rfl, by intro e m; simp at m, .nil, by simp⟩, by simp⟩, fun k v e => by simp [nsLk] at e, fun zz => ⟨0, rfl⟩, fun v m => by simp at m⟩
  exact hQ _ _ _ _ _ _ s.toks wp (I.step (post_pushO _) (I.st.pushO rfl r')) (.loc _ _ (by rw [← I.st.len, List.getElem?_append_right (Nat.le_refl _)]; simp)) (post_pushO _)
theorem SV.idc {pos : Pos} : SV w hb Φ A env l (fun l σ k X => k (.loc σ.length) (σ ++ [.idict []])) (eval (.Dict [] [] pos) env) := fun σ k X wp s Z ρ Q E I hQ hX => by
  refine wpAny_Dict_empty ?_
  have r' : ORel w (s.heap.push { cls := .type "dict", data := .dict #[] }) Z (ρ ++ [s.heap.objs.size]) (.idict []) { cls := .type "dict", data := .dict #[] } :=
    ⟨[], ⟨#[], 0, ⟨rfl, rfl, rfl⟩, rfl, by intro e m; simp at m, .nil, by simp⟩, rfl, by simp⟩
  exact hQ _ _ _ _ _ _ s.toks wp (I.step (post_pushO _) (I.st.pushO rfl r')) (.loc _ _ (by rw [← I.st.len, List.getElem?_append_right (Nat.le_refl _)]; simp)) (post_pushO _)
end
end Mine
end
section
open PySem PySem.W PyProof.Rows PySem.Calls
namespace Mine
noncomputable def CallOk (w : World) (hb : Heap) (Φ : List Env) (A : Around) (C : Calls) : Prop :=
  ∀ g vs σ k X, C g vs σ k X → ∀ (f : Value) (args : List Value) (s : Shared) (Z : Addr → Prop) (ρ : List Addr) (Q : Value → Shared → Prop) (E : Value → Shared → Prop), GL.lookup g = some f → St w hb Φ s.heap Z ρ σ → VRels s.heap Z ρ vs args →
    (∀ b σ' a h' Z' ρ' tk, k b σ' → St w hb Φ h' Z' ρ' σ' → VRel h' Z' ρ' b a → Post no s.heap Z ρ h' Z' ρ' → Q a { s with heap := h', toks := tk }) →
    (∀ e σ' h' Z' ρ' tk, X σ' → Fly s.heap h' Z' ρ' e → St w hb Φ h' Z' ρ' σ' → Post no s.heap Z ρ h' Z' ρ' → E e { s with heap := h', toks := tk }) →
    wpAny (model pw w) A (call f args) Q E s
section
variable {w : World} {hb h₁ h h0 h' : Heap} {Φ : List Env} {A : Around} {σ : Sto} {s : Shared} {Z Z₁ Z0 : Addr → Prop} {ρ ρ₁ ρ0 : List Addr} {env : Env} {l : Loc} {E : Value → Shared → Prop} {X : KX} {tk₁ : Nat} {ex : Addr → Prop} {C : Calls}
theorem SV.call {fe : Expr} {as : List Expr} {pos : Pos} {we : Loc → Sto → KE → KX → Prop} {ps : List W2} (B : Bs w hb) (hh : A.handled = none) (CO : CallOk w hb Φ A C) (hs : as.all notStar = true)
    (he : ∀ pos, eval (.Call fe as [] pos) env = (do callWith pos (← eval fe env) [] (backTo pos (starEach as env)) (backToKw pos (keywordEach [] env))))
    (hf : SV w hb Φ A env l we (eval fe env)) (h : SVL w hb Φ A env l ps as) :
    SV w hb Φ A env l (fun l σ k X => we l σ (fun fv σ => opt (glOf fv) fun g => valsV ps l σ (fun vs σ => callV C g vs σ k X) X) X) (eval (.Call fe as [] pos) env) := fun σ k X wp s Z ρ Q E I hQ hX => by
  refine Call_ (hf σ _ X wp s Z ρ _ E I (fun fv σ₁ f h₁ Z₁ ρ₁ tk₁ hk I₁ r₁ p₁ => ?_) hX) (he pos)
  refine opt_el hk fun g e hk => ?_
  have ef : fv = .glob g := by
    unfold glOf at e
    split at e
    · cases e; rfl
    · cases e
  subst ef
  cases r₁ with
  | glob _ _ hf =>
    refine callWith_any (first := []) hf hs (h.all hs σ₁ _ X hk _ Z₁ ρ₁ _ E I₁ (fun vs σ₂ as₂ h₂ Z₂ ρ₂ tk₂ hk I₂ r₂ p₂ => ⟨B.K I₂.st.base, ?_⟩) (XK.after hX p₁))
    rw [List.nil_append]
    unfold callV at hk
    by_cases hbi : isBi g = true
    · rw [if_pos hbi] at hk
      exact op_callB B hh I₂.st r₂.1 hf hk fun b σ' a h' Z' ρ' tk x S' q p => hQ _ _ a h' Z' ρ' tk x (I₂.step p S') q ((p₁.trans p₂).trans p)
    · rw [if_neg hbi] at hk
      exact CO _ _ _ _ _ hk f as₂ _ Z₂ ρ₂ _ E hf I₂.st r₂.1 (fun b σ' a h' Z' ρ' tk x S' q p => hQ _ _ a h' Z' ρ' tk x (I₂.step p S') q ((p₁.trans p₂).trans p))
        (fun e σ' h' Z' ρ' tk x fl S' p => hX e σ' h' Z' ρ' tk x (fl.after (p₁.trans p₂).live) (I₂.step p S') ((p₁.trans p₂).trans p))
theorem drop_last (vs : List Value) : (vs.toArray.eraseIdxIfInBounds (vs.toArray.size - 1)) = vs.dropLast.toArray := by
  cases vs with
  | nil => rfl
  | cons a r =>
    unfold Array.eraseIdxIfInBounds
    rw [dif_pos (by simp)]
    apply Array.ext'
    rw [Array.toList_eraseIdx, List.dropLast_eq_take]
    simp [List.eraseIdx_eq_take_drop_succ]
theorem VRels.dropLast {xs : List AV} {vs : List Value} (r : VRels h Z ρ xs vs) : VRels h Z ρ xs.dropLast vs.dropLast := by
  rw [List.dropLast_eq_take, List.dropLast_eq_take, ← r.length]
  exact r.take _
set_option tactic.hygienic true in
theorem op_listMeth {lc : Loc} {x l : Nat} {m : Nat} {f : Value} {as : List Expr} {pos : Pos} {ps : List W2} {k : KE} {Q : Value → Shared → Prop} (hm : (m = 29 ∧ f = .builtin "list.append") ∨ (m = 30 ∧ f = .builtin "list.pop")) (hs : as.all notStar = true)
    (h : SVL w hb Φ A env lc ps as) (I : In w hb Φ s.heap Z ρ σ env lc) (el : ρ[l]? = some x) (hk : valsV ps lc σ (fun vs σ => runCal C (.lst l) m vs σ k X) X)
    (hQ : QK w hb Φ VRel env lc s Z ρ k Q) (hX : XK w hb Φ env lc s Z ρ X E) : wpAny (model pw w) A (callWith pos f [.ref x] (backTo pos (starEach as env)) []) Q E s := by
  rcases hm with ⟨rfl, rfl⟩ | ⟨rfl, rfl⟩
  · refine callWith_builtin (star_any hs) (evalArgs_any hs (h.all hs σ _ X hk s Z ρ _ E I (fun vs σ₂ as₂ h₂ Z₂ ρ₂ tk₂ hk I₂ r₂ p₂ => ?_) hX))
    simp only [runCal] at hk
    split at hk
    rotate_left
    · exact hk.elim
    rename_i xs hx
    obtain ⟨rv, _⟩ := r₂
    cases rv with
    | nil => exact hk.elim
    | cons v a _ _ r rs =>
      cases rs with
      | cons _ _ _ _ _ _ => exact hk.elim
      | nil =>
        obtain ⟨lt, hk⟩ := (show xs.length < 10000 ∧ k .none _ from hk)
        obtain ⟨x', o, rx, gx, vs, n, rfl, rr, lz⟩ := I₂.st.ob _ _ hx
        have : x' = x := Option.some.inj (rx.symm.trans (p₂.rho _ _ el))
        subst this
        show wpAny _ _ (call (.builtin "list.append") [.ref x', a]) _ _ _
        refine wpAny_list_append_plain (items := vs.toArray) ⟨n, gx⟩ (fun h₃ hp hs => ?_) (by have := rr.length; rw [List.size_toArray, ← this]; exact Nat.le_trans lz (by decide))
        obtain ⟨n', g'⟩ := hp
        have sd := std_upd I₂.st rx hs
        have r' : ORel w h₃ Z₂ ρ₂ (.list (xs ++ [v])) (lstO (vs ++ [a]) n') := ⟨vs ++ [a], n', rfl, (rr.append (.cons _ _ _ _ r .nil)).mono (fun zz z => z) (fun zz zz e => e) sd, by simp; lia⟩
        have g'' : h₃.get? x' = some (lstO (vs ++ [a]) n') := by rw [g']; simp
        exact hQ _ _ _ _ _ _ tk₂ hk (I₂.step (post_upd rx hs g'') (I₂.st.upd rx hs g'' r')) .none (p₂.trans (post_upd rx hs g''))
  · cases h with
    | nil =>
      simp only [valsV, runCal] at hk
      split at hk
      rotate_left
      · exact hk.elim
      rename_i xs hx
      refine opt_el (show opt xs.getLast? _ from hk) fun v hv hk => ?_
      obtain ⟨x', o, rx, gx, vs, n, rfl, rr, lz⟩ := I.st.ob _ _ hx
      have : x' = x := Option.some.inj (rx.symm.trans el)
      subst this
      rw [List.getLast?_eq_getElem?] at hv
      obtain ⟨y, hy, ry⟩ := rr.get hv
      have ln := rr.length
      refine P.pop_list (items := vs.toArray) (n := n) gx (y := y) (by simpa [← ln] using hy) ?_ (by rw [List.size_toArray, ← ln]; exact Nat.le_trans lz (by decide))
      have g0 := IsL.update (h := s.heap) (l := x') (items := vs.toArray) (n := n) gx (fun xs => xs.eraseIdxIfInBounds (vs.toArray.size - 1))
      rw [drop_last vs] at g0
      generalize (if (vs.dropLast.toArray.size == vs.toArray.size) = true then n else n + 1) = n' at g0
      have hsb : Heap.SameBut x' s.heap (s.heap.update x' (Obj.mapSeq fun xs => xs.eraseIdxIfInBounds (vs.toArray.size - 1))) := Heap.SameBut.update ..
      generalize (s.heap.update x' (Obj.mapSeq fun xs => xs.eraseIdxIfInBounds (vs.toArray.size - 1))) = h₃ at g0 hsb ⊢
      have g'' : h₃.get? x' = some (lstO vs.dropLast n') := g0
      have sd := std_upd I.st rx hsb
      have r' : ORel w h₃ Z ρ (.list xs.dropLast) (lstO vs.dropLast n') := ⟨vs.dropLast, n', rfl, rr.dropLast.mono (fun zz z => z) (fun zz zz e => e) sd, by simp; lia⟩
      exact hQ _ _ _ _ _ _ s.toks hk (I.step (post_upd rx hsb g'') (I.st.upd rx hsb g'' r')) (ry.mono (fun zz z => z) (fun zz zz e => e) sd) (post_upd rx hsb g'')
    | cons hv ht rs =>
      refine callWith_builtin (star_any hs) (evalArgs_any hs (SVL.all (.cons hv ht rs) hs σ _ X hk s Z ρ _ E I (fun vs σ₂ as₂ h₂ Z₂ ρ₂ tk₂ hk I₂ r₂ p₂ => ?_) hX))
      simp only [runCal] at hk
      split at hk
      rotate_left
      · exact hk.elim
      unfold listMeth at hk
      have ln := r₂.2
      cases vs with
      | nil => simp at ln
      | cons a b => exact hk.elim
theorem SV.meth {oe : Expr} {as : List Expr} {m : Nat} {apos pos : Pos} {we : Loc → Sto → KE → KX → Prop} {ps : List W2} (B : Bs w hb) (CO : CallOk w hb Φ A C) (hs : as.all notStar = true) (hbs : okBase oe = true) (hm : okMeth m = true) (hn : as.length < 29) (hl : (apos.endLine == pos.line) = true)
    (hf : SV w hb Φ A env l we (eval oe env)) (h : SVL w hb Φ A env l ps as) :
    SV w hb Φ A env l (fun l σ k X => we l σ (fun ov σ => opt (calOf σ ov m) fun c => valsV ps l σ (fun vs σ => runCal C c m vs σ k X) X) X) (eval (.Call (.Attribute oe (TT m) apos) as [] pos) env) := fun σ k X wp s Z ρ Q E I hQ hX => by
  refine call_attr hbs hs hn hl (hf σ _ X wp s Z ρ _ E I (fun ov σ₁ a h₁ Z₁ ρ₁ tk₁ hk I₁ r₁ p₁ => ?_) hX)
  refine opt_el hk fun c e hk => ?_
  refine op_cal B I₁.st r₁ hm e fun f first tk cr => ?_
  have I₂ : In w hb Φ ({ s with heap := h₁, toks := tk } : Shared).heap Z₁ ρ₁ σ₁ env l := I₁
  have hQ' := QK.after (s := s) (h₁ := h₁) (tk₁ := tk) hQ p₁
  have hX' := XK.after (s := s) (h₁ := h₁) (tk₁ := tk) hX p₁
  cases c with
  | lst i =>
    obtain ⟨x, el, rfl, hm'⟩ := cr
    exact op_listMeth (C := C) hm' hs h I₂ el hk hQ' hX'
  | fn g fs =>
    obtain ⟨hg, rf⟩ := cr
    refine callWith_any hg hs (h.all hs σ₁ _ X hk _ Z₁ ρ₁ _ E I₂ (fun vs σ₂ as₂ h₂ Z₂ ρ₂ tk₂ hk I₂ r₂ p₂ => ⟨B.K I₂.st.base, ?_⟩) hX')
    exact CO _ _ _ _ _ hk f (first ++ as₂) _ Z₂ ρ₂ _ E hg I₂.st ((p₂.rels I₁.st rf).append r₂.1) (fun b σ' a h' Z' ρ' tk x S' q p => hQ _ _ a h' Z' ρ' tk x (I₂.step p S') q ((p₁.trans p₂).trans p))
      (fun e σ' h' Z' ρ' tk x fl S' p => hX e σ' h' Z' ρ' tk x (fl.after (p₁.trans p₂).live) (I₂.step p S') ((p₁.trans p₂).trans p))
end
end Mine
end
section
open PySem PySem.W PyProof.Rows PySem.Calls
namespace Mine
noncomputable def okLoc : Option NameKind → Bool
  | some .local => true
  | some .cell => true
  | some .free => true
  | _ => false
noncomputable def isGl : Option NameKind → Bool
  | some .globalImplicit => true
  | _ => false
noncomputable def isFn : ScopeKind → Bool
  | .function => true
  | _ => false
noncomputable def okGl (x : Nat) : Bool := (GL.lookup x).isSome && Nat.blt x 298 || Nat.beq x 208 || Nat.beq x 209
mutual
noncomputable def chkE (ns : List (Str × NameKind)) : E → Expr → Bool
  | .wild, _ => true
  | .nm x, a => onName a fun id zz => id == TT x && okLoc (ns.lookup (TT x))
  | .gl x, a => onName a fun id zz => id == TT x && (isGl (ns.lookup (TT x)) && okGl x)
  | .cN, a => onCon a fun c zz zz => cNone c
  | .cB b, a => onCon a fun c zz zz => cBool b c
  | .cI i, a => onCon a fun c zz zz => cInt i c
  | .cS k, a => onCon a fun c zz zz => cStr k c
  | .attr e f, a => onAttr a fun x n zz => n == TT f && (AL.contains f && (okBase x && chkE ns e x))
  | .sub e i, a => onSub a fun x y zz => notSlice y && (chkE ns e x && chkE ns i y)
  | .slF e i, a => onSub a fun x y zz => onSlice y fun lo hi st zz => onSome lo fun b => hi.isNone && (st.isNone && (chkE ns e x && chkE ns i b))
  | .slT e i, a => onSub a fun x y zz => onSlice y fun lo hi st zz => onSome hi fun b => lo.isNone && (st.isNone && (chkE ns e x && chkE ns i b))
  | .call f es, a => onCall a fun fe as kw zz => onName fe fun zz zz => kw.isEmpty && (as.all notStar && (chkE ns f fe && chkEs ns es as))
  | .meth o m es, a => onCall a fun fe as kw pos => onAttr fe fun oe n apos => kw.isEmpty && (n == TT m && (as.all notStar && (okBase oe && (okMeth m && (Nat.blt as.length 29 && ((apos.endLine == pos.line) && (chkE ns o oe && chkEs ns es as)))))))
  | .bin op x y, a => onBin a fun l o r zz => bopOf op o && (chkE ns x l && chkE ns y r)
  | .neg e, a => onUn a fun o x zz => isU o .USub && chkE ns e x
  | .not e, a => onUn a fun o x zz => isU o .Not && chkE ns e x
  | .and es, a => onBool a fun o as zz => isB o .And && chkEs ns es as
  | .or es, a => onBool a fun o as zz => isB o .Or && chkEs ns es as
  | .cmp op x y, a => onCmp a fun l os rs zz => onOne os fun c => onOne rs fun r => Nat.ble op 9 && (decide (c = copOf op) && (!behindInMarks c r && (chkE ns x l && chkE ns y r)))
  | .ife t x y, a => onIf a fun te ae be zz => chkE ns t te && (chkE ns x ae && chkE ns y be)
  | .tup es, a => onTup a fun as zz zz => Nat.ble as.length 100 && (as.all notStar && chkEs ns es as)
  | .lst es, a => onLst a fun as zz => Nat.ble as.length 100 && (as.all notStar && chkEs ns es as)
  | .fls es, a => onLst a fun as zz => Nat.ble as.length 100 && (as.all notStar && chkEs ns es as)
  | .dct ks es, a => onDict a fun keys as zz => (ks.isEmpty && (keys.isEmpty && (as.isEmpty && es.isEmpty))) || (keyEs ks keys && (Nat.beq ks.length as.length && (decide ks.Nodup && (!ks.isEmpty && (Nat.ble ks.length 15 && chkEs ns es as)))))
  | .idc, a => onDict a fun keys as zz => keys.isEmpty && as.isEmpty
  | .comp elt x it, a => onLC a fun eltE gs sc zz => onOne gs fun g => onName g.target fun id zz => g.ifs.isEmpty && (decide (g.is_async = 0) && (id == TT x && (compOk ns x sc.names && (isFn sc.kind && (notSet g.iter && (chkE ns it g.iter && chkE (relN ns sc.names) elt eltE))))))
noncomputable def chkEs (ns : List (Str × NameKind)) : List E → List Expr → Bool
  | [], as => as.isEmpty
  | e :: es, as => match as with
    | a :: as => chkE ns e a && chkEs ns es as
    | [] => false
end
structure Gnd (w : World) (hb : Heap) (Φ : List Env) (A : Around) (C : Calls) : Prop where
  B : Bs w hb
  sm : ∃ o, hb.get? sysModules = some o
  hh : A.handled = none
  hu : A.units ≤ 9000
  CO : CallOk w hb Φ A C
section
variable {w : World} {hb : Heap} {Φ : List Env} {A : Around} {C : Calls}
noncomputable def Snd1 (w : World) (hb : Heap) (Φ : List Env) (A : Around) (C : Calls) (e : E) (a : Expr) (env : Env) (l : Loc) : Prop := SV w hb Φ A env l (wp2 C e).v (eval a env) ∧ ST w hb Φ A env l (wp2 C e).t (PySem.isTrue a env (eval a env))
noncomputable def Snd (w : World) (hb : Heap) (Φ : List Env) (A : Around) (C : Calls) (e : E) : Prop := ∀ (ns : List (Str × NameKind)) (a : Expr), chkE ns e a = true → ∀ (env : Env) (l : Loc), FrOk env ns → Snd1 w hb Φ A C e a env l
noncomputable def Snds (w : World) (hb : Heap) (Φ : List Env) (A : Around) (C : Calls) (es : List E) : Prop := ∀ (ns : List (Str × NameKind)) (as : List Expr), chkEs ns es as = true → ∀ (env : Env) (l : Loc), FrOk env ns →
  SVL w hb Φ A env l (wp2s C es) as
theorem snd_plain {env : Env} {l : Loc} {we : Loc → Sto → KE → KX → Prop} {a : Expr} (G : Gnd w hb Φ A C) (hp : plainT a = true) (h : SV w hb Φ A env l we (eval a env)) : SV w hb Φ A env l (ofV we).v (eval a env) ∧ ST w hb Φ A env l (ofV we).t (PySem.isTrue a env (eval a env)) := ⟨h, ST.of G.sm hp h⟩
theorem kind_fn {k : ScopeKind} (h : isFn k = true) : k = .function := by cases k <;> first | rfl | cases h
theorem lits {x : AV} {we : KE → Sto → Prop} {env : Env} {l : Loc} {a : Expr} (G : Gnd w hb Φ A C) (hp : plainT a = true) (h : ∀ σ k X, k x σ → VT w hb Φ A env l (eval a env) σ k X) :
    SV w hb Φ A env l (ofV fun zz σ k zz => k x σ).v (eval a env) ∧ ST w hb Φ A env l (ofV fun zz σ k zz => k x σ).t (PySem.isTrue a env (eval a env)) := snd_plain G hp fun σ k X wp => h σ k X wp
theorem ok_loc {k : Option NameKind} (h : okLoc k = true) : k = some .local ∨ k = some .cell ∨ k = some .free := by
  rcases k with _ | k
  · exact nof h
  · cases k <;> first | exact nof h | exact .inl rfl | exact .inr (.inl rfl) | exact .inr (.inr rfl)
theorem ok_gl {k : Option NameKind} (h : isGl k = true) : k = some .globalImplicit := by
  rcases k with _ | k
  · exact nof h
  · cases k <;> first | exact nof h | rfl
theorem snd_nm (G : Gnd w hb Φ A C) (x : Nat) : Snd w hb Φ A C (.nm x) := fun ns a h env l fr =>
  onName_el (fun i p k => beq_el i (aL k) (snd_plain G rfl fun σ q X wp => VT.nm fr (ok_loc (aR k)) wp)) a h
theorem snd_gl (G : Gnd w hb Φ A C) (x : Nat) : Snd w hb Φ A C (.gl x) := fun ns a h env l fr =>
  onName_el (fun i p k => beq_el i (aL k) (snd_plain G rfl fun σ q X wp => VT.gl G.B fr (ok_gl (aL (aR k))) (aR (aR k)) wp)) a h
theorem snd_cN (G : Gnd w hb Φ A C) : Snd w hb Φ A C .cN := fun ns a h env l fr =>
  onCon_el (fun c i p k => cNone_el c k (lits (we := fun zz zz => True) G rfl fun σ q X wp => VT.cN wp)) a h
theorem snd_cB (G : Gnd w hb Φ A C) (b : Bool) : Snd w hb Φ A C (.cB b) := fun ns a h env l fr =>
  onCon_el (fun c i p k => cBool_el c k (lits (we := fun zz zz => True) G rfl fun σ q X wp => VT.cB wp)) a h
theorem snd_cI (G : Gnd w hb Φ A C) (b : Int) : Snd w hb Φ A C (.cI b) := fun ns a h env l fr =>
  onCon_el (fun c i p k => cInt_el c k (lits (we := fun zz zz => True) G rfl fun σ q X wp => VT.cI wp)) a h
theorem snd_cS (G : Gnd w hb Φ A C) (b : Nat) : Snd w hb Φ A C (.cS b) := fun ns a h env l fr =>
  onCon_el (fun c i p k => cStr_el c k (lits (we := fun zz zz => True) G rfl fun σ q X wp => VT.cS wp)) a h
theorem snd_attr (G : Gnd w hb Φ A C) (e : E) (f : Nat) (ih : Snd w hb Φ A C e) : Snd w hb Φ A C (.attr e f) := fun ns a h env l fr =>
  onAttr_el (fun x n p k => beq_el n (aL k) (snd_plain G rfl (SV.attr G.B (List.contains_iff_mem.mp (aL (aR k))) (aL (aR (aR k))) (ih _ _ (aR (aR (aR k))) env l fr).1))) a h
theorem snd_sub (G : Gnd w hb Φ A C) (e i : E) (ih : Snd w hb Φ A C e) (ih' : Snd w hb Φ A C i) : Snd w hb Φ A C (.sub e i) := fun ns a h env l fr =>
  onSub_el (fun x n p k => snd_plain G rfl (SV.sub (aL k) (ih _ _ (aL (aR k)) env l fr).1 (ih' _ _ (aR (aR k)) env l fr).1)) a h
theorem snd_slF (G : Gnd w hb Φ A C) (e i : E) (ih : Snd w hb Φ A C e) (ih' : Snd w hb Φ A C i) : Snd w hb Φ A C (.slF e i) := fun ns a h env l fr =>
  onSub_el (fun x n p k => onSlice_el (fun lo hi st q k => onSome_el (fun b k => none_el hi (aL k) (none_el st (aL (aR k)) (snd_plain G rfl (SV.slF (ih _ _ (aL (aR (aR k))) env l fr).1 (ih' _ _ (aR (aR (aR k))) env l fr).1)))) lo k) n k) a h
theorem snd_slT (G : Gnd w hb Φ A C) (e i : E) (ih : Snd w hb Φ A C e) (ih' : Snd w hb Φ A C i) : Snd w hb Φ A C (.slT e i) := fun ns a h env l fr =>
  onSub_el (fun x n p k => onSlice_el (fun lo hi st q k => onSome_el (fun b k => none_el lo (aL k) (none_el st (aL (aR k)) (snd_plain G rfl (SV.slT (ih _ _ (aL (aR (aR k))) env l fr).1 (ih' _ _ (aR (aR (aR k))) env l fr).1)))) hi k) n k) a h
theorem snd_bin (G : Gnd w hb Φ A C) (op : Nat) (x y : E) (ih : Snd w hb Φ A C x) (ih' : Snd w hb Φ A C y) : Snd w hb Φ A C (.bin op x y) := fun ns a h env l fr =>
  onBin_el (fun x o y p k => snd_plain G rfl (SV.bin (aL k) (ih _ _ (aL (aR k)) env l fr).1 (ih' _ _ (aR (aR k)) env l fr).1)) a h
theorem snd_neg (G : Gnd w hb Φ A C) (e : E) (ih : Snd w hb Φ A C e) : Snd w hb Φ A C (.neg e) := fun ns a h env l fr =>
  onUn_el (fun o x p k => isU_el o (aL k) (snd_plain G rfl (SV.neg (ih _ _ (aR k) env l fr).1))) a h
theorem snd_not (G : Gnd w hb Φ A C) (e : E) (ih : Snd w hb Φ A C e) : Snd w hb Φ A C (.not e) := fun ns a h env l fr =>
  onUn_el (fun o x p k => isU_el o (aL k) ⟨SV.not G.sm (ih _ _ (aR k) env l fr).1, ST.not (ih _ _ (aR k) env l fr).2⟩) a h
theorem snd_and (G : Gnd w hb Φ A C) (es : List E) (ih : Snds w hb Φ A C es) : Snd w hb Φ A C (.and es) := fun ns a h env l fr =>
  onBool_el (fun o as p k => isB_el o (aL k) ⟨(ih _ _ (aR k) env l fr).and G.sm, (ih _ _ (aR k) env l fr).andT⟩) a h
theorem snd_or (G : Gnd w hb Φ A C) (es : List E) (ih : Snds w hb Φ A C es) : Snd w hb Φ A C (.or es) := fun ns a h env l fr =>
  onBool_el (fun o as p k => isB_el o (aL k) ⟨(ih _ _ (aR k) env l fr).or G.sm, (ih _ _ (aR k) env l fr).orT⟩) a h
theorem snd_cmp (G : Gnd w hb Φ A C) (op : Nat) (x y : E) (ih : Snd w hb Φ A C x) (ih' : Snd w hb Φ A C y) : Snd w hb Φ A C (.cmp op x y) := fun ns a h env l fr =>
  onCmp_el (fun a os bs p k => onOne_el (fun c k => onOne_el (fun b k => ⟨SV.cmp G.sm G.hu (Nat.le_of_ble_eq_true (aL k)) (of_decide_eq_true (aL (aR k))) ((Bool.not_eq_true' _).mp (aL (aR (aR k)))) (ih _ _ (aL (aR (aR (aR k)))) env l fr).1 (ih' _ _ (aR (aR (aR (aR k)))) env l fr).1, ST.cmp G.sm G.hu (Nat.le_of_ble_eq_true (aL k)) (of_decide_eq_true (aL (aR k))) ((Bool.not_eq_true' _).mp (aL (aR (aR k)))) (ih _ _ (aL (aR (aR (aR k)))) env l fr).1 (ih' _ _ (aR (aR (aR (aR k)))) env l fr).1⟩) bs k) os k) a h
theorem snd_ife (G : Gnd w hb Φ A C) (x y z : E) (ih : Snd w hb Φ A C x) (ih' : Snd w hb Φ A C y) (ih'' : Snd w hb Φ A C z) : Snd w hb Φ A C (.ife x y z) := fun ns a h env l fr =>
  onIf_el (fun t a b p k => ⟨SV.ife (ih _ _ (aL k) env l fr).2 (ih' _ _ (aL (aR k)) env l fr).1 (ih'' _ _ (aR (aR k)) env l fr).1, ST.ife (ih _ _ (aL k) env l fr).2 (ih' _ _ (aL (aR k)) env l fr).2 (ih'' _ _ (aR (aR k)) env l fr).2⟩) a h
theorem snd_tup (G : Gnd w hb Φ A C) (es : List E) (ih : Snds w hb Φ A C es) : Snd w hb Φ A C (.tup es) := fun ns a h env l fr =>
  onTup_el (fun as i p k => snd_plain G rfl (SVs.tup (Nat.le_of_ble_eq_true (aL k)) fun pos => (ih _ _ (aR (aR k)) env l fr).all (aL (aR k)))) a h
theorem snd_lst (G : Gnd w hb Φ A C) (es : List E) (ih : Snds w hb Φ A C es) : Snd w hb Φ A C (.lst es) := fun ns a h env l fr =>
  onLst_el (fun as p k => snd_plain G rfl (SVs.lst (Nat.le_of_ble_eq_true (aL k)) fun pos => (ih _ _ (aR (aR k)) env l fr).all (aL (aR k)))) a h
theorem snd_fls (G : Gnd w hb Φ A C) (es : List E) (ih : Snds w hb Φ A C es) : Snd w hb Φ A C (.fls es) := fun ns a h env l fr =>
  onLst_el (fun as p k => snd_plain G rfl (SVs.fls (Nat.le_of_ble_eq_true (aL k)) fun pos => (ih _ _ (aR (aR k)) env l fr).all (aL (aR k)))) a h
theorem snd_idc (G : Gnd w hb Φ A C) : Snd w hb Φ A C .idc := fun ns a h env l fr =>
  onDict_el (fun ks as p k => nil_el ks (aL k) (nil_el as (aR k) (snd_plain G rfl SV.idc))) a h
theorem snd_dct (G : Gnd w hb Φ A C) (ks : List Nat) (es : List E) (ih : Snds w hb Φ A C es) : Snd w hb Φ A C (.dct ks es) := fun ns a h env l fr =>
  onDict_el (fun keys as p k => or_el k (fun k => nil_el (P := fun ks => Snd1 w hb Φ A C (.dct ks es) (.Dict keys as p) env l) ks (aL k) (nil_el keys (aL (aR k)) (nil_el as (aL (aR (aR k))) (nil_el (P := fun es => Snd1 w hb Φ A C (.dct [] es) (.Dict [] [] p) env l) es (aR (aR (aR k))) (snd_plain G rfl SV.dct0))))) fun k => snd_plain G rfl (SV.dct (aL k) (Nat.eq_of_beq_eq_true (aL (aR k))) (of_decide_eq_true (aL (aR (aR k)))) (ne_nil (aL (aR (aR (aR k))))) (Nat.le_of_ble_eq_true (aL (aR (aR (aR (aR k)))))) (ih _ _ (aR (aR (aR (aR (aR k))))) env l fr))) a h
theorem snd_call (G : Gnd w hb Φ A C) (f : E) (es : List E) (ih : Snd w hb Φ A C f) (ih' : Snds w hb Φ A C es) : Snd w hb Φ A C (.call f es) := fun ns a h env l fr =>
  onCall_el (fun fe as kw p k => onName_el (P := fun x => fe = x → Snd1 w hb Φ A C (.call f es) (.Call x as kw p) env l) (fun id q k e => nil_el kw (aL k) (snd_plain G rfl (SV.call G.B G.hh G.CO (aL (aR k)) (fun zz => rfl) (ih ns (.Name id q) (e ▸ (aL (aR (aR k)))) env l fr).1 (ih' _ _ (aR (aR (aR k))) env l fr)))) fe k rfl) a h
theorem snd_meth (G : Gnd w hb Φ A C) (o : E) (m : Nat) (es : List E) (ih : Snd w hb Φ A C o) (ih' : Snds w hb Φ A C es) : Snd w hb Φ A C (.meth o m es) := fun ns a h env l fr =>
  onCall_el (fun fe as kw pos k => onAttr_el (fun oe n ap k => nil_el kw (aL k) (beq_el n (aL (aR k)) (snd_plain G rfl (SV.meth G.B G.CO (aL (aR (aR k))) (aL (aR (aR (aR k)))) (aL (aR (aR (aR (aR k))))) (Nat.blt_eq.mp (aL (aR (aR (aR (aR (aR k))))))) (aL (aR (aR (aR (aR (aR (aR k))))))) (ih _ _ (aL (aR (aR (aR (aR (aR (aR (aR k)))))))) env l fr).1 (ih' _ _ (aR (aR (aR (aR (aR (aR (aR (aR k)))))))) env l fr))))) fe k) a h
theorem snd_comp (G : Gnd w hb Φ A C) (elt : E) (x : Nat) (it : E) (ih : Snd w hb Φ A C elt) (ih' : Snd w hb Φ A C it) : Snd w hb Φ A C (.comp elt x it) := fun ns a h env l fr =>
  onLC_el (fun ee gs sc pos k => onOne_el (fun g k => by
    cases g with
    | mk t iter f n =>
    refine onName_el (fun i px k => nil_el f (aL k) ?_) t k
    obtain rfl : n = 0 := of_decide_eq_true (aL (aR k))
    refine beq_el i (aL (aR (aR k))) (snd_plain G rfl fun σ q X wp => VT.comp (wi := (wp2 C it).v) G.hh fr (aL (aR (aR (aR k)))) (kind_fn (aL (aR (aR (aR (aR k)))))) (aL (aR (aR (aR (aR (aR k)))))) (fun q hq => (ih' _ _ (aL (aR (aR (aR (aR (aR (aR k))))))) env l fr).1 _ _ _ hq) (fun Cc hC l σ q hq => (ih _ _ (aR (aR (aR (aR (aR (aR (aR k))))))) _ l (fr.comp (aL (aR (aR (aR k)))) (kind_fn (aL (aR (aR (aR (aR k)))))) hC)).1 _ _ _ hq) wp)) gs k) a h
theorem snd_wild : Snd w hb Φ A C .wild := fun ns a h env l fr => ⟨fun σ k X wp => wp.elim, fun σ k X wp => wp.elim⟩
theorem snds_nil : Snds w hb Φ A C [] := fun ns as h env l fr => nil_el as h .nil
theorem snds_cons (e : E) (es : List E) (i1 : Snd w hb Φ A C e) (i2 : Snds w hb Φ A C es) : Snds w hb Φ A C (e :: es) := fun ns as h env l fr => by
  cases as with
  | nil => exact nof h
  | cons a b => exact .cons (i1 _ _ (aL h) env l fr).1 (i1 _ _ (aL h) env l fr).2 (i2 _ _ (aR h) env l fr)
theorem snd (G : Gnd w hb Φ A C) (e : E) : Snd w hb Φ A C e :=
  E.rec (motive_1 := Snd w hb Φ A C) (motive_2 := Snds w hb Φ A C) (snd_nm G) (snd_gl G) (snd_cN G) (snd_cB G) (snd_cI G) (snd_cS G) (snd_attr G) (snd_sub G) (snd_slF G) (snd_slT G) (snd_call G) (snd_meth G) (snd_bin G) (snd_neg G) (snd_not G) (snd_and G) (snd_or G) (snd_cmp G) (snd_ife G) (snd_tup G) (snd_lst G) (snd_fls G) (snd_dct G) (snd_idc G) (snd_comp G) snd_wild snds_nil snds_cons e
theorem snds (G : Gnd w hb Φ A C) : ∀ es, Snds w hb Φ A C es
  | [] => snds_nil
  | e :: es => snds_cons e es (snd G e) (snds G es)
end
end Mine
end
section
open PySem PySem.W PyProof.Rows PySem.Calls
namespace Mine
theorem put_cls (name : Str) (h : Int) (key v : Value) (o : Obj) : (Obj.putName name h key v o).cls = o.cls := by
  rw [Obj.putName_eq]
  obtain ⟨c, d, dt, sl⟩ := o
  cases dt <;> try rfl
  unfold Obj.putNameByArray
  dsimp only
  split <;> rfl
theorem nsSet_raw {M : Model} {Γ : Ctx} {E : Value → Pos → Shared → Prop} {p : Pos} {s : Shared} {a : Addr} {m : Str → Option Value} {o : Obj} (hn : s.heap.Ns a m) (ho : s.heap.get? a = some o) (name : Str) (v : Value) :
    ∃ (hh : Int) (tk : Tok), ∀ Q : Unit → Pos → Shared → Prop, Sem.wp M Γ (nsSet a name v) Q E p s ↔ Q () p { s with heap := s.heap.update a (Obj.putName name hh (.str name tk) v), toks := s.toks + 1 } := by
  obtain ⟨o', es, ep, ho', hd, hk, hm⟩ := hn
  have : o' = o := Option.some.inj (ho'.symm.trans ho)
  subst this
  have hany : es.any (·.refKey) = false := by
    rw [Array.any_eq_false']; intro e he; obtain ⟨n, t, h⟩ := hk e he; simp [DictEntry.refKey, h]
  refine ⟨if name.cps.isEmpty = true then 0 else reduceHash (M.w.params.strHash name.cps), s.toks, fun Q => ?_⟩
  simp only [nsSet, strHash, Sem.wp_bind', Sem.wp_cmd_ask, Sem.wp_pure', Sem.wp_cmd_mkText]
  rw [Sem.wp_loadPart_of M Γ E p { s with toks := s.toks + 1 } (o := o') _ ho]
  simp only [hd, aRefKeyMayBeTheName_eq, aRefKeyMayBeTheNameByArray, hany, Bool.and_false, Bool.false_eq_true, if_false, Sem.wp_cmd_updatePart]
  exact ⟨fun h => h.2, fun h => ⟨by rw [ho]; rfl, h⟩⟩

section
variable {w : World} {hb h₁ h h' h'' h0 : Heap} {Φ : List Env} {A : Around} {σ : Sto} {s : Shared} {Z Z' Z'' Z0 : Addr → Prop} {ρ ρ' ρ'' ρ0 : List Addr} {env : Env} {l : Loc} {E : Value → Shared → Prop} {X : KX} {ex : Addr → Prop} {ns : List (Str × NameKind)}
theorem nsSet_any {a : Addr} {m : Str → Option Value} {o : Obj} {name : Str} {v : Value} {Q : Unit → Shared → Prop} (hn : s.heap.Ns a m) (ho : s.heap.get? a = some o)
    (h : ∀ h' o', h'.Ns a (fun x => if x = name then some v else m x) → Heap.SameBut a s.heap h' → h'.get? a = some o' → o'.cls = o.cls → Q () { s with heap := h', toks := s.toks + 1 }) : wpAny (model pw w) A (nsSet a name v) Q E s := by
  intro Γ p hΓ
  obtain ⟨hh, tk, hr⟩ := nsSet_raw (M := model pw w) (Γ := Γ) (E := fun e p s => E e s) (p := p) hn ho name v
  refine (hr _).mpr ?_
  have fact := (hr fun zz zz s' => s'.heap.Ns a (fun x => if x = name then some v else m x) ∧ Heap.SameBut a s.heap s'.heap).mp (Sem.wp_nsSet (model pw w) Γ _ p s hn name v _ fun h' x y => ⟨x, y⟩)
  obtain ⟨o', es, ep, g, r⟩ := id fact.1
  refine h _ o' fact.1 fact.2 g ?_
  have g2 : (s.heap.update a (Obj.putName name hh (.str name tk) v)).get? a = some o' := g
  have hf : (Obj.putName name hh (.str name tk) v o).isFreed = false := by
    obtain ⟨c, d, dt, sl⟩ := o
    obtain ⟨o2, es2, ep2, g3, d3, _⟩ := hn
    cases ho.symm.trans g3
    cases d3
    rw [Obj.putName_eq]
    unfold Obj.putNameByArray
    dsimp only
    split <;> rfl
  have g4 := Heap.get?_update_self (Obj.putName name hh (.str name tk) v) ho hf
  rw [g2] at g4
  cases g4
  exact put_cls _ _ _ _ _
theorem FrameOk.own {e : Env} {a : Addr} {o o' : Obj} (f : FrameOk hb h Z ρ e) (hs : Heap.SameBut a h h') (go : h.get? a = some o) (ho : h'.get? a = some o') (hc : o'.cls = o.cls) (hd : ∀ vs, o'.data ≠ .fields vs) : FrameOk hb h' Z ρ e := by
  obtain ⟨k, L, x, p1, p2, p3, p4, g, c, nf⟩ := f
  by_cases q : L = a
  · subst q
    rw [go] at g; cases g
    exact ⟨k, L, o', p1, p2, p3, p4, ho, hc.trans c, hd⟩
  · exact ⟨k, L, x, p1, p2, p3, p4, (hs.2 L q).trans g, c, nf⟩
theorem post_own {a : Addr} {o o' : Obj} (go : h.get? a = some o) (hs : Heap.SameBut a h h') (ho : h'.get? a = some o') (hx : ex a) : Post ex h Z ρ h' Z ρ :=
  ⟨fun b x e => by
    by_cases q : b = a
    · exact ⟨o', q ▸ ho⟩
    · exact ⟨x, (hs.2 b q).trans e⟩, ⟨[], by simp, by simp⟩, fun zz z => z, fun zz z => .inl z, fun b x e n ne => ⟨x, (hs.2 b fun q => ne (q ▸ hx)).trans e, Chg.refl⟩⟩
theorem std_own {a : Addr} (nz : ¬ Z a) (hs : Heap.SameBut a h h') : Std h Z h' := fun b o z e => ⟨o, (hs.2 b fun q => nz (q ▸ z)).trans e, Chg.refl⟩
theorem In.own {a : Addr} {o o' : Obj} (I : In w hb Φ h Z ρ σ env l) (ha : own env a) (go : h.get? a = some o) (hs : Heap.SameBut a h h') (ho : h'.get? a = some o') (hc : o'.cls = o.cls) (hd : ∀ vs, o'.data ≠ .fields vs) {l' : Loc} (lr : LRel h' Z ρ env l') : In w hb Φ h' Z ρ σ env l' := by
  obtain ⟨nb, nr, nz, _⟩ := I.lo a ha
  refine ⟨I.st.step (fun b x e m => (hs.2 b fun q => ?_).trans e) (fun e m => (I.st.fr e m).own hs go ho hc hd), lr, fun b hb' => ?_⟩
  · subst q
    rcases m with m | m | ⟨o0, m⟩
    · exact nr m
    · exact nz m
    · rw [nb] at m; cases m
  · obtain ⟨x1, x2, x3, x4, x5⟩ := I.lo b hb'
    refine ⟨x1, x2, x3, ?_⟩
    by_cases q : b = a
    · exact ⟨o', q ▸ ho⟩
    · exact ⟨x4, (hs.2 b q).trans x5⟩
theorem nsLk_put {l : Loc} {x y : Nat} {v : AV} : nsLk (nsPut l x v) y = if y = x then some v else nsLk l y := by
  induction l with
  | nil =>
    simp only [nsPut, nsLk]
    by_cases q : x = y
    · rw [if_pos q, if_pos q.symm]
    · rw [if_neg q, if_neg fun e => q e.symm]
  | cons p r ih =>
    unfold nsPut
    by_cases q : p.1 = x
    · rw [if_pos q]
      simp only [nsLk]
      by_cases q2 : x = y
      · rw [if_pos q2, if_pos q2.symm]
      · rw [if_neg q2, if_neg fun e => q2 e.symm, if_neg fun e => q2 (q.symm.trans e)]
    · rw [if_neg q]
      simp only [nsLk, ih]
      by_cases q2 : p.1 = y
      · rw [if_pos q2, if_pos q2, if_neg fun e => q (q2.trans e)]
      · rw [if_neg q2, if_neg q2]
theorem pair_apart {cells : List (Str × Addr)} (ap : cells.Pairwise fun x y => x.2 ≠ y.2) {p q : Str × Addr} (hp : p ∈ cells) (hq : q ∈ cells) (n : p ≠ q) : p.2 ≠ q.2 := by
  induction cells with
  | nil => cases hp
  | cons a r ih =>
    rw [List.pairwise_cons] at ap
    rcases List.mem_cons.mp hp with e1 | m1
    · rcases List.mem_cons.mp hq with e2 | m2
      · exact absurd (e1.trans e2.symm) n
      · exact e1 ▸ ap.1 q m2
    · rcases List.mem_cons.mp hq with e2 | m2
      · exact e2 ▸ (ap.1 p m1).symm
      · exact ih ap.2 m1 m2
theorem store_any {x : Nat} {v : AV} {val : Value} {Q : Unit → Shared → Prop} (fr : FrOk env ns) (hk : ns.lookup (TT x) = some .local ∨ ns.lookup (TT x) = some .cell) (I : In w hb Φ s.heap Z ρ σ env l) (r : VRel s.heap Z ρ v val)
    (h : ∀ h' tk, In w hb Φ h' Z ρ σ env (nsPut l x v) → Post (own env) s.heap Z ρ h' Z ρ → (∀ b o, b ≠ env.locals → (∀ n c, (n, c) ∈ env.cells → b ≠ c) → s.heap.get? b = some o → h'.get? b = some o) → Q () { s with heap := h', toks := tk }) :
    wpAny (model pw w) A (storeName env (TT x) val) Q E s := by
  obtain ⟨m, cm, hm, hc, hl⟩ := I.lr
  have ek : env.kindOf (TT x) = ns.lookup (TT x) := by unfold Env.kindOf; rw [fr.names]
  rcases hk with hk | hk
  · have hn : (env.scope.kind == .class || (env.scope.kind == .module && env.locals != env.globals)) = false := by rw [fr.kind]; rfl
    rw [storeName_local (ek.trans hk) hn]
    obtain ⟨o, es, ep, go, r0⟩ := id hm
    refine nsSet_any hm go fun h' o' n2 hs ho hcl => ?_
    have sd := std_own (I.lo _ own_loc).2.2.1 hs
    refine h h' _ (I.own own_loc go hs ho hcl (fun vs e => ?_) ⟨_, cm, n2, fun n c e => (hc n c e).sameBut hs (fr.off n c (mem_of_lookup e)), fun y u e => ?_⟩) (post_own go hs ho own_loc) (fun b o n zz e => (hs.2 b n).trans e)
    · obtain ⟨o2, es2, ep2, g2, d2, _⟩ := n2
      cases ho.symm.trans g2
      rw [d2] at e; cases e
    · rw [nsLk_put] at e
      by_cases q : y = x
      · rw [if_pos q] at e; cases e; subst q
        exact ⟨val, r.mono (fun zz z => z) (fun zz zz e => e) sd, fun zz => if_pos rfl, fun k => absurd (ek.trans hk) k⟩
      · rw [if_neg q] at e
        obtain ⟨val2, r2, p1, p2⟩ := hl y u e
        exact ⟨val2, r2.mono (fun zz z => z) (fun zz zz e => e) sd, fun k => (if_neg fun e => q (TT_inj e)).trans (p1 k), p2⟩
  · obtain ⟨c, hcl⟩ := fr.cell (TT x) (.inl hk)
    have hoff := fr.off _ _ (mem_of_lookup hcl)
    obtain ⟨o, go, r0⟩ := id (hc _ _ hcl)
    unfold storeName
    simp only [ek.trans hk, fr.kind]
    refine wpAny_bind (wpAny_cellOf hcl ?_)
    unfold cellSet
    refine wpAny_bind (wpAny_load go ?_)
    rw [r0]
    refine wpAny_update go ?_
    have hs : Heap.SameBut c s.heap (s.heap.update c fun o => { o with data := .cell (some val) }) := Heap.SameBut.update ..
    have ho : (s.heap.update c fun o => { o with data := .cell (some val) }).get? c = some { o with data := .cell (some val) } := Heap.get?_update_self _ go rfl
    generalize (s.heap.update c fun o => { o with data := .cell (some val) }) = h' at hs ho ⊢
    have sd := std_own (I.lo _ (own_cell hcl)).2.2.1 hs
    have apart : ∀ n d, (n, d) ∈ env.cells → n ≠ TT x → d ≠ c := fun n d md nn e => by
      have := fr.apart
      subst e
      exact pair_apart this md (mem_of_lookup hcl) (fun e => nn (congrArg Prod.fst e)) rfl
    refine h h' s.toks (I.own (own_cell hcl) go hs ho rfl (fun vs e => by cases e) ⟨m, fun n => if n = TT x then some val else cm n, hm.sameBut hs hoff.symm, fun n d e => ?_, fun y u e => ?_⟩) (post_own go hs ho (own_cell hcl)) (fun b o zz nc e => (hs.2 b (nc _ _ (mem_of_lookup hcl))).trans e)
    · by_cases q : n = TT x
      · subst q
        rw [hcl] at e; cases e
        show h'.IsCell _ (if TT x = TT x then some val else cm (TT x))
        rw [if_pos rfl]
        exact ⟨_, ho, rfl⟩
      · show h'.IsCell d (if n = TT x then some val else cm n)
        rw [if_neg q]
        exact (hc n d e).sameBut hs (apart n d (mem_of_lookup e) q)
    · rw [nsLk_put] at e
      by_cases q : y = x
      · rw [if_pos q] at e; cases e; subst q
        exact ⟨val, r.mono (fun zz z => z) (fun zz zz e => e) sd, fun k => absurd ((ek.trans hk).symm.trans k) (by decide), fun zz => if_pos rfl⟩
      · rw [if_neg q] at e
        obtain ⟨val2, r2, p1, p2⟩ := hl y u e
        exact ⟨val2, r2.mono (fun zz z => z) (fun zz zz e => e) sd, p1, fun k => (if_neg fun e => q (TT_inj e)).trans (p2 k)⟩
end
end Mine
end
section
open PySem PySem.W PyProof.Rows PySem.Calls
namespace Mine
structure Out (w : World) (hb : Heap) (Φ : List Env) (env : Env) (s : Shared) (Z : Addr → Prop) (ρ : List Addr) (F : Fl) (X : KX) (Q : Flow → Shared → Prop) (E : Value → Shared → Prop) : Prop where
  n : ∀ l' σ' h' Z' ρ' tk, F.N l' σ' → In w hb Φ h' Z' ρ' σ' env l' → Post (own env) s.heap Z ρ h' Z' ρ' → Q .next { s with heap := h', toks := tk }
  r : ∀ v l' σ' a h' Z' ρ' tk, F.R v σ' → In w hb Φ h' Z' ρ' σ' env l' → VRel h' Z' ρ' v a → Post (own env) s.heap Z ρ h' Z' ρ' → Q (.ret a) { s with heap := h', toks := tk }
  c : ∀ l' σ' h' Z' ρ' tk, F.C l' σ' → In w hb Φ h' Z' ρ' σ' env l' → Post (own env) s.heap Z ρ h' Z' ρ' → Q .cont { s with heap := h', toks := tk }
  x : ∀ e l' σ' h' Z' ρ' tk, X σ' → Fly s.heap h' Z' ρ' e → In w hb Φ h' Z' ρ' σ' env l' → Post (own env) s.heap Z ρ h' Z' ρ' → E e { s with heap := h', toks := tk }
noncomputable def SS (w : World) (hb : Heap) (Φ : List Env) (A : Around) (env : Env) (ws : Loc → Sto → Fl → KX → Prop) (t : Sem Flow) : Prop :=
  ∀ l σ F X, ws l σ F X → ∀ s Z ρ Q E, In w hb Φ s.heap Z ρ σ env l → Out w hb Φ env s Z ρ F X Q E → wpAny (model pw w) A t Q E s
section
variable {w : World} {hb h₁ h h' h'' h0 : Heap} {Φ : List Env} {A : Around} {σ : Sto} {s : Shared} {Z Z₁ Z' Z'' Z0 : Addr → Prop} {ρ ρ₁ ρ' ρ'' ρ0 : List Addr} {env : Env} {l : Loc} {E : Value → Shared → Prop} {X : KX} {ex : Addr → Prop} {ns : List (Str × NameKind)} {F : Fl} {tk₁ : Nat}
theorem Out.after {Q : Flow → Shared → Prop} (O : Out w hb Φ env s Z ρ F X Q E) (p : Post (own env) s.heap Z ρ h₁ Z₁ ρ₁) : Out w hb Φ env { s with heap := h₁, toks := tk₁ } Z₁ ρ₁ F X Q E :=
  ⟨fun l' σ' h' Z' ρ' tk a b c => O.n l' σ' h' Z' ρ' tk a b (p.trans c), fun v l' σ' a h' Z' ρ' tk b c d e => O.r v l' σ' a h' Z' ρ' tk b c d (p.trans e),
    fun l' σ' h' Z' ρ' tk a b c => O.c l' σ' h' Z' ρ' tk a b (p.trans c), fun e l' σ' h' Z' ρ' tk a b c d => O.x e l' σ' h' Z' ρ' tk a (b.after p.live) c (p.trans d)⟩
theorem Out.xk {Q : Flow → Shared → Prop} (O : Out w hb Φ env s Z ρ F X Q E) : XK w hb Φ env l s Z ρ X E := fun e σ' h' Z' ρ' tk a b c d => O.x e l σ' h' Z' ρ' tk a b c d.no
theorem Post.privX (x : Post ex h Z ρ h' Z' ρ') {a : Addr} {o : Obj} (g : h.get? a = some o) (nr : a ∉ ρ) (nz : ¬ Z a) (nx : ¬ ex a) (hc : o.cls ≠ .type "frame") : h'.get? a = some o := by
  obtain ⟨o', e', c⟩ := x.keep a o g nr nx
  have := (c.imp fun z => (nz z)).keep hc
  rw [this] at e'; exact e'
theorem SS.asg {x : Nat} {a : Expr} {p pos : Pos} {we : Loc → Sto → KE → KX → Prop} (fr : FrOk env ns) (hk : ns.lookup (TT x) = some .local ∨ ns.lookup (TT x) = some .cell) (hs : swapsWith a (some (.Name (TT x) p)) pos.line env = pure false)
    (h : ∀ l, SV w hb Φ A env l we (eval a env)) : SS w hb Φ A env (fun l σ F X => we l σ (fun v σ => F.N (nsPut l x v) σ) X) (exec (.Assign [.Name (TT x) p] a pos) env) := fun l σ F X wp s Z ρ Q E I O => by
  refine wpAny_Assign_Name (h l σ _ X wp s Z ρ _ E I (fun v σ₁ a₁ h₁ Z₁ ρ₁ tk₁ hk₁ I₁ r₁ p₁ => ?_) O.xk) hs
  exact store_any fr hk I₁ r₁ fun h₂ tk₂ I₂ p₂ zz => O.n _ _ h₂ Z₁ ρ₁ tk₂ hk₁ I₂ (p₁.no.trans p₂)
theorem SS.exp {a : Expr} {pos : Pos} {we : Loc → Sto → KE → KX → Prop} (fr : FrOk env ns) (hs : swapsWith a none pos.line env = pure false)
    (h : ∀ l, SV w hb Φ A env l we (eval a env)) : SS w hb Φ A env (fun l σ F X => we l σ (fun zz σ => F.N l σ) X) (exec (.Expr a pos) env) := fun l σ F X wp s Z ρ Q E I O => by
  have hi : interactive env = false := by unfold interactive; rw [fr.kind]; rfl
  exact wpAny_Expr_any (h l σ _ X wp s Z ρ _ E I (fun v σ₁ a₁ h₁ Z₁ ρ₁ tk₁ hk₁ I₁ r₁ p₁ => O.n _ _ h₁ Z₁ ρ₁ tk₁ hk₁ I₁ p₁.no) O.xk) hi hs
theorem SS.ret {a : Expr} {pos : Pos} {we : Loc → Sto → KE → KX → Prop} (h : ∀ l, SV w hb Φ A env l we (eval a env)) : SS w hb Φ A env (fun l σ F X => we l σ F.R X) (exec (.Return (some a) pos) env) := fun l σ F X wp s Z ρ Q E I O =>
  wpAny_Return_some (h l σ _ X wp s Z ρ _ E I (fun v σ₁ a₁ h₁ Z₁ ρ₁ tk₁ hk₁ I₁ r₁ p₁ => O.r v l σ₁ a₁ h₁ Z₁ ρ₁ tk₁ hk₁ I₁ r₁ p₁.no) O.xk)
theorem SS.ret0 {pos : Pos} : SS w hb Φ A env (fun zz σ F zz => F.R .none σ) (exec (.Return none pos) env) := fun l σ F X wp s Z ρ Q E I O =>
  wpAny_Return_none (O.r .none l σ .none s.heap Z ρ s.toks wp I .none Post.refl)
theorem SS.cont {pos : Pos} : SS w hb Φ A env (fun l σ F zz => F.C l σ) (exec (.Continue pos) env) := fun l σ F X wp s Z ρ Q E I O =>
  wpAny_Continue (O.c l σ s.heap Z ρ s.toks wp I Post.refl)
theorem SS.pass {pos : Pos} : SS w hb Φ A env (fun l σ F zz => F.N l σ) (exec (.Pass pos) env) := fun l σ F X wp s Z ρ Q E I O =>
  wpAny_Pass (O.n l σ s.heap Z ρ s.toks wp I Post.refl)
theorem SS.nil : SS w hb Φ A env (fun l σ F zz => F.N l σ) (execs [] env) := fun l σ F X wp s Z ρ Q E I O =>
  wpAny_execs_nil (O.n l σ s.heap Z ρ s.toks wp I Post.refl)
theorem SS.cons {st : Stmt} {rest : List Stmt} {w1 w2 : Loc → Sto → Fl → KX → Prop} (h : SS w hb Φ A env w1 (exec st env)) (h2 : SS w hb Φ A env w2 (execs rest env)) :
    SS w hb Φ A env (fun l σ F X => w1 l σ ⟨fun l σ => w2 l σ F X, F.R, F.C⟩ X) (execs (st :: rest) env) := fun l σ F X wp s Z ρ Q E I O => by
  refine wpAny_execs_cons (h l σ _ X wp s Z ρ _ E I ⟨fun l' σ' h' Z' ρ' tk a b c => ?_, fun v l' σ' a h' Z' ρ' tk b c d e => ?_, fun l' σ' h' Z' ρ' tk a b c => ?_, O.x⟩)
  · exact h2 l' σ' F X a _ Z' ρ' Q E b (O.after c)
  · exact O.r v l' σ' a h' Z' ρ' tk b c d e
  · exact O.c l' σ' h' Z' ρ' tk a b c
theorem SS.ite {t : Expr} {b c : List Stmt} {pos : Pos} {wt : Loc → Sto → KT → KX → Prop} {w1 w2 : Loc → Sto → Fl → KX → Prop} (ht : ∀ l, ST w hb Φ A env l wt (PySem.isTrue t env (eval t env))) (h : SS w hb Φ A env w1 (execs b env)) (h2 : SS w hb Φ A env w2 (execs c env)) :
    SS w hb Φ A env (fun l σ F X => wt l σ (fun c σ => br c (w1 l σ F X) (w2 l σ F X)) X) (exec (.If t b c pos) env) := fun l σ F X wp s Z ρ Q E I O => by
  refine wpAny_If (ht l σ _ X wp s Z ρ _ E I (fun c σ₁ a₁ h₁ Z₁ ρ₁ tk₁ hk₁ I₁ r₁ p₁ => ?_) O.xk)
  subst r₁
  cases c with
  | true => exact h l σ₁ F X hk₁ _ Z₁ ρ₁ Q E I₁ (O.after p₁.no)
  | false => exact h2 l σ₁ F X hk₁ _ Z₁ ρ₁ Q E I₁ (O.after p₁.no)
inductive WhlI (w : World) (hb : Heap) (Φ : List Env) (env : Env) (s : Shared) (Z : Addr → Prop) (ρ : List Addr) (Iv : KS) (m : Loc → Sto → Nat) : Nat → Shared → Prop
  | mk (l' : Loc) (σ' : Sto) (h' : Heap) (Z' : Addr → Prop) (ρ' : List Addr) (tk : Nat) (iv : Iv l' σ') (I : In w hb Φ h' Z' ρ' σ' env l') (P : Post (own env) s.heap Z ρ h' Z' ρ') : WhlI w hb Φ env s Z ρ Iv m (m l' σ') { s with heap := h', toks := tk }
theorem SS.whil {t : Expr} {b : List Stmt} {pos : Pos} {wt : Loc → Sto → KT → KX → Prop} {w1 : Loc → Sto → Fl → KX → Prop} (ht : ∀ l, ST w hb Φ A env l wt (PySem.isTrue t env (eval t env))) (h : SS w hb Φ A env w1 (execs b env)) :
    SS w hb Φ A env (fun l σ F zz => ∃ (I : KS) (m : Loc → Sto → Nat), I l σ ∧ ∀ l σ, I l σ → wt l σ (fun c σ₁ =>
        br c (w1 l σ₁ ⟨fun l' σ' => I l' σ' ∧ m l' σ' < m l σ, F.R, fun l' σ' => I l' σ' ∧ m l' σ' < m l σ⟩ noX) (F.N l σ₁)) noX) (exec (.While t b [] pos) env) := fun l σ F X wp s Z ρ Q E I O => by
  obtain ⟨Iv, m, i0, step⟩ := wp
  refine wpAny_While (codeAny_whileLoop (WhlI w hb Φ env s Z ρ Iv m) ?_ (m l σ) (.mk l σ s.heap Z ρ s.toks i0 I Post.refl))
  rintro n s' ⟨l', σ', h', Z', ρ', tk, iv, I', p'⟩
  refine ht l' σ' _ noX (step l' σ' iv) _ Z' ρ' _ _ I' (fun c σ₁ a₁ h₁ Z₁ ρ₁ tk₁ hk₁ I₁ r₁ p₁ => ?_) (fun e σ' h' Z' ρ' tk hx => hx.elim)
  subst r₁
  cases c with
  | false => exact wpAny_execs_nil (O.n l' σ₁ h₁ Z₁ ρ₁ tk₁ hk₁ I₁ (p'.trans p₁.no))
  | true =>
    refine h l' σ₁ _ noX hk₁ _ Z₁ ρ₁ _ _ I₁ ⟨fun l2 σ2 h2 Z2 ρ2 tk2 a b c => ?_, fun v l2 σ2 a h2 Z2 ρ2 tk2 b c d e => ?_, fun l2 σ2 h2 Z2 ρ2 tk2 a b c => ?_, fun e l' σ' h' Z' ρ' tk hx => hx.elim⟩
    · exact ⟨m l2 σ2, a.2, .mk l2 σ2 h2 Z2 ρ2 tk2 a.1 b ((p'.trans p₁.no).trans c)⟩
    · exact O.r v l2 σ2 a h2 Z2 ρ2 tk2 b c d ((p'.trans p₁.no).trans e)
    · exact ⟨m l2 σ2, a.2, .mk l2 σ2 h2 Z2 ρ2 tk2 a.1 b ((p'.trans p₁.no).trans c)⟩
structure Itr2 (w : World) (hb : Heap) (Φ : List Env) (A : Around) (I : Addr) (v : AV) (a : Value) (xs0 ys : List AV) (J : Nat → Heap → Prop) : Prop where
  at_ : ∀ i h, J i h → ∃ o vs, h.get? I = some o ∧ o.data = .fields vs ∧ o.cls ≠ .type "frame"
  frame : ∀ i h h', J i h → h'.get? I = h.get? I → J i h'
  item : ∀ i y (s : Shared) (Z : Addr → Prop) (ρ : List Addr) (σ : Sto) (Q : Option Value → Shared → Prop) (E : Value → Shared → Prop), J i s.heap → St w hb Φ s.heap Z ρ σ → VRel s.heap Z ρ v a → itemsOf σ v = some xs0 → ys[i]? = some y → I ∉ ρ → ¬ Z I →
    (∀ u h' tk, J (i + 1) h' → Heap.SameBut I s.heap h' → VRel s.heap Z ρ y u → Q (some u) { s with heap := h', toks := tk }) → wpAny (model pw w) A (pyNext (.ref I)) Q E s
  done : ∀ (s : Shared) (Z : Addr → Prop) (ρ : List Addr) (σ : Sto) (Q : Option Value → Shared → Prop) (E : Value → Shared → Prop), J ys.length s.heap → St w hb Φ s.heap Z ρ σ → VRel s.heap Z ρ v a → itemsOf σ v = some xs0 → I ∉ ρ → ¬ Z I →
    (∀ h' tk, (∀ b o, b ≠ I → s.heap.get? b = some o → h'.get? b = some o) → Q none { s with heap := h', toks := tk }) → wpAny (model pw w) A (pyNext (.ref I)) Q E s
theorem Itr.two {I : Addr} {v : AV} {a : Value} {xs : List AV} {J : Nat → Heap → Prop} (W : Itr w hb Φ A I v a xs J) : Itr2 w hb Φ A I v a xs xs J := ⟨W.at_, W.frame, W.item, W.done⟩
structure TurnS (w : World) (hb : Heap) (Φ : List Env) (env : Env) (s₁ : Shared) (Z : Addr → Prop) (ρ : List Addr) (v : AV) (a : Value) (xs ys : List AV) (J : Nat → Heap → Prop) (I : Addr) (body : Loc → Sto → Fl → Prop) (x : Nat) (F : Fl)
    (i : Nat) (h' : Heap) (Z' : Addr → Prop) (ρ' : List Addr) (σ' : Sto) (l' : Loc) : Prop where
  inn : In w hb Φ h' Z' ρ' σ' env l'
  post : Post (own env) s₁.heap Z ρ h' Z' ρ'
  it : J i h'
  pI : I ∉ ρ' ∧ ¬ Z' I
  wp : forV body x v xs F (ys.drop i) l' σ'
  rv : VRel h' Z' ρ' v a
  li : i ≤ ys.length
inductive ForI (w : World) (hb : Heap) (Φ : List Env) (env : Env) (s₁ : Shared) (Z : Addr → Prop) (ρ : List Addr) (v : AV) (a : Value) (xs ys : List AV) (J : Nat → Heap → Prop) (I : Addr) (body : Loc → Sto → Fl → Prop) (x : Nat) (F : Fl) : Nat → Shared → Prop
  | mk (i : Nat) (h' : Heap) (Z' : Addr → Prop) (ρ' : List Addr) (σ' : Sto) (l' : Loc) (tk : Nat) (T : TurnS w hb Φ env s₁ Z ρ v a xs ys J I body x F i h' Z' ρ' σ' l') : ForI w hb Φ env s₁ Z ρ v a xs ys J I body x F (ys.length - i) { s₁ with heap := h', toks := tk }
theorem for_loop {x : Nat} {px : Pos} {b : List Stmt} {v : AV} {a : Value} {xs ys : List AV} {J : Nat → Heap → Prop} {I : Addr} {R : Result → Shared → Prop} {w1 : Loc → Sto → Fl → KX → Prop} (fr : FrOk env ns) (hk : ns.lookup (TT x) = some .local ∨ ns.lookup (TT x) = some .cell)
    (nI : s.heap.get? I = none) (I0 : In w hb Φ s.heap Z ρ σ env l) (W : Itr2 w hb Φ A I v a xs ys J) (hbody : SS w hb Φ A env w1 (execs b env))
    (hN : ∀ l' σ' h' Z' ρ' tk, F.N l' σ' → In w hb Φ h' Z' ρ' σ' env l' → Post (own env) s.heap Z ρ h' Z' ρ' → R (.ok .next) { s with heap := h', toks := tk })
    (hR : ∀ v l' σ' a h' Z' ρ' tk, F.R v σ' → In w hb Φ h' Z' ρ' σ' env l' → VRel h' Z' ρ' v a → Post (own env) s.heap Z ρ h' Z' ρ' → R (.ok (.ret a)) { s with heap := h', toks := tk })
    {h₁ : Heap} {tk₁ : Nat} (T : TurnS w hb Φ env s Z ρ v a xs ys J I (fun l σ F => w1 l σ F noX) x F 0 h₁ Z₁ ρ₁ σ l) :
    codeAny (model pw w) A (.forLoop (.Name (TT x) px) (.ref I) b [] env) R { s with heap := h₁, toks := tk₁ } := by
  have nO : ¬ own env I := fun o => by
    obtain ⟨_, _, _, o', g⟩ := I0.lo I o
    rw [nI] at g; cases g
  refine codeAny_forLoop (ForI w hb Φ env s Z ρ v a xs ys J I (fun l σ F => w1 l σ F noX) x F) ?_ (ys.length - 0) (.mk 0 h₁ Z₁ ρ₁ σ l tk₁ T)
  rintro n s' ⟨i, h', Z', ρ', σ', l', tk, T⟩
  refine Classical.byContradiction fun go => ?_
  obtain ⟨inn, post, it, pI, wp, rv, li⟩ := T
  cases hd : ys.drop i with
  | nil =>
    rw [hd] at wp
    have hi : ys.length = i := Nat.le_antisymm (List.drop_eq_nil_iff.mp hd) li
    refine go (W.done _ Z' ρ' σ' _ _ (hi ▸ it) inn.st rv wp.1 pI.1 pI.2 fun h₂ tk₂ hs => ?_)
    exact wpAny_execs_nil (hN l' σ' h₂ Z' ρ' tk₂ wp.2 (In.but I0 nI inn pI.1 pI.2 hs) (post.but nI hs))
  | cons y r =>
    rw [hd] at wp
    obtain ⟨hy, hr, hi⟩ := drop_cons hd
    refine go (W.item i y _ Z' ρ' σ' _ _ it inn.st rv wp.1 hy pI.1 pI.2 fun u h₂ tk₂ j₂ hs ru => ?_)
    have hs' : ∀ b o, b ≠ I → h'.get? b = some o → h₂.get? b = some o := fun b o n e => (hs.2 b n).trans e
    have I₂ := In.but I0 nI inn pI.1 pI.2 hs'
    have P₂ := post.but nI hs'
    have ru2 : VRel h₂ Z' ρ' y u := ru.mono (fun zz z => z) (fun zz zz e => e) (std_but pI.2 hs')
    refine wpAny_assign_Name (store_any (s := { s with heap := h₂, toks := tk₂ }) fr hk I₂ ru2 fun h₃ tk₃ I₃ p₃ ks => ?_)
    refine Classical.byContradiction fun go => ?_
    have g3 : ∃ o vs, h₃.get? I = some o ∧ o.data = .fields vs ∧ o.cls ≠ .type "frame" ∧ h₂.get? I = some o := by
      obtain ⟨o, vs, g, d, c⟩ := W.at_ _ _ j₂
      exact ⟨o, vs, ks I o (fun e => nO (.inl e)) (fun n c m e => nO (.inr ⟨n, e ▸ m⟩)) g, d, c, g⟩
    obtain ⟨oI, vI, gI3, dI, cI, gI2⟩ := g3
    have j₃ : J (i + 1) h₃ := W.frame _ _ _ j₂ (gI3.trans gI2.symm)
    have rv₃ : VRel h₃ Z' ρ' v a := p₃.rel I₂.st (rv.mono (fun zz z => z) (fun zz zz e => e) (std_but pI.2 hs')) (fun a z o => (I₂.lo a o).2.2.1 z)
    have next : ∀ l2 σ2 h2 Z2 ρ2 tk2, forV (fun l σ F => w1 l σ F noX) x v xs F r l2 σ2 → In w hb Φ h2 Z2 ρ2 σ2 env l2 → Post (own env) h₃ Z' ρ' h2 Z2 ρ2 →
        ∃ m, m < ys.length - i ∧ ForI w hb Φ env s Z ρ v a xs ys J I (fun l σ F => w1 l σ F noX) x F m { s with heap := h2, toks := tk2 } := fun l2 σ2 h2 Z2 ρ2 tk2 f I2 p2 =>
      ⟨ys.length - (i + 1), Nat.sub_lt_sub_left hi (Nat.lt_succ_self i), .mk (i + 1) h2 Z2 ρ2 σ2 l2 tk2 ⟨I2, (P₂.trans p₃).trans p2, W.frame _ _ _ j₃ ((p2.privX gI3 pI.1 pI.2 nO cI).trans gI3.symm), p2.out gI3 pI.1 pI.2, by rw [hr]; exact f, p2.rel I₃.st rv₃ (fun a z o => (I₃.lo a o).2.2.1 z), hi⟩⟩
    exact go (hbody _ σ' _ noX wp.2 { s with heap := h₃, toks := tk₃ } Z' ρ' _ _ I₃ ⟨next, fun v l2 σ2 a h2 Z2 ρ2 tk2 b c d e => hR v l2 σ2 a h2 Z2 ρ2 tk2 b c d ((P₂.trans p₃).trans e), next, fun e l' σ' h' Z' ρ' tk hx => hx.elim⟩)
theorem SS.forr {x : Nat} {it : Expr} {b : List Stmt} {px pos : Pos} {we : Loc → Sto → KE → KX → Prop} {w1 : Loc → Sto → Fl → KX → Prop} (hh : A.handled = none) (fr : FrOk env ns) (hk : ns.lookup (TT x) = some .local ∨ ns.lookup (TT x) = some .cell) (hst : notSet it = true)
    (h : ∀ l, SV w hb Φ A env l we (eval it env)) (hbody : SS w hb Φ A env w1 (execs b env)) :
    SS w hb Φ A env (fun l σ F X => we l σ (fun v σ => opt (itemsOf σ v) fun xs => forV (fun l σ F => w1 l σ F noX) x v xs F xs l σ) X) (exec (.For (.Name (TT x) px) it b [] pos) env) := fun l σ F X wp s Z ρ Q E I O => by
  refine wpAny_For (h l σ _ X wp s Z ρ _ E I (fun v σ₁ a h₁ Z₁ ρ₁ tk₁ hk₁ I₁ r₁ p₁ => ?_) O.xk) (folded_of hst)
  refine opt_el hk₁ fun xs e hk₁ => ?_
  refine op_iter hh I₁.st r₁ e fun J o W j0 => ?_
  have nI : h₁.get? h₁.objs.size = none := get_size h₁
  have O₁ := O.after (tk₁ := tk₁) p₁.no
  refine for_loop (s := { s with heap := h₁, toks := tk₁ }) (F := F) fr hk nI I₁ W.two hbody O₁.n O₁.r (tk₁ := tk₁) ⟨I₁.step (post_push o) (I₁.st.push o), post_push o, j0, ⟨fun m => absurd (I₁.st.mem_lt m) (Nat.lt_irrefl _), fun z => absurd (I₁.st.z_lt z) (Nat.lt_irrefl _)⟩, hk₁, r₁.mono (fun zz z => z) (fun zz zz e => e) (std_push o), Nat.zero_le _⟩
end
end Mine
end
section
open PySem PySem.W PyProof.Rows PySem.Calls
namespace Mine
section
variable {w : World} {hb : Heap} {Φ : List Env} {A : Around} {σ : Sto} {s : Shared} {Z : Addr → Prop} {ρ : List Addr} {E : Value → Shared → Prop}
theorem nsSet_dict {a : Addr} {m : Str → Option Value} {es : List DictEntry} {n : Nat} {name : Str} {v : Value} {Q : Unit → Shared → Prop} (hn : s.heap.Ns a m) (ho : s.heap.get? a = some (dictOf es n))
    (h : ∀ h' hh tk, Heap.SameBut a s.heap h' → h'.get? a = some (dictOf (putL name hh (.str name tk) v es) (putN name es n)) → Q () { s with heap := h', toks := s.toks + 1 }) : wpAny (model pw w) A (nsSet a name v) Q E s := by
  intro Γ p hΓ
  obtain ⟨hh, tk, hr⟩ := nsSet_raw (M := model pw w) (Γ := Γ) (E := fun e p s => E e s) (p := p) hn ho name v
  refine (hr _).mpr (h _ hh tk (Heap.SameBut.update ..) ?_)
  have e := putName_dict name hh (.str name tk) v es n
  rw [← e]
  exact Heap.get?_update_self _ ho (by rw [e]; rfl)
theorem osa_any {R : Result → Shared → Prop} {K : Frag} {C x dx : Addr} {es : List DictEntry} {n : Nat} {name : Str} {tk : Tok} {v : Value} {m : Str → Option Value} (X : K.In s.heap) (I : InstAt s.heap x (instObj C dx) C (some (dictOf es n))) (hn : s.heap.Ns dx m)
    (hp : plainOver K C = true) (ht : takerIn K C name = some none) (hh : (clsIn K C).any (·.hasDict) = true) (hz : (putL name 0 (.str name 0) v es).length ≤ 1000)
    (h : ∀ h' hh tk', Heap.SameBut dx s.heap h' → h'.get? dx = some (dictOf (putL name hh (.str name tk') v es) (putN name es n)) → R (.ok (.ret .none)) { s with heap := h', toks := s.toks + 1 }) :
    codeAny (model pw w) A (.call (.builtin "object.__setattr__") ⟨[.ref x, .str name tk, v], []⟩) R s := by
  refine osa_open X I hp ht fun b => ?_
  obtain ⟨cd, hc, hd'⟩ := any_some hh
  refine wpAny_bind (wpAny_pure (wpAny_bind (wpAny_bind (wpAny_loadPart I.at_ (wpAny_bind ((looks_clsIn X hc).here ?_))))))
  rw [hd']
  refine wpAny_pure (a := some dx) (wpAny_bind (wpAny_pure (wpAny_bind ?_)))
  refine nsSet_dict hn I.dict fun h' hh tk' hs g => ?_
  have len : ∀ (hsh : Int) (key : Value) (l : List DictEntry), (putL name hsh key v l).length = (putL name 0 (.str name 0) v l).length := fun hsh key l => by
    induction l with
    | nil => rfl
    | cons e r ih =>
      unfold putL
      split
      · rfl
      · simp [ih]
  refine wpAny_bind (wpAny_lookBehind g (pastItsLine_dict (by rw [List.size_toArray, len, sizeLine_eq]; lia)) ?_)
  exact wpAny_pure (h _ hh tk' hs g)
end
end Mine
end
section
open PySem PySem.W PyProof.Rows PySem.Calls
namespace Mine
noncomputable def setOk (P : Params) (c f : Nat) : Bool := plainOver (K P) (CA c) && (takerIn (K P) (CA c) (TT f) == some none) && (clsIn (K P) (CA c)).any (·.hasDict) && (findIn (K P) (.ref (CA c)) "__setattr__" == some (some (.builtin "object.__setattr__")))
theorem set_ok : ∀ P : Params, ([0, 1, 2, 3, 6].all fun c => AL.all fun f => setOk P c f) = true := by intro P; kernel_rfl
theorem set_at (P : Params) {c f : Nat} (hc : ClsN c) (hf : f ∈ AL) : setOk P c f = true :=
  List.all_eq_true.mp (List.all_eq_true.mp (set_ok P) c (by rcases hc with rfl | rfl | rfl | rfl | rfl <;> simp)) f hf
section
variable {w : World} {hb h h' : Heap} {Φ : List Env} {A : Around} {σ σ' : Sto} {s : Shared} {Z : Addr → Prop} {ρ : List Addr} {E : Value → Shared → Prop}
noncomputable abbrev OpU (w : World) (hb : Heap) (Φ : List Env) (s : Shared) (Z : Addr → Prop) (ρ : List Addr) (σ' : Sto) (Q : Unit → Shared → Prop) : Prop :=
  ∀ h' tk, St w hb Φ h' Z ρ σ' → Post no s.heap Z ρ h' Z ρ → Q () { s with heap := h', toks := tk }
theorem FRel.keys {ks : List Nat} {fs : List AV} {es : List DictEntry} (q : FRel h Z ρ ks fs es) : StrKeys es.toArray := by
  induction ks generalizing fs es with
  | nil => obtain ⟨rfl, rfl⟩ := q.nil_inv; intro e m; simp at m
  | cons k ks ih =>
    obtain ⟨x, gs, en, ds, t, rfl, rfl, hk, r, rs⟩ := q.cons_inv
    intro e' m
    rcases List.mem_cons.mp (List.mem_toArray.mp m) with rfl | m
    · exact ⟨_, _, hk⟩
    · exact ih rs e' (List.mem_toArray.mpr m)
theorem ns_dict {a : Addr} {ks : List Nat} {fs : List AV} {es : List DictEntry} {n : Nat} (g : h.get? a = some (dictOf es n)) (r : FRel h Z ρ ks fs es) : h.Ns a (fun x => nsFind es.toArray x) := ⟨_, es.toArray, n, g, rfl, r.keys, fun zz => rfl⟩
theorem FRel.len {ks : List Nat} {fs : List AV} {es : List DictEntry} (q : FRel h Z ρ ks fs es) : es.length = ks.length := by
  induction ks generalizing fs es with
  | nil => obtain ⟨rfl, rfl⟩ := q.nil_inv; rfl
  | cons k ks ih =>
    obtain ⟨x, gs, en, ds, t, rfl, rfl, hk, r, rs⟩ := q.cons_inv
    exact congrArg (· + 1) (ih rs)
theorem putL_len (name : Str) (hsh : Int) (key v : Value) : ∀ (l : List DictEntry), (putL name hsh key v l).length ≤ l.length + 1
  | [] => by simp [putL]
  | e :: r => by
    unfold putL
    split
    · simp
    · have := putL_len name hsh key v r
      simp; lia
theorem nsPut_len (f : Nat) (x : AV) : ∀ (l : List (Nat × AV)), (nsPut l f x).length ≤ l.length + 1
  | [] => by simp [nsPut]
  | e :: r => by
    unfold nsPut
    split
    · simp
    · have := nsPut_len f x r
      simp; lia
theorem FRel.put {f : Nat} {x : AV} {val : Value} {hh : Int} {tk : Tok} (rx : VRel h Z ρ x val) {kvs : List (Nat × AV)} {es : List DictEntry} (q : FRel h Z ρ (kvs.map (·.1)) (kvs.map (·.2)) es) : FRel h Z ρ ((nsPut kvs f x).map (·.1)) ((nsPut kvs f x).map (·.2)) (putL (TT f) hh (.str (TT f) tk) val es) := by
  induction kvs generalizing es with
  | nil => obtain ⟨_, rfl⟩ := FRel.nil_inv q; exact .cons f x ⟨hh, .str (TT f) tk, val⟩ tk [] [] [] rfl rx .nil
  | cons p kvs ih =>
    obtain ⟨_, _, e, es, t, e1, rfl, hk, r, rs⟩ := FRel.cons_inv q
    obtain ⟨rfl, rfl⟩ := List.cons.inj e1
    have q : e.key.isStr (TT f) = Nat.beq p.1 f := by rw [hk]; exact isStr_TT p.1 f t
    unfold putL nsPut
    by_cases c : p.1 = f
    · rw [if_pos c, q, if_pos (by rw [c]; simp)]
      exact .cons f x ⟨e.hash, e.key, val⟩ t _ _ es (by rw [← c]; exact hk) rx rs
    · rw [if_neg c, q, if_neg (by simpa using c)]
      exact .cons p.1 p.2 e t _ _ _ hk r (ih rs)
theorem St.flip {d : Addr} {o o' : Obj} (S : St w hb Φ h Z ρ σ) (zd : Z d) (hs : Heap.SameBut d h h') (g : h.get? d = some o) (g' : h'.get? d = some o') (fl : Flip o o') : St w hb Φ h' Z ρ σ ∧ Post no h Z ρ h' Z ρ := by
  have hc : o.cls ≠ .type "frame" := by obtain ⟨_, _, _, _, _, _, _, rfl, _, _⟩ := fl; simp
  have sd : Std h Z h' := fun b x z e => by
    by_cases q : b = d
    · subst q
      rw [g] at e; cases e
      exact ⟨o', g', by unfold Chg; rw [if_neg hc]; exact .inr ⟨trivial, fl⟩⟩
    · exact ⟨x, (hs.2 b q).trans e, Chg.refl⟩
  have po : Post no h Z ρ h' Z ρ := ⟨fun b x e => by
    by_cases q : b = d
    · exact ⟨o', q ▸ g'⟩
    · exact ⟨x, (hs.2 b q).trans e⟩, ⟨[], by simp, by simp⟩, fun zz z => z, fun zz z => .inl z, fun b x e n zz => by
    by_cases q : b = d
    · subst q
      rw [g] at e; cases e
      exact ⟨o', g', by unfold Chg; rw [if_neg hc]; exact .inr ⟨zd, fl⟩⟩
    · exact ⟨x, (hs.2 b q).trans e, Chg.refl⟩⟩
  refine ⟨⟨fun b x e => (hs.2 b fun q => ?_).trans (S.base b x e), S.len, S.nd, S.sep, S.nb, fun b z => ?_, fun i ao e => ?_, fun e m => (S.fr e m).post S po⟩, po⟩
  · have := S.nb d (.inr zd)
    rw [q, this] at e; cases e
  · obtain ⟨x, e⟩ := S.zl b z
    obtain ⟨x', e', _⟩ := sd b x z e
    exact ⟨x', e'⟩
  · obtain ⟨b, x, rb, gx, q⟩ := S.ob i ao e
    exact ⟨b, x, rb, (hs.2 b fun e => S.sep b (List.mem_of_getElem? rb) (e ▸ zd)).trans gx, q.mono (fun zz z => z) (fun zz zz e => e) (Nat.le_refl _) sd⟩
noncomputable def setN (σ : Sto) (o : Option AO) (d f : Nat) (x : AV) : Option Sto := match o with
  | some (.ns kvs) => if kvs.length < 20 then some (σ.set d (.ns (nsPut kvs f x))) else Option.none
  | _ => Option.none
noncomputable def setO (σ : Sto) (o : Option AO) (f : Nat) (x : AV) : Option Sto := match o with
  | some (.inst _ d) => setN σ σ[d]? d f x
  | _ => Option.none
noncomputable def setV (σ : Sto) (f : Nat) (x : AV) : Option Sto := match x with
  | .bool true => if f = 3 then some σ else Option.none
  | _ => Option.none
theorem ifs_inv {α : Type} {c : Prop} [Decidable c] {a r : α} (e : (if c then some a else none) = some r) : c ∧ r = a := by
  by_cases h : c
  · rw [if_pos h] at e; exact ⟨h, (Option.some.inj e).symm⟩
  · rw [if_neg h] at e; exact non e
theorem setN_inv {o : Option AO} {d f : Nat} {x : AV} {r : Sto} (e : setN σ o d f x = some r) : ∃ kvs, o = some (.ns kvs) ∧ kvs.length < 20 ∧ r = σ.set d (.ns (nsPut kvs f x)) := by
  cases o with
  | none => exact non e
  | some o =>
    cases o with
    | ns kvs => exact ⟨kvs, rfl, ifs_inv e⟩
    | _ => exact non e
theorem setO_inv {o : Option AO} {f : Nat} {x : AV} {r : Sto} (e : setO σ o f x = some r) : ∃ c d, o = some (.inst c d) ∧ setN σ σ[d]? d f x = some r := by
  cases o with
  | none => exact non e
  | some o =>
    cases o with
    | inst c d => exact ⟨c, d, rfl, e⟩
    | _ => exact non e
theorem setV_inv {f : Nat} {x : AV} {r : Sto} (e : setV σ f x = some r) : x = .bool true ∧ f = 3 ∧ r = σ := by
  cases x with
  | bool b =>
    cases b with
    | true => exact ⟨rfl, ifs_inv e⟩
    | false => exact non e
  | _ => exact non e
noncomputable def SetAI (σ : Sto) (u : AV) (f : Nat) (x : AV) (r : Sto) : Prop := (∃ i, u = .loc i ∧ setO σ σ[i]? f x = some r) ∨ ∃ k y, u = .vec k y ∧ setV σ f x = some r
theorem setA_expo (v : AV) (f : Nat) (x : AV) : setAV σ v f x = setAV σ (expo v) f x := by unfold setAV; rw [expo_expo]
theorem setA_inv {u : AV} {f : Nat} {x : AV} {r : Sto} (e : setAV σ u f x = some r) : SetAI σ (expo u) f x r ∨ expo u ≠ u := by
  cases u with
  | tree t => exact .inr (by cases t <;> exact nofun)
  | node t => exact .inr (by cases t <;> exact nofun)
  | loc i => exact .inl (Or.inl ⟨i, rfl, e⟩)
  | vec k y => exact .inl (Or.inr ⟨k, y, rfl, e⟩)
  | _ => exact non e
theorem FRel.keyAt {h : Heap} {Z : Addr → Prop} {ρ : List Addr} {i k : Nat} {ks : List Nat} {fs : List AV} {es : List DictEntry} {e : DictEntry} (r : FRel h Z ρ ks fs es) (hk : ks[i]? = some k) (he : es[i]? = some e) : ∃ t, e.key = .str (TT k) t := by
  obtain ⟨k', t, e1, e2⟩ := r.key_at he
  cases Option.some.inj (hk.symm.trans e1)
  exact ⟨t, e2⟩
theorem isStr_ex {e : DictEntry} {a b : Nat} (h : ∃ t, e.key = .str (TT a) t) : e.key.isStr (TT b) = Nat.beq a b := by
  obtain ⟨t, q⟩ := h
  rw [q]; exact isStr_TT a b t
theorem op_setA {ov x : AV} {a val : Value} {f : Nat} {Q : Unit → Shared → Prop} (B : Bs w hb) (S : St w hb Φ s.heap Z ρ σ) (q : VRel s.heap Z ρ ov a) (rx : VRel s.heap Z ρ x val) (hf : f ∈ AL) (e : setAV σ ov f x = some σ') (hQ : OpU w hb Φ s Z ρ σ' Q) :
    wpAny (model pw w) A (setAttr a (TT f) val) Q E s := by
  have X := B.K S.base
  rw [setA_expo] at e
  have q := q.expo
  have I := (setA_inv e).resolve_right fun h => h (expo_expo ov)
  rw [expo_expo] at I
  clear e
  refine Classical.byContradiction fun go => ?_
  rcases I with ⟨i, eu, e⟩ | ⟨k, y, eu, e⟩ <;> rw [eu] at q
  · obtain ⟨y, rfl, el⟩ := q.loc_inv
    obtain ⟨c, d, hc, e1⟩ := setO_inv e
    obtain ⟨kvs, hk, lt, rfl⟩ := setN_inv e1
    refine S.attr_el hc hk el fun dd es n rd gx hcl gd fr ln => ?_
    have I : InstAt s.heap y (instObj (CA c) dd) (CA c) (some (dictOf es n)) := ⟨gx, rfl, rfl, gd⟩
    have ok := set_at w.params hcl hf
    unfold setOk at ok
    have hlen : es.length = kvs.length := by rw [fr.len, List.length_map]
    refine go (set_plain X I (eq_of_beq (aR ok)) (osa_any (s := { s with toks := s.toks + 1 }) X I (ns_dict gd fr) (aL (aL (aL ok))) (eq_of_beq (aR (aL (aL ok)))) (aR (aL ok)) ?_ fun h' hh tk hs g => ?_))
    · have := putL_len (TT f) 0 (.str (TT f) 0) val es
      lia
    · have sd := std_upd S rd hs
      have r' : ORel w h' Z ρ (.ns (nsPut kvs f x)) (dictOf (putL (TT f) hh (.str (TT f) tk) val es) (putN (TT f) es n)) := ⟨_, _, rfl, FRel.put (rx.mono (fun zz z => z) (fun zz zz e => e) sd) (fr.mono (fun zz z => z) (fun zz zz e => e) sd), by have := nsPut_len f x kvs; lia⟩
      exact hQ h' _ (S.upd rd hs g r') (post_upd rd hs g)
  · obtain ⟨rfl, rfl, rfl⟩ := setV_inv e
    obtain ⟨a', d, e0, e1, e2, e3, e4, n, b, rfl, z, zd, ex, ed, fr⟩ := q.vec_inv
    obtain rfl := rx.bool_inv
    have sk := fr.keys
    have I : InstAt s.heap a' (instObj (CA 1) d) (CA 1) (some (dictOf [e0, e1, e2, e3, e4] n)) := ⟨ex, rfl, rfl, ed⟩
    have ok := set_at w.params (c := 1) (f := 3) (.inr (.inl rfl)) hf
    unfold setOk at ok
    have i0 : e0.key.isStr (TT 3) = false := isStr_ex (fr.keyAt (i := 0) rfl rfl)
    have i1 : e1.key.isStr (TT 3) = false := isStr_ex (fr.keyAt (i := 1) rfl rfl)
    have i2 : e2.key.isStr (TT 3) = false := isStr_ex (fr.keyAt (i := 2) rfl rfl)
    have i3 : e3.key.isStr (TT 3) = true := isStr_ex (fr.keyAt (i := 3) rfl rfl)
    obtain ⟨t3, k3⟩ := fr.keyAt (i := 3) (e := e3) rfl rfl
    have hput : ∀ hh key, putL (TT 3) hh key (.bool true) [e0, e1, e2, e3, e4] = [e0, e1, e2, { e3 with val := .bool true }, e4] := fun hh key => by
      simp only [putL, i0, i1, i2, i3, Bool.false_eq_true, if_false, if_true]
    have hpn : putN (TT 3) [e0, e1, e2, e3, e4] n = n := by
      unfold putN
      rw [if_pos]
      simp [i3]
    refine go (set_plain X I (eq_of_beq (aR ok)) (osa_any (s := { s with toks := s.toks + 1 }) X I (m := fun x => nsFind [e0, e1, e2, e3, e4].toArray x) ⟨_, _, n, ed, rfl, sk, fun zz => rfl⟩ (aL (aL (aL ok))) (eq_of_beq (aR (aL (aL ok)))) (aR (aL ok)) (by rw [hput]; exact Nat.le_of_ble_eq_true rfl) fun h' hh tk hs g => ?_))
    rw [hput, hpn] at g
    have f := S.flip zd hs ed g ⟨e0, e1, e2, e3, e4, n, t3, rfl, k3, rfl⟩
    exact hQ h' _ f.1 f.2
end
end Mine
end
section
open PySem PySem.W PyProof.Rows PySem.Calls
namespace Mine
section
variable {w : World} {hb h h' : Heap} {Φ : List Env} {A : Around} {σ σ' : Sto} {s : Shared} {Z : Addr → Prop} {ρ : List Addr} {E : Value → Shared → Prop}
theorem map_plain (vs : List Value) (n : Nat) (f : Array Value → Array Value) (ws : List Value) (e : f vs.toArray = ws.toArray) : ∃ m, Obj.mapSeq f (lstO vs n) = lstO ws m := by
  refine ⟨if (f vs.toArray).size == vs.toArray.size then n else n + 1, ?_⟩
  unfold lstO
  simp only [Obj.mapSeq]
  rw [e]
theorem setItem_plain {l : Addr} {vs : List Value} {n : Nat} {k : Int} {t : Tok} {v : Value} {Q : Unit → Shared → Prop} (ho : s.heap.get? l = some (lstO vs n)) (h0 : 0 ≤ k) (hn : k.toNat < vs.length) (hz : vs.length ≤ 20000)
    (hQ : ∀ h' m, h'.get? l = some (lstO (vs.set k.toNat v) m) → Heap.SameBut l s.heap h' → Q () { s with heap := h' }) : wpAny (model pw w) A (setItem (.ref l) (.int k t) v) Q E s := by
  have hT : s.TypeIs (.ref l) "list" := ⟨_, ho, rfl⟩
  have hj : k.toNat < vs.toArray.size := by simpa using hn
  have fit : Builtin.List.listFitsIndex k = true := fitsIndex_of h0 (by lia)
  obtain ⟨m, hm⟩ := map_plain vs n (fun xs => xs.setIfInBounds k.toNat v) (vs.set k.toNat v) (by simp)
  have g : (s.heap.update l (Obj.mapSeq fun xs => xs.setIfInBounds k.toNat v)).get? l = some (lstO (vs.set k.toNat v) m) := by
    rw [← hm]; exact Heap.get?_update_self _ ho (by rw [hm]; rfl)
  have fin := hQ _ m g (Heap.SameBut.update ..)
  clear hQ g hm hn
  unfold setItem
  try with_reducible refine wpAny_holding ?_
  first | refine wpAny_bind (wpAny_pure ?_) | skip
  refine wpAny_bind (wpAny_sequenceKey hT (by decide) ?_)
  refine wpAny_bind (wpAny_callSpecial?_slot (name := Str.ofString "__setitem__") hT slot_list_setitem (wpAny_call_entry slot_list_setitem hT entry_list_setitem ?_ (args_list_setitem _ _ _)))
  show wpAny _ _ (Builtin.List.listSubscript? (.int k t) >>= _) _ _ s
  refine wpAny_bind (wpAny_listSubscript_int fit ?_)
  clear fit
  obtain ⟨j, rfl⟩ := Int.eq_ofNat_of_zero_le h0
  show wpAny _ _ ((seqItemAt l j >>= fun r => pure (r.map (j, ·))) >>= _) _ _ s
  refine wpAny_bind (wpAny_bind (wpAny_seqItemAt ho rfl (wpAny_pure ?_)))
  rw [Array.getElem?_eq_getElem (show j < vs.toArray.size from hj)]
  show wpAny _ _ (setSeqItemAt l j v >>= _) _ _ s
  refine wpAny_bind (wpAny_setSeqItemAt ho rfl ?_)
  first
    | exact wpAny_bind (wpAny_pure (wpAny_pure ⟨.none, rfl, wpAny_pure fin⟩))
    | exact wpAny_pure ⟨.none, rfl, wpAny_pure fin⟩
theorem valueAt_stored {K : Type} [DecidableEq K] (P : List (K × Value)) (k j : K) (v : Value) : valueAt (stored P k v) j = if j = k then some v else valueAt P j := by
  unfold stored
  split
  · rename_i hk
    induction P with
    | nil => simp at hk
    | cons p r ih =>
      unfold valueAt at ih ⊢
      rw [List.map_cons, List.find?_cons, List.find?_cons]
      by_cases q : p.1 = k
      · rw [if_pos q]
        by_cases q2 : j = k
        · subst q2; simp [q]
        · rw [if_neg q2]
          have e1 : decide (p.1 = j) = false := decide_eq_false fun e => q2 (e.symm.trans q)
          rw [e1]
          simp only
          by_cases hr : (r.any fun kv => decide (kv.1 = k)) = true
          · have := ih hr
            rw [if_neg q2] at this
            exact this
          · have nr : ∀ x ∈ r, x.1 ≠ k := fun x hx e => hr (List.any_eq_true.mpr ⟨x, hx, decide_eq_true e⟩)
            have : r.map (fun kv => if kv.1 = k then (kv.1, v) else kv) = r := by
              exact (List.map_congr_left fun x hx => if_neg (nr x hx)).trans (List.map_id' r)
            rw [this]
      · rw [if_neg q]
        have hr : (r.any fun kv => decide (kv.1 = k)) = true := by simpa [q] using hk
        cases e : decide (p.1 = j) with
        | true =>
          have := of_decide_eq_true e
          rw [if_neg fun e2 => q (this.trans e2)]
        | false => exact ih hr
  · rename_i hk
    have nr : ∀ x ∈ P, x.1 ≠ k := fun x hx e => hk (List.any_eq_true.mpr ⟨x, hx, decide_eq_true e⟩)
    unfold valueAt
    rw [List.find?_append]
    by_cases q2 : j = k
    · subst q2
      have : P.find? (fun kv => decide (kv.1 = j)) = none := List.find?_eq_none.mpr fun x hx => by simpa using nr x hx
      rw [this]; simp
    · rw [if_neg q2]
      have : [(k, v)].find? (fun kv => decide (kv.1 = j)) = none := by rw [List.find?_cons, decide_eq_false (fun e : k = j => q2 e.symm)]; rfl
      rw [this, Option.or_none]
theorem stored_len {K : Type} [DecidableEq K] (P : List (K × Value)) (k : K) (v : Value) (h : (valueAt P k).isSome = true) : (stored P k v).length = P.length := by
  unfold stored
  rw [if_pos]
  · simp
  · unfold valueAt at h
    rw [Option.isSome_map, List.find?_isSome] at h
    simpa using h
theorem stored_new {K : Type} [DecidableEq K] (P : List (K × Value)) (k : K) (v : Value) (h : (valueAt P k).isSome = false) : stored P k v = P ++ [(k, v)] := by
  unfold stored
  rw [if_neg]
  intro q
  unfold valueAt at h
  rw [Option.isSome_map] at h
  have : (P.find? fun kv => decide (kv.1 = k)).isSome = true := by rw [List.find?_isSome]; simpa using q
  rw [h] at this; cases this
noncomputable def setL (σ : Sto) (l : Nat) (o : Option AO) (i : Int) (x : AV) : Option Sto := match o with
  | some (.list xs) => if 0 ≤ i ∧ i.toNat < xs.length then some (σ.set l (.list (xs.set i.toNat x))) else Option.none
  | some (.idict ks) => match x with
    | .bool true => if ks.contains i = false ∧ ks.length < 10000 then some (σ.set l (.idict (ks ++ [i]))) else Option.none
    | _ => Option.none
  | _ => Option.none
noncomputable def setD (σ : Sto) (l : Nat) (o : Option AO) (k : Nat) (x : AV) : Option Sto := match o with
  | some (.dict kvs) => if (nsLk kvs k).isSome = true then some (σ.set l (.dict (nsPut kvs k x))) else Option.none
  | _ => Option.none
noncomputable def SetLI (σ : Sto) (l : Nat) (o : Option AO) (i : Int) (x : AV) (r : Sto) : Prop := (∃ xs, o = some (.list xs) ∧ (0 ≤ i ∧ i.toNat < xs.length) ∧ r = σ.set l (.list (xs.set i.toNat x))) ∨ ∃ ks, o = some (.idict ks) ∧ x = .bool true ∧ (ks.contains i = false ∧ ks.length < 10000) ∧ r = σ.set l (.idict (ks ++ [i]))
theorem setL_inv {l : Nat} {o : Option AO} {i : Int} {x : AV} {r : Sto} (e : setL σ l o i x = some r) : SetLI σ l o i x r := by
  cases o with
  | none => exact non e
  | some o =>
    cases o with
    | list xs => exact Or.inl ⟨xs, rfl, ifs_inv e⟩
    | idict ks =>
      cases x with
      | bool b =>
        cases b with
        | true => exact Or.inr ⟨ks, rfl, rfl, ifs_inv e⟩
        | false => exact non e
      | _ => exact non e
    | _ => exact non e
theorem setD_inv {l : Nat} {o : Option AO} {k : Nat} {x : AV} {r : Sto} (e : setD σ l o k x = some r) : ∃ kvs, o = some (.dict kvs) ∧ (nsLk kvs k).isSome = true ∧ r = σ.set l (.dict (nsPut kvs k x)) := by
  cases o with
  | none => exact non e
  | some o =>
    cases o with
    | dict kvs => exact ⟨kvs, rfl, ifs_inv e⟩
    | _ => exact non e
noncomputable def SetI (σ : Sto) (v j x : AV) (r : Sto) : Prop := (∃ l i, v = .loc l ∧ j = .int i ∧ setL σ l σ[l]? i x = some r) ∨ ∃ l k, v = .loc l ∧ j = .str k ∧ setD σ l σ[l]? k x = some r
theorem setI_inv {v j x : AV} {r : Sto} (e : setIV σ v j x = some r) : SetI σ v j x r := by
  cases v with
  | loc l =>
    cases j with
    | int i => exact Or.inl ⟨l, i, rfl, rfl, e⟩
    | str k => exact Or.inr ⟨l, k, rfl, rfl, e⟩
    | _ => exact non e
  | _ => exact non e
theorem op_setI {ov jv x : AV} {a ja val : Value} {Q : Unit → Shared → Prop} (S : St w hb Φ s.heap Z ρ σ) (q : VRel s.heap Z ρ ov a) (qj : VRel s.heap Z ρ jv ja) (rx : VRel s.heap Z ρ x val) (e : setIV σ ov jv x = some σ') (hQ : OpU w hb Φ s Z ρ σ' Q) :
    wpAny (model pw w) A (setItem a ja val) Q E s := by
  refine Classical.byContradiction fun go => ?_
  rcases setI_inv e with ⟨l, i, rfl, rfl, e'⟩ | ⟨l, k, rfl, rfl, e'⟩ <;> clear e
  · obtain ⟨y, rfl, el⟩ := q.loc_inv
    obtain ⟨t, rfl⟩ := qj.int_inv
    rcases setL_inv e' with ⟨xs, hk, hi, rfl⟩ | ⟨ks, hk, rfl, hi, rfl⟩ <;> clear e'
    · refine S.list_el hk el fun vs n gx rr lz => ?_
      have ln := rr.length
      refine go (setItem_plain gx hi.1 (ln ▸ hi.2) (ln ▸ lz) fun h' m g hs => ?_)
      have sd := std_upd S el hs
      exact hQ h' s.toks (S.upd el hs g ⟨_, _, rfl, (rr.set i.toNat rx).mono (fun zz z => z) (fun zz zz e => e) sd, by rw [List.length_set]; exact lz⟩) (post_upd el hs g)
    · obtain rfl := rx.bool_inv
      refine S.idict_el hk el fun o P gx hd hks lz => ?_
      have lp : P.length = ks.length := by rw [← hks, List.length_map]
      refine go (wpAny_setItem_pairs (knd := PySem.intKind pw w) (k := i) (by simp [PySem.intKind, Value.isInt]) (Heap.dictOf_iff.mpr ⟨o, gx, hd⟩) (fun h' hd' hs => ?_) (by rw [lp, sizeLine_eq]; lia))
      refine Classical.byContradiction fun go => ?_
      obtain ⟨o', g', hd'⟩ := Heap.dictOf_iff.mp hd'
      rw [stored_new P i _ (by rw [valueAt_some, hks]; exact hi.1)] at hd'
      exact go <| hQ h' _ (S.upd el hs g' ⟨_, hd', by rw [List.map_append, hks]; rfl, by rw [List.length_append]; exact Nat.succ_le_of_lt hi.2⟩) (post_upd el hs g')
  · obtain ⟨y, rfl, el⟩ := q.loc_inv
    obtain ⟨t, rfl⟩ := qj.str_inv
    obtain ⟨kvs, hk, hi, rfl⟩ := setD_inv e'
    clear e'
    refine S.dict_el hk el fun o P gx hd lz hm h0 hbd => ?_
    obtain ⟨old, ho⟩ := Option.isSome_iff_exists.mp hi
    obtain ⟨val0, hv0, _⟩ := hm _ _ ho
    refine go (wpAny_setItem_pairs (knd := PySem.strKind pw w) (k := TT k) (by simp [PySem.strKind, Value.isStrOf]) (Heap.dictOf_iff.mpr ⟨o, gx, hd⟩) (fun h' hd' hs => ?_) (by rw [sizeLine_eq]; lia))
    refine Classical.byContradiction fun go => ?_
    obtain ⟨o', g', hd'⟩ := Heap.dictOf_iff.mp hd'
    have sd := std_upd S el hs
    refine go (hQ h' _ (S.upd el hs g' ⟨_, ⟨hd', by rw [stored_len P _ _ (by rw [hv0]; rfl)]; exact lz⟩, fun k2 v2 e2 => ?_, fun e2 => ?_, fun p hp => ?_⟩) (post_upd el hs g'))
    · rw [nsLk_put] at e2
      rw [valueAt_stored]
      by_cases c : k2 = k
      · rw [if_pos c] at e2; cases e2
        rw [if_pos (by rw [c])]
        exact ⟨_, rfl, rx.mono (fun zz z => z) (fun zz zz e => e) sd⟩
      · rw [if_neg c] at e2
        rw [if_neg fun e => c (TT_inj e)]
        obtain ⟨v3, p1, p2⟩ := hm _ _ e2
        exact ⟨v3, p1, p2.mono (fun zz z => z) (fun zz zz e => e) sd⟩
    · cases kvs with
      | nil => simp [nsLk] at ho
      | cons p r =>
        unfold nsPut at e2
        split at e2 <;> simp at e2
    · have : ∀ (l : List (Nat × AV)), (∀ v ∈ l, bnd ρ.length v.2 = true) → ∀ v ∈ nsPut l k x, bnd ρ.length v.2 = true := fun l => by
        induction l with
        | nil => intro _ v hv; simp only [nsPut, List.mem_singleton] at hv; subst hv; exact rx.bnd
        | cons a r ih =>
          intro hl v hv
          unfold nsPut at hv
          split at hv
          · rcases List.mem_cons.mp hv with rfl | hv
            · exact rx.bnd
            · exact hl v (.tail _ hv)
          · rcases List.mem_cons.mp hv with rfl | hv
            · exact hl _ (.head _)
            · exact ih (fun v hv => hl v (.tail _ hv)) v hv
      exact this kvs hbd p hp

end
end Mine
end
section
open PySem PySem.W PyProof.Rows PySem.Calls
namespace Mine
noncomputable def notComp : Expr → Bool
  | .ListComp _ _ _ _ => false
  | .SetComp _ _ _ _ => false
  | .DictComp _ _ _ _ _ => false
  | _ => true
theorem swaps_of {e : Expr} (h : notComp e = true) (t : Option Expr) (line : Nat) (env : Env) : swapsWith e t line env = pure false := by cases e <;> first | rfl | cases h
section
variable {w : World} {hb h' : Heap} {Φ : List Env} {A : Around} {σ : Sto} {s : Shared} {Z : Addr → Prop} {ρ : List Addr} {Q : Value → Shared → Prop} {E : Value → Shared → Prop}
theorem op_item {v j r : AV} {a ja : Value} (S : St w hb Φ s.heap Z ρ σ) (q : VRel s.heap Z ρ v a) (qj : VRel s.heap Z ρ j ja) (e : itemOf σ v j = some r) (_hs : True)
    (hQ : OpQ w hb Φ s Z ρ σ r Q) : wpAny (model pw w) A (getItem a ja) Q E s := (op_get S q qj e hQ).2
theorem isl_iadd : seqSlot? (.type "list") (dunderI "add") = pure (some (.builtin "list.__iadd__")) := PySem.seqSlot_of F.slot_list_iadd.lookup (by decide +kernel)
theorem entry_iadd : entryFor table "list.__iadd__" = some Builtin.«list.__iadd__» := entryFor_of_fast (by kernel_rfl)
theorem fills_iadd : fillsInplaceSlot (.type "list") "add" (Operator.Add == .Add) = pure false := by
  unfold fillsInplaceSlot
  show (typeLookup (.type "list") (dunderI "add") >>= fun fi => pure (fi.isSome && !isSeqSlot fi)) = pure false
  rw [F.slot_list_iadd.lookup]
  rfl
theorem iadd_list {x y : Addr} {vs ys : List Value} {n m : Nat} (gx : s.heap.get? x = some (lstO vs n)) (gy : s.heap.get? y = some (lstO ys m)) (lx : vs.length ≤ 20000) (ly : vs.length + ys.length ≤ 20000)
    (h : ∀ h' k, h'.get? x = some (lstO (vs ++ ys) k) → Heap.SameBut x s.heap h' → Q (.ref x) { s with heap := h' }) : wpAny (model pw w) A (inplaceOp .Add (.ref x) (.ref y)) Q E s := by
  have ha : s.TypeIs (.ref x) "list" := ⟨_, gx, rfl⟩
  have hb : s.TypeIs (.ref y) "list" := ⟨_, gy, rfl⟩
  unfold inplaceOp
  refine wpAny_holding ?_
  refine wpAny_bind (wpAny_typeOf ha (wpAny_bind (wpAny_of_eq fills_iadd ?_)))
  show wpAny _ A (if false = true then _ else _) Q E s
  rw [if_neg Bool.false_ne_true]
  refine wpAny_bind (wpAny_binaryOp1_none (nm := "add") ha hb noFill_list_add ?_)
  refine wpAny_bind (wpAny_of_eq isl_iadd ?_)
  refine wpAny_bind (wpAny_rule ?_)
  refine wpAny_call_entry F.slot_list_iadd ha entry_iadd ?_ (F.args_list_iadd_2 _ _)
  show wpAny _ A.in1 (Builtin.List.listExtendWith (.ref x) (.ref y) (.ref x)) _ _ _
  unfold Builtin.List.listExtendWith
  refine wpAny_bind (wpAny_typeOf hb ?_)
  have h1 : (Builtin.List.listSameRef (.ref x) (.ref y) || Value.type "list" == Value.type "list" || Value.type "list" == Value.type "tuple") = true := by simp
  simp only [h1, if_true]
  refine wpAny_bind ?_
  unfold Builtin.List.listItems
  have zx : vs.toArray.size ≤ sizeLine := by rw [sizeLine_eq]; simp; lia
  have zy : ys.toArray.size ≤ sizeLine := by rw [sizeLine_eq]; simp; lia
  refine wpAny_bind (wpAny_seqItems gy rfl (wpAny_pure ?_))
  refine wpAny_bind ?_
  refine wpAny_bind (wpAny_seqItems gx rfl (wpAny_pure ?_))
  have door : (!vs.toArray.isEmpty && Builtin.List.listTooLong (vs.toArray.size + ys.toArray.size)) = false := by
    have : Builtin.List.listTooLong (vs.toArray.size + ys.toArray.size) = false := by
      unfold Builtin.List.listTooLong
      simp
      rw [sizeLine_eq]; lia
    rw [this, Bool.and_false]
  rw [if_neg (by rw [door]; decide)]
  show wpAny _ A.in1 (updateSeq x (· ++ ys.toArray) >>= fun zz => ret (.ref x)) _ _ s
  refine wpAny_bind (wpAny_updateSeq gx rfl ?_ (hz := zx) (_hz' := by rw [sizeLine_eq]; simp; lia))
  have g0 := IsL.update (h := s.heap) (l := x) (items := vs.toArray) (n := n) gx (fun xs => xs ++ ys.toArray)
  rw [show vs.toArray ++ ys.toArray = (vs ++ ys).toArray by simp] at g0
  exact wpAny_pure ⟨_, rfl, h _ _ g0 (Heap.SameBut.update ..)⟩
noncomputable def augL (σ : Sto) (l : Nat) (o : Option AO) (ys : List AV) : Option (AV × Sto) := match o with
  | some (.list xs) => if xs.length + ys.length < 10000 then some (.loc l, σ.set l (.list (xs ++ ys))) else Option.none
  | _ => Option.none
theorem augL_inv {l : Nat} {o : Option AO} {ys : List AV} {r : AV × Sto} (e : augL σ l o ys = some r) : ∃ xs, o = some (.list xs) ∧ xs.length + ys.length < 10000 ∧ r = (.loc l, σ.set l (.list (xs ++ ys))) := by
  cases o with
  | none => exact non e
  | some o =>
    cases o with
    | list xs =>
      by_cases h : xs.length + ys.length < 10000
      · exact ⟨xs, rfl, h, (Option.some.inj ((if_pos h).symm.trans e)).symm⟩
      · exact non ((if_neg h).symm.trans e)
    | _ => exact non e
noncomputable def AugI (σ : Sto) (op : Nat) (a b : AV) (r : AV × Sto) : Prop := (∃ x y, a = .int x ∧ b = .int y ∧ augOf σ op (.int x) (.int y) = some r) ∨ ∃ l ys, a = .loc l ∧ b = .lst ys ∧ op = 0 ∧ augL σ l σ[l]? ys = some r
theorem aug0_inv {a b : AV} {r : AV × Sto} (e : augOf σ 0 a b = some r) : AugI σ 0 a b r := by
  cases a with
  | int x =>
    cases b with
    | int y => exact Or.inl ⟨x, y, rfl, rfl, e⟩
    | _ => exact non e
  | loc l =>
    cases b with
    | lst ys => exact Or.inr ⟨l, ys, rfl, rfl, rfl, e⟩
    | _ => exact non e
  | _ => exact non e
theorem aug1_inv {a b : AV} {r : AV × Sto} (e : augOf σ 1 a b = some r) : AugI σ 1 a b r := by
  cases a with
  | int x =>
    cases b with
    | int y => exact Or.inl ⟨x, y, rfl, rfl, e⟩
    | _ => exact non e
  | _ => exact non e
theorem op_aug {op : Nat} {bop : Operator} {va vb r : AV} {σ' : Sto} {a b : Value} (hop : (op = 0 ∧ bop = .Add) ∨ (op = 1 ∧ bop = .Sub)) (S : St w hb Φ s.heap Z ρ σ) (qa : VRel s.heap Z ρ va a) (qb : VRel s.heap Z ρ vb b) (e : augOf σ op va vb = some (r, σ'))
    (hQ : ∀ u h' tk, St w hb Φ h' Z ρ σ' → VRel h' Z ρ r u → Post no s.heap Z ρ h' Z ρ → Q u { s with heap := h', toks := tk }) : wpAny (model pw w) A (inplaceOp bop a b) Q E s := by
  have I : AugI σ op va vb (r, σ') := by
    rcases hop with ⟨rfl, _⟩ | ⟨rfl, _⟩
    · exact aug0_inv e
    · exact aug1_inv e
  clear e
  rcases I with ⟨x, y, rfl, rfl, e⟩ | ⟨l, ys, rfl, rfl, rfl, e⟩
  · refine qa.int_el fun t => ?_
    refine qb.int_el fun u => ?_
    rcases hop with ⟨rfl, rfl⟩ | ⟨rfl, rfl⟩
    · cases Option.some.inj (show some (AV.int (x + y), σ) = _ from e)
      exact PySem.P.iadd_int (hQ _ _ _ S (.int _ _) Post.refl)
    · cases Option.some.inj (show some (AV.int (x - y), σ) = _ from e)
      exact PySem.P.isub_int (hQ _ _ _ S (.int _ _) Post.refl)
  · obtain ⟨xs, hx, lt, e⟩ := augL_inv e
    obtain ⟨rfl, rfl⟩ := Prod.mk.inj e
    obtain rfl : bop = .Add := by rcases hop with ⟨_, rfl⟩ | ⟨h, _⟩ <;> first | rfl | exact nomatch h
    refine qa.loc_el fun x el => ?_
    refine qb.lst_el fun y ys' m lz z ey rr => ?_
    obtain ⟨x', o, rx, gx, vs, n, rfl, rv, lv⟩ := S.ob _ _ hx
    cases Option.some.inj (el.symm.trans rx)
    have l1 := rv.length
    have l2 := rr.length
    refine iadd_list gx ey (by lia) (by lia) fun h' k g hs => ?_
    have sd := std_upd S el hs
    exact hQ _ h' s.toks (S.upd el hs g ⟨_, _, rfl, (rv.append rr).mono (fun zz z => z) (fun zz zz e => e) sd, by rw [List.length_append]; lia⟩) (.loc _ _ el) (post_upd el hs g)
end
section
variable {w : World} {hb h₁ h h' h'' h0 : Heap} {Φ : List Env} {A : Around} {σ : Sto} {s : Shared} {Z Z₁ Z' Z'' Z0 : Addr → Prop} {ρ ρ₁ ρ' ρ'' ρ0 : List Addr} {env : Env} {l : Loc} {E : Value → Shared → Prop} {X : KX} {ns : List (Str × NameKind)} {F : Fl}
theorem SS.setA {o a : Expr} {f : Nat} {p pos : Pos} {we wo : Loc → Sto → KE → KX → Prop} (B : Bs w hb) (hf : f ∈ AL) (hs : notComp a = true) (h : ∀ l, SV w hb Φ A env l we (eval a env)) (ho : ∀ l, SV w hb Φ A env l wo (eval o env)) :
    SS w hb Φ A env (fun l σ F X => we l σ (fun v σ => wo l σ (fun ov σ => opt (setAV σ ov f v) fun σ' => F.N l σ') X) X) (exec (.Assign [.Attribute o (TT f) p] a pos) env) := fun l σ F X wp s Z ρ Q E I O => by
  refine plainObj_wpAny_Assign_Attribute (h l σ _ X wp s Z ρ _ E I (fun v σ₁ a₁ h₁ Z₁ ρ₁ tk₁ hk₁ I₁ r₁ p₁ => ?_) O.xk) (swaps_of hs _ _ _)
  have O₁ := O.after (tk₁ := tk₁) p₁.no
  refine ho l σ₁ _ X hk₁ _ Z₁ ρ₁ _ E I₁ (fun ov σ₂ a₂ h₂ Z₂ ρ₂ tk₂ hk₂ I₂ r₂ p₂ => ?_) O₁.xk
  refine opt_el hk₂ fun σ' e hN => ?_
  refine op_setA (s := { s with heap := h₂, toks := tk₂ }) B I₂.st r₂ (p₂.rel I₁.st r₁) hf e fun h₃ tk₃ S₃ p₃ => ?_
  exact O.n _ _ h₃ Z₂ ρ₂ tk₃ hN (I₂.step p₃ S₃) ((p₁.no.trans p₂.no).trans p₃.no)
theorem SS.setI {o i a : Expr} {p pos : Pos} {we wo wi : Loc → Sto → KE → KX → Prop} (hs : notComp a = true) (h : ∀ l, SV w hb Φ A env l we (eval a env)) (ho : ∀ l, SV w hb Φ A env l wo (eval o env)) (hi : ∀ l, SV w hb Φ A env l wi (eval i env)) :
    SS w hb Φ A env (fun l σ F X => we l σ (fun v σ => wo l σ (fun ov σ => wi l σ (fun iv σ => opt (setIV σ ov iv v) fun σ' => F.N l σ') X) X) X) (exec (.Assign [.Subscript o i p] a pos) env) := fun l σ F X wp s Z ρ Q E I O => by
  refine wpAny_Assign_Subscript (h l σ _ X wp s Z ρ _ E I (fun v σ₁ a₁ h₁ Z₁ ρ₁ tk₁ hk₁ I₁ r₁ p₁ => ?_) O.xk) (swaps_of hs _ _ _)
  have O₁ := O.after (tk₁ := tk₁) p₁.no
  refine ho l σ₁ _ X hk₁ _ Z₁ ρ₁ _ E I₁ (fun ov σ₂ a₂ h₂ Z₂ ρ₂ tk₂ hk₂ I₂ r₂ p₂ => ?_) O₁.xk
  have O₂ := O₁.after (tk₁ := tk₂) p₂.no
  refine hi l σ₂ _ X hk₂ _ Z₂ ρ₂ _ E I₂ (fun iv σ₃ a₃ h₃ Z₃ ρ₃ tk₃ hk₃ I₃ r₃ p₃ => ?_) O₂.xk
  refine opt_el hk₃ fun σ' e hN => ?_
  refine op_setI (s := { s with heap := h₃, toks := tk₃ }) I₃.st (p₃.rel I₂.st r₂) r₃ (p₃.rel I₂.st (p₂.rel I₁.st r₁)) e fun h₄ tk₄ S₄ p₄ => ?_
  exact O.n _ _ h₄ Z₃ ρ₃ tk₄ hN (I₃.step p₄ S₄) (((p₁.no.trans p₂.no).trans p₃.no).trans p₄.no)
noncomputable def augOpOf (op : Nat) (b : Operator) : Bool := Nat.beq op (opNum b) && Nat.ble op 1
theorem aug_of {op : Nat} {b : Operator} (h : augOpOf op b = true) : (op = 0 ∧ b = .Add) ∨ (op = 1 ∧ b = .Sub) := by
  have e := Nat.eq_of_beq_eq_true (aL h)
  have l := aR h
  clear h
  subst e
  cases b <;> first | exact nof l | exact .inl ⟨rfl, rfl⟩ | exact .inr ⟨rfl, rfl⟩
theorem load_any {x : Nat} {v : AV} {Q : Value → Shared → Prop} (fr : FrOk env ns) (hk : ns.lookup (TT x) = some .local ∨ ns.lookup (TT x) = some .cell ∨ ns.lookup (TT x) = some .free) (I : In w hb Φ s.heap Z ρ σ env l) (e : nsLk l x = some v)
    (hQ : ∀ val, VRel s.heap Z ρ v val → Q val s) : wpAny (model pw w) A (loadName env (TT x)) Q E s := by
  obtain ⟨m, cm, hm, hc, hl⟩ := I.lr
  obtain ⟨val, r, p, q⟩ := hl x v e
  have ek : env.kindOf (TT x) = ns.lookup (TT x) := by unfold Env.kindOf; rw [fr.names]
  rcases hk with hk | hk | hk
  · exact wpAny_loadName_local fr.kind (ek.trans hk) hm (p (ek.trans hk)) (hQ _ r)
  · obtain ⟨c, hcl⟩ := fr.cell (TT x) (.inl hk)
    exact wpAny_loadName_cell fr.kind (ek.trans hk) hcl (q (by rw [ek, hk]; decide) ▸ hc _ _ hcl) (hQ _ r)
  · obtain ⟨c, hcl⟩ := fr.cell (TT x) (.inr hk)
    exact wpAny_loadName_free fr.kind (ek.trans hk) hcl (q (by rw [ek, hk]; decide) ▸ hc _ _ hcl) (hQ _ r) (TT_classdict x)
theorem SS.augN {a : Expr} {x op : Nat} {bop : Operator} {p pos : Pos} {we : Loc → Sto → KE → KX → Prop} (fr : FrOk env ns) (hk : ns.lookup (TT x) = some .local ∨ ns.lookup (TT x) = some .cell) (hop : augOpOf op bop = true) (h : ∀ l, SV w hb Φ A env l we (eval a env)) :
    SS w hb Φ A env (fun l σ F X => opt (nsLk l x) fun old => we l σ (fun v σ => opt (augOf σ op old v) fun r => F.N (nsPut l x r.1) r.2) X) (exec (.AugAssign (.Name (TT x) p) bop a pos) env) := fun l σ F X wp s Z ρ Q E I O => by
  refine opt_el wp fun old eo wp => ?_
  refine wpAny_AugAssign_Name (load_any fr (hk.elim .inl fun q => .inr (.inl q)) I eo fun val r0 => ?_)
  refine h l σ _ X wp s Z ρ _ E I (fun v σ₁ a₁ h₁ Z₁ ρ₁ tk₁ hk₁ I₁ r₁ p₁ => ?_) O.xk
  obtain ⟨⟨r, σ'⟩, e, hN⟩ := opt_ex hk₁
  refine op_aug (s := { s with heap := h₁, toks := tk₁ }) (aug_of hop) I₁.st (p₁.rel I.st r0) r₁ e fun u h₂ tk₂ S₂ r₂ p₂ => ?_
  exact store_any (s := { s with heap := h₂, toks := tk₂ }) fr hk (I₁.step p₂ S₂) r₂ fun h₃ tk₃ I₃ p₃ zz => O.n _ _ h₃ Z₁ ρ₁ tk₃ hN I₃ ((p₁.no.trans p₂.no).trans p₃)
theorem SS.augA {o a : Expr} {f op : Nat} {bop : Operator} {p pos : Pos} {we wo : Loc → Sto → KE → KX → Prop} (B : Bs w hb) (hf : f ∈ AL) (hop : augOpOf op bop = true) (ho : ∀ l, SV w hb Φ A env l wo (eval o env)) (h : ∀ l, SV w hb Φ A env l we (eval a env)) :
    SS w hb Φ A env (fun l σ F X => wo l σ (fun ov σ => opt (attrOf σ ov f) fun old => we l σ (fun v σ => opt (augOf σ op old v) fun r => opt (setAV r.2 ov f r.1) fun σ' => F.N l σ') X) X) (exec (.AugAssign (.Attribute o (TT f) p) bop a pos) env) := fun l σ F X wp s Z ρ Q E I O => by
  refine wpAny_AugAssign_AttributeAny (ho l σ _ X wp s Z ρ _ E I (fun ov σ₁ a₁ h₁ Z₁ ρ₁ tk₁ hk₁ I₁ r₁ p₁ => ?_) O.xk)
  refine opt_el hk₁ fun old eo hk₁ => ?_
  refine op_attr (s := { s with heap := h₁, toks := tk₁ }) B I₁.st r₁ hf eo fun a₂ h₂ Z₂ ρ₂ tk₂ S₂ r₂ p₂ => ?_
  have I₂ := I₁.step p₂ S₂
  have O₂ := O.after (tk₁ := tk₂) (p₁.no.trans p₂.no)
  refine h l σ₁ _ X hk₁ { s with heap := h₂, toks := tk₂ } Z₂ ρ₂ _ E I₂ (fun v σ₃ a₃ h₃ Z₃ ρ₃ tk₃ hk₃ I₃ r₃ p₃ => ?_) O₂.xk
  obtain ⟨⟨r, σ'⟩, e, hk₃⟩ := opt_ex hk₃
  refine opt_el hk₃ fun σ'' e' hN => ?_
  refine op_aug (s := { s with heap := h₃, toks := tk₃ }) (aug_of hop) I₃.st (p₃.rel I₂.st r₂) r₃ e fun u h₄ tk₄ S₄ r₄ p₄ => ?_
  have r1 : VRel h₄ Z₃ ρ₃ ov a₁ := p₄.rel I₃.st (p₃.rel I₂.st (p₂.rel I₁.st r₁))
  refine op_setA (s := { s with heap := h₄, toks := tk₄ }) B S₄ r1 r₄ hf e' fun h₅ tk₅ S₅ p₅ => ?_
  exact O.n _ _ h₅ Z₃ ρ₃ tk₅ hN ((I₃.step p₄ S₄).step p₅ S₅) (((p₁.no.trans p₂.no).trans p₃.no).trans (p₄.no.trans p₅.no))
noncomputable def plainIx : Expr → Bool
  | .Slice _ _ none _ => false
  | _ => true
theorem aug_ix {i : Expr} (h : plainIx i = true) (ov iv new : Value) : augStore i ov iv new = (do holding [new, ov, iv] (setItem ov iv new); release [new, ov, iv] []; pure .next) := by
  cases i with
  | Slice a b c p => cases c <;> first | rfl | cases h
  | _ => rfl
theorem SS.augI {o i a : Expr} {op : Nat} {bop : Operator} {p pos : Pos} {we wo wi : Loc → Sto → KE → KX → Prop} (hix : plainIx i = true) (hop : augOpOf op bop = true) (ho : ∀ l, SV w hb Φ A env l wo (eval o env)) (hi : ∀ l, SV w hb Φ A env l wi (eval i env)) (h : ∀ l, SV w hb Φ A env l we (eval a env)) :
    SS w hb Φ A env (fun l σ F X => wo l σ (fun ov σ => wi l σ (fun iv σ => opt (itemOf σ ov iv) fun old => we l σ (fun v σ => opt (augOf σ op old v) fun r => opt (setIV r.2 ov iv r.1) fun σ' => F.N l σ') X) X) X) (exec (.AugAssign (.Subscript o i p) bop a pos) env) := fun l σ F X wp s Z ρ Q E I O => by
  refine wpAny_AugAssign_SubscriptAny (ho l σ _ X wp s Z ρ _ E I (fun ov σ₁ a₁ h₁ Z₁ ρ₁ tk₁ hk₁ I₁ r₁ p₁ => ?_) O.xk) (aug_ix hix)
  have O₁ := O.after (tk₁ := tk₁) p₁.no
  refine hi l σ₁ _ X hk₁ _ Z₁ ρ₁ _ E I₁ (fun iv σ₂ a₂ h₂ Z₂ ρ₂ tk₂ hk₂ I₂ r₂ p₂ => ?_) O₁.xk
  refine opt_el hk₂ fun old eo hk₂ => ?_
  refine op_item (s := { s with heap := h₂, toks := tk₂ }) I₂.st (p₂.rel I₁.st r₁) r₂ eo trivial fun a₃ h₃ Z₃ ρ₃ tk₃ S₃ r₃ p₃ => ?_
  have I₃ := I₂.step p₃ S₃
  have O₃ := O.after (tk₁ := tk₃) ((p₁.no.trans p₂.no).trans p₃.no)
  refine h l σ₂ _ X hk₂ { s with heap := h₃, toks := tk₃ } Z₃ ρ₃ _ E I₃ (fun v σ₄ a₄ h₄ Z₄ ρ₄ tk₄ hk₄ I₄ r₄ p₄ => ?_) O₃.xk
  obtain ⟨⟨r, σ'⟩, e, hk₄⟩ := opt_ex hk₄
  refine opt_el hk₄ fun σ'' e' hN => ?_
  refine op_aug (s := { s with heap := h₄, toks := tk₄ }) (aug_of hop) I₄.st (p₄.rel I₃.st r₃) r₄ e fun u h₅ tk₅ S₅ r₅ p₅ => ?_
  have r1 : VRel h₅ Z₄ ρ₄ ov a₁ := p₅.rel I₄.st (p₄.rel I₃.st (p₃.rel I₂.st (p₂.rel I₁.st r₁)))
  have r2 : VRel h₅ Z₄ ρ₄ iv a₂ := p₅.rel I₄.st (p₄.rel I₃.st (p₃.rel I₂.st r₂))
  refine op_setI (s := { s with heap := h₅, toks := tk₅ }) S₅ r1 r2 r₅ e' fun h₆ tk₆ S₆ p₆ => ?_
  exact O.n _ _ h₆ Z₄ ρ₄ tk₆ hN ((I₄.step p₅ S₅).step p₆ S₆) (((p₁.no.trans p₂.no).trans p₃.no).trans (p₄.no.trans (p₅.no.trans p₆.no)))
end
end Mine
end
section
open PySem PySem.W PyProof.Rows PySem.Calls
namespace Mine
noncomputable def swapB (ns : List (Str × NameKind)) (x : Nat) (p : Pos) : Expr → Bool
  | .ListComp _ _ scope cp => ns.lookup (TT x) == some .local && p.line == cp.line && !(scope.names.any fun q => q.1 == TT x && (q.2 == .local || q.2 == .cell))
  | _ => false
theorem fn_block {env : Env} {ns : List (Str × NameKind)} (fr : FrOk env ns) : env.blockKind = .function := by
  unfold Env.blockKind
  rw [fr.kind]; rfl
theorem swapsWith_B {ns : List (Str × NameKind)} {env : Env} {x : Nat} {p : Pos} {e : Expr} {line : Nat} (fr : FrOk env ns) (h : swapB ns x p e = true) : swapsWith e (some (.Name (TT x) p)) line env = pure true := by
  cases e with
  | ListComp a b scope cp =>
    have ek : env.kindOf (TT x) = ns.lookup (TT x) := by unfold Env.kindOf; rw [fr.names]
    have h' : (ns.lookup (TT x) == some .local && p.line == cp.line && !(scope.names.any fun q => q.1 == TT x && (q.2 == .local || q.2 == .cell))) = true := h
    unfold swapsWith
    dsimp only
    show (pure (env.blockKind == .function && env.kindOf (TT x) == some .local && p.line == cp.line && !(scope.names.any fun q => q.1 == TT x && (q.2 == .local || q.2 == .cell))) : Sem Bool) = pure true
    rw [fn_block fr, ek]
    simp only [Bool.and_eq_true] at h'
    rw [h'.1.1, h'.1.2, h'.2]
    rfl
  | _ => cases h
noncomputable def nmE : List Nat → List Expr → Bool
  | [], es => es.isEmpty
  | x :: xs, es => onCons es fun e r => onName e (fun i _ => i == TT x) && nmE xs r
theorem nmE_find {xs : List Nat} {es : List Expr} {env : Env} (h : nmE xs es = true) : (assignEach es env).findIdx? (·.1) = none ∧ (assignEach es env).length = xs.length := by
  induction xs generalizing es with
  | nil => exact nil_el es h ⟨rfl, rfl⟩
  | cons x xs ih =>
    refine onCons_el (fun e r h => onName_el (fun i p _ => ?_) e (aL h)) es h
    have q := ih (aR h)
    show ((false, assign (.Name i p) env) :: assignEach r env).findIdx? (·.1) = none ∧ ((false, assign (.Name i p) env) :: assignEach r env).length = _
    rw [List.findIdx?_cons, q.1]
    exact ⟨rfl, congrArg Nat.succ q.2⟩
noncomputable def notTup : Expr → Bool
  | .Tuple _ _ _ => false
  | _ => true
theorem swapped_none {elts : List Expr} {k : Nat} {tp : Pos} {v : Expr} {env : Env} (h : notTup v = true) : swappedStores [.Tuple elts k tp] v env = pure none := by
  unfold swappedStores
  cases v <;> first | rfl | cases h
section
variable {w : World} {hb h₁ h h' h'' h0 : Heap} {Φ : List Env} {A : Around} {σ : Sto} {s : Shared} {Z Z₁ Z' Z'' Z0 : Addr → Prop} {ρ ρ₁ ρ' ρ'' ρ0 : List Addr} {env : Env} {l : Loc} {E : Value → Shared → Prop} {X : KX} {ns : List (Str × NameKind)} {F : Fl}
theorem In.keep (I : In w hb Φ h Z ρ σ env l) (k : ∀ b o, h.get? b = some o → h'.get? b = some o) : In w hb Φ h' Z ρ σ env l := I.step (post_keep k) (I.st.keep k)
theorem ext_keep {h h' : Heap} (x : Heap.ExtBut h.objs.size h h') : ∀ b o, h.get? b = some o → h'.get? b = some o := fun b o e => x b o (Nat.ne_of_lt (Heap.lt_size e)) e
theorem assign_names {Q : Unit → Shared → Prop} (fr : FrOk env ns) {xs : List Nat} {es : List Expr} {vs : List AV} {items : List Value} {l l' : Loc} {s : Shared} (h : nmE xs es = true) (hk : (xs.all fun x => ns.lookup (TT x) == some .local || ns.lookup (TT x) == some .cell) = true) (ha : asgs xs vs l = some l')
    (I : In w hb Φ s.heap Z ρ σ env l) (r : VRels s.heap Z ρ vs items) (hQ : ∀ h' tk, In w hb Φ h' Z ρ σ env l' → Post (own env) s.heap Z ρ h' Z ρ → Q () { s with heap := h', toks := tk }) :
    wpAny (model pw w) A (assignInOrder ((assignEach es env).map (·.2)) items) Q E s := by
  induction xs generalizing es vs items l s with
  | nil =>
    refine nil_el es h ?_
    cases vs with
    | cons _ _ => exact non ha
    | nil =>
    cases Option.some.inj ha
    obtain rfl := r.nil_inv
    exact wpAny_pure (hQ s.heap s.toks I Post.refl)
  | cons x xs ih =>
    refine onCons_el (fun e es h => onName_el (fun i p q => beq_el i q ?_) e (aL h)) es h
    cases vs with
    | nil => exact non ha
    | cons v vs =>
    refine r.cons_el fun a as r rs => ?_
    show wpAny _ _ (holding as (assign (.Name (TT x) p) env a) >>= fun zz => assignInOrder ((assignEach es env).map (·.2)) as) Q E s
    refine wpAny_bind (wpAny_holding (assign_Name (store_any fr ((or_el (aL hk) (fun e => .inl (eq_of_beq e)) fun e => .inr (eq_of_beq e))) I r fun h₁ tk₁ I₁ p₁ _ => ?_)))
    exact ih (s := { s with heap := h₁, toks := tk₁ }) (aR h) (aR hk) ha I₁ (p₁.rels I.st rs (fun a z o => (I.lo a o).2.2.1 z)) fun h₂ tk₂ I₂ p₂ => hQ h₂ tk₂ I₂ (p₁.trans p₂)
theorem asgs_len {xs : List Nat} {vs : List AV} {l l' : Loc} (h : asgs xs vs l = some l') : xs.length = vs.length := by
  induction xs generalizing vs l with
  | nil => cases vs with
    | nil => rfl
    | cons => exact non h
  | cons x xs ih => cases vs with
    | nil => exact non h
    | cons v vs => exact congrArg Nat.succ (ih h)
theorem asgs_two {x y : Nat} {vs : List AV} {l l' : Loc} (h : asgs [x, y] vs l = some l') : ∃ a b, vs = [a, b] ∧ l' = nsPut (nsPut l x a) y b := by
  cases vs with
  | nil => exact non h
  | cons a vs =>
  cases vs with
  | nil => exact non h
  | cons b vs =>
  cases vs with
  | cons _ _ => exact non h
  | nil => exact ⟨a, b, rfl, (Option.some.inj h).symm⟩
theorem swap_lk {x y : Nat} {l : Loc} {a b : AV} (ne : x ≠ y) (z : Nat) : nsLk (nsPut (nsPut l y b) x a) z = nsLk (nsPut (nsPut l x a) y b) z := by
  simp only [nsLk_put]
  by_cases q1 : z = x
  · subst q1
    rw [if_pos rfl, if_neg ne, if_pos rfl]
  · rw [if_neg q1]
    by_cases q2 : z = y
    · rw [if_pos q2, if_pos q2]
    · rw [if_neg q2, if_neg q2, if_neg q1]
theorem SS.asgT {xs : List Nat} {elts : List Expr} {k : Nat} {a : Expr} {tp pos : Pos} {we : Loc → Sto → KE → KX → Prop} (hh : A.handled = none) (fr : FrOk env ns) (hn : nmE xs elts = true) (hk : (xs.all fun x => ns.lookup (TT x) == some .local || ns.lookup (TT x) == some .cell) = true) (hc : notComp a = true) (ht : notTup a = true)
    (h : ∀ l, SV w hb Φ A env l we (eval a env)) : SS w hb Φ A env (fun l σ F X => we l σ (fun v σ => opt (asT (expo v)) fun vs => opt (asgs xs vs l) fun l' => F.N l' σ) X) (exec (.Assign [.Tuple elts k tp] a pos) env) := fun l σ F X wp s Z ρ Q E I O => by
  refine Assign_Tuple (h l σ _ X wp s Z ρ _ E I (fun v σ₁ a₁ h₁ Z₁ ρ₁ tk₁ hk₁ I₁ r₁ p₁ => ?_) O.xk) (by show swapsWith a (some (.Tuple elts k tp)) pos.line env = pure false; exact swaps_of hc _ _ _) (swapped_none ht)
  refine Classical.byContradiction fun go => ?_
  refine opt_el hk₁ fun vs eu hk₁ => ?_
  refine opt_el hk₁ fun l' ha hN => ?_
  obtain ⟨t, items, n, rfl, lz, z, e, rr⟩ := (asT_ex eu ▸ r₁.expo).tup_inv
  refine go ?_
  show wpAny _ _ (do standAt tp; unpack (.ref t) (assignEach elts env)) _ _ _
  refine wpAny_bind (wpAny_standAt ?_)
  unfold unpack
  have f := nmE_find (env := env) hn
  have lx : xs.length = items.toArray.size := (asgs_len ha).trans (rr.length.trans (List.size_toArray ..).symm)
  rw [f.1, f.2, lx]
  refine wpAny_bind (wpAny_holding (unpackItems_tuple hh ⟨_, e, rfl, n, rfl⟩ fun h' he => ?_))
  have kk := ext_keep he
  have I₂ := I₁.keep kk
  refine assign_names (s := { s with heap := h', toks := tk₁ }) fr hn hk ha I₂ ((post_keep (ex := no) kk).rels I₁.st rr) fun h₂ tk₂ I₃ p₃ => ?_
  exact O.n l' σ₁ h₂ Z₁ ρ₁ tk₂ hN I₃ ((p₁.no.trans (post_keep kk)).trans p₃)
noncomputable def swapC (ns : List (Str × NameKind)) (x y : Nat) (p q : Pos) (a b : Expr) : Bool := !(Nat.beq x y) && (ns.lookup (TT x) == some .local && (ns.lookup (TT y) == some .local && (p.line == q.line && (!([a, b].all (foldedForSure 8)) && (!([a, b].all (constantsAlone 8)) && (notStar a && notStar b))))))
noncomputable def swapOk (ns : List (Str × NameKind)) (x y : Nat) (ts vs : List Expr) : Bool := onTwo ts fun t1 t2 => onName t1 fun i p => onName t2 fun j q => onTwo vs fun a b => i == TT x && (j == TT y && swapC ns x y p q a b)
theorem swapOk_el {x y : Nat} {P : List Expr → List Expr → Prop} (hk : ∀ p q a b, swapC ns x y p q a b = true → P [.Name (TT x) p, .Name (TT y) q] [a, b]) (ts vs : List Expr) (h : swapOk ns x y ts vs = true) : P ts vs :=
  onTwo_el (fun t1 t2 h => onName_el (fun i p h => onName_el (fun j q h => onTwo_el (fun a b h => beq_el i (aL h) (beq_el j (aL (aR h)) (hk p q a b (aR (aR h))))) vs h) t2 h) t1 h) ts h
theorem if5 {α : Type} {c1 c2 c3 c4 c5 : Prop} [Decidable c1] [Decidable c2] [Decidable c3] [Decidable c4] [Decidable c5] {a1 a2 a3 a4 a5 z : α} (h1 : ¬c1) (h2 : ¬c2) (h3 : ¬c3) (h4 : ¬c4) (h5 : ¬c5) : (if c1 then a1 else if c2 then a2 else if c3 then a3 else if c4 then a4 else if c5 then a5 else z) = z := by
  rw [if_neg h1, if_neg h2, if_neg h3, if_neg h4, if_neg h5]
theorem any2 {α : Type} {f : α → Bool} {K : α → Prop} {a b : α} (hf : ∀ a, K a → f a = false) (ka : K a) (kb : K b) : ¬ ([a, b].any f) = true := by rw [List.any_cons, List.any_cons, hf a ka, hf b kb]; exact Bool.false_ne_true
theorem fm2 {α β : Type} {f : α → Option β} {a b : α} {u v : β} (h1 : f a = some u) (h2 : f b = some v) : [a, b].filterMap f = [u, v] := by rw [List.filterMap_cons_some h1, List.filterMap_cons_some h2]; rfl
theorem dups2 {a b : Str} (h : (b == a) = false) : [a, b].eraseDups = [a, b] := by simp [List.eraseDups, List.eraseDupsBy, List.eraseDupsBy.loop, h]
theorem nbeq {x y : Nat} (e : x = y) : Nat.beq x y = true := e ▸ Nat.beq_refl x
theorem nott {b : Bool} (h : (!b) = true) : ¬ b = true := fun e => by rw [e] at h; exact nof h
theorem locOf {x : Nat} (fr : FrOk env ns) (h : (ns.lookup (TT x) == some .local) = true) : (env.kindOf (TT x) == some .local) = true := by unfold Env.kindOf; rw [fr.names]; exact h
theorem swapped_some {x y : Nat} {p q : Pos} {a b : Expr} {k k' : Nat} {tp vp : Pos} (fr : FrOk env ns) (h : swapC ns x y p q a b = true) : swappedStores [.Tuple [.Name (TT x) p, .Name (TT y) q] k tp] (.Tuple [a, b] k' vp) env = pure (some [TT x, TT y]) := by
  have ek := aR (aR (aR h))
  unfold swappedStores
  dsimp only
  have hn : ∀ f : Expr → Option Str, f (.Name (TT x) p) = some (TT x) → f (.Name (TT y) q) = some (TT y) → [Expr.Name (TT x) p, .Name (TT y) q].filterMap f = [TT x, TT y] := fun f => fm2
  rw [hn _ ?n1 ?n2]
  case n1 => exact if_pos (Bool.and_eq_true_iff.mpr ⟨locOf fr (aL (aR h)), beq_self_eq_true p.line⟩)
  case n2 => exact if_pos (Bool.and_eq_true_iff.mpr ⟨locOf fr (aL (aR (aR h))), beq_iff_eq.mpr (eq_of_beq (aL ek)).symm⟩)
  refine if5 (by rw [fn_block fr]; exact Bool.false_ne_true) (any2 (K := fun a => notStar a = true) (fun a h => by cases a <;> first | exact nof h | rfl) (aL (aR (aR (aR ek)))) (aR (aR (aR (aR ek))))) ?_ (nott (aL (aR ek))) (nott (aL (aR (aR ek))))
  rw [dups2 (beq_eq_false_iff_ne.mpr fun e => nott (aL h) (nbeq (TT_inj e.symm)))]
  exact Bool.false_ne_true
theorem LRel.ext {l l' : Loc} (r : LRel h Z ρ env l) (e : ∀ x, nsLk l x = nsLk l' x) : LRel h Z ρ env l' := by
  obtain ⟨m, cm, a, b, c⟩ := r
  exact ⟨m, cm, a, b, fun x v q => c x v ((e x).trans q)⟩
theorem SS.swap {x y : Nat} {ts vs : List Expr} {k k' : Nat} {tp vp pos : Pos} {ps : List W2} (hh : A.handled = none) (fr : FrOk env ns) (hs : swapOk ns x y ts vs = true)
    (h : ∀ l, SVL w hb Φ A env l ps vs) : SS w hb Φ A env (fun l σ F X => valsV ps l σ (fun vs σ => opt (asgs [x, y] vs l) fun l' => F.N l' σ) X) (exec (.Assign [.Tuple ts k tp] (.Tuple vs k' vp) pos) env) :=
  swapOk_el (P := fun ts vs => (∀ l, SVL w hb Φ A env l ps vs) → SS w hb Φ A env (fun l σ F X => valsV ps l σ (fun vs σ => opt (asgs [x, y] vs l) fun l' => F.N l' σ) X) (exec (.Assign [.Tuple ts k tp] (.Tuple vs k' vp) pos) env)) (fun p q a b hs h l σ F X wp s Z ρ Q E I O => by
  have ne : x ≠ y := fun e => nott (aL hs) (nbeq e)
  have ky : ns.lookup (TT y) = some .local := eq_of_beq (aL (aR (aR hs)))
  have kx : ns.lookup (TT x) = some .local := eq_of_beq (aL (aR hs))
  have ek := aR (aR (aR (aR (aR (aR hs)))))
  have hst : [a, b].all notStar = true := by rw [List.all_cons, List.all_cons, aL ek, aR ek]; rfl
  refine Assign_Tuple_swapped (names := [TT x, TT y]) ?_ rfl (swapped_some fr hs)
  have tv := SVs.tup (x1 := k') (pos := vp) (show [a, b].length ≤ 100 from Nat.le_of_ble_eq_true rfl) (fun pos => (h l).all (pos := pos) hst)
  refine tv σ (fun v σ => opt (asT (expo v)) fun vs => opt (asgs [x, y] vs l) fun l' => F.N l' σ) X wp s Z ρ _ E I (fun v σ₁ a₁ h₁ Z₁ ρ₁ tk₁ hk₁ I₁ r₁ p₁ => ?_) O.xk
  refine Classical.byContradiction fun go => ?_
  refine opt_el hk₁ fun us eu hk₁ => ?_
  refine opt_el hk₁ fun l' ha hN => ?_
  obtain ⟨va, vb, rfl, rfl⟩ := asgs_two ha
  obtain ⟨t, items, n, rfl, lz, z, e, rr⟩ := (asT_ex eu ▸ r₁.expo).tup_inv
  obtain ⟨a, _, rfl, ra, rr⟩ := rr.cons_inv
  obtain ⟨b, _, rfl, rb, rr⟩ := rr.cons_inv
  obtain rfl := rr.nil_inv
  refine go (unpackItems_tuple (items := [a, b].toArray) hh ⟨_, e, rfl, n, rfl⟩ fun h' he => ?_)
  have kk := ext_keep he
  have I₂ := I₁.keep kk
  show wpAny _ _ (holding [a] (bindName env (TT y) b) >>= fun zz => (holding [] (bindName env (TT x) a) >>= fun zz => pure ())) _ _ _
  have rb' := (post_keep (ex := no) kk).rel I₁.st rb
  have ra' := (post_keep (ex := no) kk).rel I₁.st ra
  refine wpAny_bind (wpAny_holding (bindName_ (store_any (s := { s with heap := h', toks := tk₁ }) fr (.inl ky) I₂ rb' fun h₂ tk₂ I₃ p₃ zz => ?_)))
  refine wpAny_bind (wpAny_holding (bindName_ (store_any (s := { s with heap := h₂, toks := tk₂ }) fr (.inl kx) I₃ (p₃.rel I₂.st ra' (fun a z o => (I₂.lo a o).2.2.1 z)) fun h₄ tk₄ I₄ p₄ zz => wpAny_pure ?_)))
  exact O.n _ σ₁ h₄ Z₁ ρ₁ tk₄ hN ⟨I₄.st, I₄.lr.ext (swap_lk ne), I₄.lo⟩ (((p₁.no.trans (post_keep kk)).trans p₃).trans p₄)) ts vs hs h
theorem gl_eval {g : Nat} {v : Value} {np : Pos} {Q : Value → Shared → Prop} (B : Bs w hb) (fr : FrOk env ns) (hk : ns.lookup (TT g) = some .globalImplicit) (hg : (GL.lookup g).isSome && Nat.blt g 298 || Nat.beq g 208 || Nat.beq g 209) (h1 : GLV g = .glob g) (hl : GL.lookup g = some v) (I : In w hb Φ s.heap Z ρ σ env l)
    (q : ∀ h₁ Z₁ ρ₁ tk₁, In w hb Φ h₁ Z₁ ρ₁ σ env l → Post no s.heap Z ρ h₁ Z₁ ρ₁ → Q v { s with heap := h₁, toks := tk₁ }) : wpAny (model pw w) A (eval (.Name (TT g) np) env) Q E s :=
  VT.gl (k := fun fv σ' => fv = .glob g ∧ σ' = σ) (X := noX) B fr hk hg ⟨h1, rfl⟩ s Z ρ _ E I (fun fv σ₁ f h₁ Z₁ ρ₁ tk₁ hk₁ I₁ r₁ p₁ => by
    obtain ⟨rfl, rfl⟩ := hk₁
    cases Option.some.inj (hl.symm.trans r₁.glob_inv)
    exact q h₁ Z₁ ρ₁ tk₁ I₁ p₁) fun e σ' h' Z' ρ' tk hx => hx.elim
end
end Mine
end
section
open PySem PySem.W PyProof.Rows PySem.Calls
namespace Mine
section
variable {w : World} {hb h₁ h h' h'' h0 : Heap} {Φ : List Env} {A : Around} {σ : Sto} {s : Shared} {Z Z₁ Z' Z'' Z0 : Addr → Prop} {ρ ρ₁ ρ' ρ'' ρ0 : List Addr} {env : Env} {l : Loc} {E : Value → Shared → Prop} {X : KX} {ns : List (Str × NameKind)} {F : Fl}
theorem SS.asgComp {elt iter : Expr} {wpe : Loc → Sto → KE → Prop} {x y : Nat} {px p : Pos} {scope : Scope} {cp pos : Pos} {wi : Loc → Sto → KE → KX → Prop}
    (hh : A.handled = none) (fr : FrOk env ns) (hkx : ns.lookup (TT x) = some .local ∨ ns.lookup (TT x) = some .cell) (hsw : swapB ns x p (.ListComp elt [⟨.Name (TT y) px, iter, [], 0⟩] scope cp) = true) (ck : compOk ns y scope.names = true) (hk : scope.kind = .function) (hst : notSet iter = true)
    (hiter : ∀ l σ k X, wi l σ k X → VT w hb Φ A env l (eval iter env) σ k X)
    (helt : ∀ C, (∀ n c, (n, c) ∈ env.cells → c ≠ C) → ∀ l σ k, wpe l σ k → VT w hb Φ A (compEnvC scope (clOf env.cells scope.names []) C env) l (eval elt (compEnvC scope (clOf env.cells scope.names []) C env)) σ k noX) :
    SS w hb Φ A env (fun l σ F X => wi l σ (fun v σ => opt (itemsOf σ v) fun xs => compV wpe y v xs l (fun v σ => F.N (nsPut l x v) σ) xs [] σ) X) (exec (.Assign [.Name (TT x) p] (.ListComp elt [⟨.Name (TT y) px, iter, [], 0⟩] scope cp) pos) env) := fun l σ F X wp s Z ρ Q E I O => by
  rw [PyProof.Rows.exec_Assign]
  refine wpAny_bind (wpAny_standAt ?_)
  rw [show swapsWithSole [.Name (TT x) p] (.ListComp elt [⟨.Name (TT y) px, iter, [], 0⟩] scope cp) pos.line env = pure true from by show swapsWith (.ListComp elt [⟨.Name (TT y) px, iter, [], 0⟩] scope cp) (some (.Name (TT x) p)) pos.line env = pure true; exact swapsWith_B fr hsw]
  refine wpAny_bind (wpAny_pure ?_)
  rw [if_pos rfl]
  refine wpAny_bind (m := evalThenUse _ _ _) ?_
  show wpAny _ _ (comprehension (.ListComp elt [⟨.Name (TT y) px, iter, [], 0⟩] scope cp) scope env _ (newList []) false (eval iter env) (some fun v => assign (.Name (TT x) p) env v) >>= fun zz => pure ()) _ _ _
  refine wpAny_bind (comp_any hh fr ck hk hst I (hiter l σ · X) helt wp (fun D C h' tk Z' ρ' σ' acc vs m m' q1 q2 q3 q4 q5 q6 q7 q8 q9 q10 => ?_) (fun e σ' h' Z' ρ' tk a b c d => O.xk e σ' h' Z' ρ' tk a b c d))
  show wpAny _ _ (assign (.Name (TT x) p) env (.ref D)) _ _ _
  have nbD : hb.get? D = none := by
    cases q : hb.get? D with
    | none => rfl
    | some o => have := I.st.base _ _ q; rw [q4.1] at this; cases this
  have S3 := q2.st.freeze nbD q4.2.1 q7 (fun e me ef => by
    obtain ⟨_, L, o, p1, _, _, _, p5, _⟩ := I.st.fr e me
    rw [ef] at p1; cases p1
    rw [q4.1] at p5; cases p5)
  have rr : VRels h' (ZP Z' D) ρ' acc vs := q8.mono (fun zz z => .inl z) (fun zz zz e => e) (fun a o zz e => ⟨o, e, Chg.refl⟩)
  have I3 : In w hb Φ h' (ZP Z' D) ρ' σ' env l := I.step (q3.freeze q4.1) S3
  have cown : ∀ a, own env a → a ≠ C := fun a oa e => by
    obtain ⟨_, _, _, o, g⟩ := I.lo a oa
    rw [e, q5.1] at g; cases g
  refine assign_Name (store_any (s := { s with heap := h', toks := tk }) fr hkx I3 (.lst acc D vs m q10 (.inr rfl) q7 rr) fun h₂ tk₂ I₂ p₂ kk => ?_)
  have nsC : h₂.Ns C m' := by
    obtain ⟨o, es, ep, g, r⟩ := q9
    exact ⟨o, es, ep, kk C o (fun e => cown _ own_loc e.symm) (fun n c mc e => cown c (.inr ⟨n, mc⟩) e.symm) g, r⟩
  refine ⟨m', nsC, fun h₃ hs => wpAny_pure (wpAny_pure ?_)⟩
  have hs' : ∀ b o, b ≠ C → h₂.get? b = some o → h₃.get? b = some o := fun b o n e => (hs.2 b n).trans e
  have nzC : ¬ ZP Z' D C := fun z => z.elim q5.2.2 fun e => q6 e.symm
  exact O.n _ _ h₃ _ ρ' tk₂ q1 (In.but I q5.1 I₂ q5.2.1 nzC hs') (((q3.freeze q4.1).no.trans p₂).but q5.1 hs')
theorem itr_rev (hh : A.handled = none) (I y : Addr) (xs : List AV) : Itr2 w hb Φ A I (.lst xs) (.ref y) xs xs.reverse (fun i h => PySem.Heap.IsRevIter h I y ((xs.length : Int) - 1 - (i : Nat))) where
  at_ := fun i h ⟨o, a, b, c⟩ => ⟨o, _, a, c, by rw [b]; simp⟩
  frame := fun i h h' ⟨o, a, b⟩ e => ⟨o, e.trans a, b⟩
  item := fun i z s Z ρ σ Q E j S q e ey zz zz hQ => by
    cases q with
    | lst _ _ vs n lz zz g rr =>
    have hi : i < xs.length := by simpa using (List.getElem?_eq_some_iff.mp ey).1
    have ex : xs[xs.length - 1 - i]? = some z := by
      rw [List.getElem?_reverse hi] at ey; exact ey
    obtain ⟨u, hu, ru⟩ := rr.get ex
    have e1 : (xs.length : Int) - 1 - (i : Int) = ((xs.length - 1 - i : Nat) : Int) := by lia
    rw [e1] at j
    refine wpAny_pyNext_rev_item (items := vs.toArray) j ⟨_, g, rfl, n, rfl⟩ (by simpa using hu) fun h' j' hs => hQ u h' s.toks ?_ hs ru
    have e2 : (xs.length : Int) - 1 - ((i + 1 : Nat) : Int) = ((xs.length - 1 - i : Nat) : Int) - 1 := by lia
    rw [e2]; exact j'
  done := fun s Z ρ σ Q E j S q e zz zz hQ => by
    have : (xs.length : Int) - 1 - ((xs.reverse.length : Nat) : Int) = -1 := by rw [List.length_reverse]; lia
    rw [this] at j
    exact wpAny_pyNext_rev_end hh j fun h' he => hQ h' s.toks fun b o nb e => he b o nb e
noncomputable def one_ (vs : List AV) : Option AV := match vs with
  | [] => none
  | v :: r => match r with
    | [] => some v
    | _ :: _ => none
theorem one_ex {vs : List AV} {v : AV} (h : one_ vs = some v) : vs = [v] := by
  cases vs with
  | nil => exact non h
  | cons x r => cases r with
    | nil => exact congrArg (fun z => [z]) (Option.some.inj h)
    | cons => exact non h
theorem SS.forR {x : Nat} {e : Expr} {b : List Stmt} {px pos fp cp : Pos} {p : W2} {w1 : Loc → Sto → Fl → KX → Prop} (B : Bs w hb) (hh : A.handled = none) (fr : FrOk env ns) (hk : ns.lookup (TT x) = some .local ∨ ns.lookup (TT x) = some .cell) (hrev : ns.lookup (TT 28) = some .globalImplicit) (hs : notStar e = true)
    (h : ∀ l, SVL w hb Φ A env l [p] [e]) (hbody : SS w hb Φ A env w1 (execs b env)) :
    SS w hb Φ A env (fun l σ F X => p.v l σ (fun v σ => opt (asL (expo v)) fun xs => forV (fun l σ F => w1 l σ F noX) x (.lst xs) xs F xs.reverse l σ) X) (exec (.For (.Name (TT x) px) (.Call (.Name (TT 28) fp) [e] [] cp) b [] pos) env) := fun l σ F X wp s Z ρ Q E I O => by
  have hst : [e].all notStar = true := by simp [hs]
  refine wpAny_For ?_ (folded_of rfl)
  have hl : GL.lookup 28 = some (.type "reversed") := by kernel_rfl
  refine Call_ (gl_eval B fr hrev (by decide) rfl hl I fun h₁ Z₁ ρ₁ tk₁ I₁ p₁ => ?_) rfl
  have wp' : valsV [p] l σ (fun vs σ => opt (one_ vs) fun v => opt (asL (expo v)) fun xs => forV (fun l σ F => w1 l σ F noX) x (.lst xs) xs F xs.reverse l σ) X := wp
  refine callWith_any (first := []) hl hst ((h l).all hst σ _ X wp' _ Z₁ ρ₁ _ E I₁ (fun vs σ₂ as₂ h₂ Z₂ ρ₂ tk₂ hk₂ I₂ r₂ p₂ => ⟨B.K I₂.st.base, ?_⟩) (XK.after O.xk p₁))
  refine Classical.byContradiction fun go => ?_
  refine opt_el hk₂ fun v ev hk₂ => ?_
  refine opt_el hk₂ fun xs eu hk₂ => ?_
  have rr := r₂.1
  rw [one_ex ev] at rr
  obtain ⟨a, _, rfl, r, rr⟩ := rr.cons_inv
  obtain rfl := rr.nil_inv
  obtain ⟨y, vs, n, rfl, lz, z, g, rr⟩ := (asL_ex eu ▸ r.expo).lst_inv
  have O₂ := O.after (tk₁ := tk₂) (p₁.no.trans p₂.no)
  refine go (call_reversed_list (s := { s with heap := h₂, toks := tk₂ }) (items := vs.toArray) ⟨_, g, rfl, n, rfl⟩ ?_)
  have j0 : PySem.Heap.IsRevIter (h₂.push (revObj y ((vs.toArray.size : Int) - 1))) h₂.objs.size y ((xs.length : Int) - 1 - ((0 : Nat) : Int)) := ⟨_, Heap.get?_push_size _ rfl, rfl, by rw [rr.length]; simp [revObj]⟩
  refine wpAny_pyIter_revIter j0 ?_
  have nI : h₂.get? h₂.objs.size = none := get_size h₂
  have r0 : VRel h₂ Z₂ ρ₂ (.lst xs) (.ref y) := .lst xs y vs n lz z g rr
  refine for_loop (s := { s with heap := h₂, toks := tk₂ }) (F := F) fr hk nI I₂ (itr_rev hh h₂.objs.size y xs) hbody O₂.n O₂.r (tk₁ := tk₂) ⟨I₂.step (post_push _) (I₂.st.push _), post_push _, j0, ⟨fun m => absurd (I₂.st.mem_lt m) (Nat.lt_irrefl _), fun z => absurd (I₂.st.z_lt z) (Nat.lt_irrefl _)⟩, hk₂, r0.mono (fun zz z => z) (fun zz zz e => e) (std_push _), Nat.zero_le _⟩
end
end Mine
end
section
open PySem PySem.W PyProof.Rows PySem.Calls
namespace Mine
noncomputable def Nudge (Φ : List Env) (h0 : Heap) (Z : Addr → Prop) (ρ : List Addr) (h h' : Heap) : Prop :=
  ∀ b o, h.get? b = some o → ((∃ o0, h0.get? b = some o0) ∨ b ∈ ρ ∨ Z b) → ∃ sl, h'.get? b = some { o with slots := sl } ∧ ((∀ e ∈ Φ, e.frame ≠ some b) → sl = o.slots)
section
variable {w : World} {hb h₁ h h' h'' h0 : Heap} {Φ : List Env} {A : Around} {σ : Sto} {s : Shared} {Z Z₁ Z' Z'' Z0 : Addr → Prop} {ρ ρ₁ ρ' ρ'' ρ0 : List Addr} {env : Env} {l : Loc} {E : Value → Shared → Prop} {ex : Addr → Prop}
theorem Nudge.trans (x : Nudge Φ h0 Z ρ h h') (y : Nudge Φ h0 Z ρ h' h'') : Nudge Φ h0 Z ρ h h'' := fun b o e q => by
  obtain ⟨sl, e1, k1⟩ := x b o e q
  obtain ⟨sl2, e2, k2⟩ := y b _ e1 q
  exact ⟨sl2, e2, fun n => (k2 n).trans (k1 n)⟩
theorem Nudge.same (x : Nudge Φ h0 Z ρ h h') {b : Addr} {o : Obj} (e : h.get? b = some o) (q : (∃ o0, h0.get? b = some o0) ∨ b ∈ ρ ∨ Z b) (n : ∀ e ∈ Φ, e.frame ≠ some b) : h'.get? b = some o := by
  obtain ⟨sl, e1, k1⟩ := x b o e q
  rw [k1 n] at e1; exact e1
theorem St.nudge (S : St w hb Φ h Z ρ σ) (x : Nudge Φ h0 Z ρ h h') (hb0 : ∀ a o, hb.get? a = some o → ∃ o', h0.get? a = some o') (fr0 : ∀ e ∈ Φ, ∀ L, e.frame = some L → ∃ o, h0.get? L = some o) : St w hb Φ h' Z ρ σ := by
  have nz : ∀ a, Z a → ∀ e ∈ Φ, e.frame ≠ some a := fun a z e m q => by
    obtain ⟨_, L, _, p1, _, _, p4, _⟩ := S.fr e m
    rw [q] at p1; cases p1; exact p4 z
  have nr : ∀ a, a ∈ ρ → ∀ e ∈ Φ, e.frame ≠ some a := fun a z e m q => by
    obtain ⟨_, L, _, p1, _, p3, _⟩ := S.fr e m
    rw [q] at p1; cases p1; exact p3 z
  have nb : ∀ a o, hb.get? a = some o → ∀ e ∈ Φ, e.frame ≠ some a := fun a o z e m q => by
    obtain ⟨_, L, _, p1, p2, _⟩ := S.fr e m
    rw [q] at p1; cases p1; rw [p2] at z; cases z
  have sd : Std h Z h' := fun a o z e => ⟨o, x.same e (.inr (.inr z)) (nz a z), Chg.refl⟩
  refine ⟨fun a o e => x.same (S.base a o e) (.inl (hb0 a o e)) (nb a o e), S.len, S.nd, S.sep, S.nb, fun a z => let ⟨o, e⟩ := S.zl a z; ⟨o, x.same e (.inr (.inr z)) (nz a z)⟩, fun i ao e => ?_, fun e m => ?_⟩
  · obtain ⟨a, o, r, g, q⟩ := S.ob i ao e
    have ma := List.mem_of_getElem? r
    exact ⟨a, o, r, x.same g (.inr (.inl ma)) (nr a ma), q.mono (fun zz z => z) (fun zz zz e => e) (Nat.le_refl _) sd⟩
  · obtain ⟨k, L, o, p1, p2, p3, p4, g, cl, nf⟩ := S.fr e m
    obtain ⟨sl, e1, _⟩ := x L o g (.inl (fr0 e m L p1))
    exact ⟨k, L, _, p1, p2, p3, p4, e1, cl, nf⟩
theorem Post.nudge (S : St w hb Φ h Z ρ σ) (p : Post ex h0 Z0 ρ0 h Z ρ) (x : Nudge Φ h0 Z ρ h h') : Post ex h0 Z0 ρ0 h' Z ρ := by
  refine ⟨fun a o e => ?_, p.ext, p.zx, p.zn, fun a o e n ne => ?_⟩
  · obtain ⟨o1, e1⟩ := p.live a o e
    obtain ⟨sl, e2, _⟩ := x a o1 e1 (.inl ⟨o, e⟩)
    exact ⟨_, e2⟩
  · obtain ⟨o1, e1, c1⟩ := p.keep a o e n ne
    obtain ⟨sl, e2, k⟩ := x a o1 e1 (.inl ⟨o, e⟩)
    refine ⟨_, e2, c1.trans (z' := Z0 a) ?_ fun z => z⟩
    by_cases q : ∀ e ∈ Φ, e.frame ≠ some a
    · rw [k q]; exact Chg.refl
    · have : ∃ e ∈ Φ, e.frame = some a := Classical.byContradiction fun n => q fun e m f => n ⟨e, m, f⟩
      obtain ⟨e', m, f⟩ := this
      obtain ⟨_, L, o', p1, _, _, _, g, cl, _⟩ := S.fr e' m
      rw [f] at p1; cases p1
      rw [e1] at g; cases g
      unfold Chg
      rw [if_pos cl]
      exact ⟨rfl, rfl, rfl⟩
theorem In.nudge (I : In w hb Φ h Z ρ σ env l) (x : Nudge Φ h0 Z ρ h h') (hb0 : ∀ a o, hb.get? a = some o → ∃ o', h0.get? a = some o') (fr0 : ∀ e ∈ Φ, ∀ L, e.frame = some L → ∃ o, h0.get? L = some o) (own0 : ∀ a, Mine.own env a → ∃ o, h0.get? a = some o) : In w hb Φ h' Z ρ σ env l := by
  have S' := I.st.nudge x hb0 fr0
  have nz : ∀ a, Z a → ∀ e ∈ Φ, e.frame ≠ some a := fun a z e m q => by
    obtain ⟨_, L, _, p1, _, _, p4, _⟩ := I.st.fr e m
    rw [q] at p1; cases p1; exact p4 z
  have sd : Std h Z h' := fun a o z e => ⟨o, x.same e (.inr (.inr z)) (nz a z), Chg.refl⟩
  refine ⟨S', ?_, fun a o => ?_⟩
  · obtain ⟨m, cm, hm, hc, hl⟩ := I.lr
    refine ⟨m, cm, ?_, fun n c e => ?_, fun y v e => ?_⟩
    · obtain ⟨o, es, ep, g, d, r⟩ := hm
      obtain ⟨sl, e2, _⟩ := x _ o g (.inl (own0 _ own_loc))
      exact ⟨_, es, ep, e2, d, r⟩
    · obtain ⟨o, g, d⟩ := hc n c e
      obtain ⟨sl, e2, _⟩ := x _ o g (.inl (own0 _ (own_cell e)))
      exact ⟨_, e2, d⟩
    · obtain ⟨val, r, p⟩ := hl y v e
      exact ⟨val, r.mono (fun zz z => z) (fun zz zz e => e) sd, p⟩
  · obtain ⟨p1, p2, p3, ob, g⟩ := I.lo a o
    obtain ⟨sl, e2, _⟩ := x a ob g (.inl (own0 a o))
    exact ⟨p1, p2, p3, _, e2⟩
theorem FunFrames.of {base : Heap} (S : St w hb Φ h Z ρ σ) (hbase : ∀ e ∈ Φ, ∀ L, e.frame = some L → base.get? L = none) : h.FunFrames base Φ := by
  have : ∀ l : List Env, (∀ e ∈ l, e ∈ Φ) → h.FunFrames base l := fun l => by
    induction l with
    | nil => intro _; trivial
    | cons a r ih =>
      intro hm
      obtain ⟨k, L, o, p1, p2, p3, p4, g, cl, nf⟩ := S.fr a (hm a (.head _))
      exact ⟨k, ⟨L, o, p1, hbase a (hm a (.head _)) L p1, g, nf⟩, ih fun e m => hm e (.tail _ m)⟩
  exact this Φ fun zz m => m
theorem left_out {bad : List Addr} {x : Addr} {a0 : Value} {h' : Heap} (S : St w hb Φ h Z ρ σ) (lv : ∀ a o, h0.get? a = some o → ∃ o', h.get? a = some o')
    (x0 : h0.get? x = none) (xr : x ∉ ρ) (xz : ¬ Z x) (hbad : ∀ b ∈ bad, (h0.get? b = none ∧ b ∉ ρ ∧ ¬ Z b) ∨ ∃ e ∈ Φ, e.frame = some b)
    (L : Heap.LeftW (hideAll h bad) Φ x (.ref 504) a0 h h') : Nudge Φ h0 Z ρ h h' ∧ Fly h0 h' Z ρ (.ref x) := by
  obtain ⟨k1, k2, ⟨oe, vs, T, oT, ts, q1, ⟨q2, q3⟩, q4, q5, q6, q7, q8, q9, q10⟩, k4⟩ := L
  refine ⟨fun b o e q => ?_, ?_⟩
  · by_cases hb' : b ∈ bad
    · rcases hbad b hb' with ⟨n0, nr, nz⟩ | ⟨e', m, f⟩
      · rcases q with ⟨o0, q⟩ | q | q
        · rw [n0] at q; cases q
        · exact absurd q nr
        · exact absurd q nz
      · obtain ⟨_, L, o', p1, _, _, _, g, cl, nf⟩ := S.fr e' m
        rw [f] at p1; cases p1
        rw [e] at g; cases g
        obtain ⟨sl, hs⟩ := k4 b o e nf
        exact ⟨sl, hs, fun n => absurd f (n e' m)⟩
    · exact ⟨o.slots, k1 b o (hideAll_get _ e hb'), fun zz => rfl⟩
  · have Tn : h0.get? T = none ∧ T ∉ ρ ∧ ¬ Z T := by
      by_cases hb' : T ∈ bad
      · rcases hbad T hb' with r | ⟨e', m, f⟩
        · exact r
        · obtain ⟨_, L, o', p1, _, _, _, g, cl, nf⟩ := S.fr e' m
          rw [f] at p1; cases p1
          obtain ⟨sl, hs⟩ := k4 T o' g nf
          rw [q8] at hs; cases hs
          exact absurd q9 (nf ts)
      · have : h.get? T = none := by
          cases q : h.get? T with
          | none => rfl
          | some o => rw [hideAll_get _ q hb'] at q6; cases q6
        refine ⟨get_none_of lv this, fun m => ?_, fun z => ?_⟩
        · obtain ⟨o, g⟩ := S.mem_get m
          rw [this] at g; cases g
        · obtain ⟨o, g⟩ := S.zl T z
          rw [this] at g; cases g
    exact ⟨x, oe, vs, rfl, x0, xr, xz, q1, q2, q4, .inr ⟨T, oT, ts, q5, Tn.1, q7, Tn.2.1, Tn.2.2, q8, q9, q10⟩⟩
theorem leave_any {Φ' : List Env} {e : Value} {L : Addr} {Q : Unit → Shared → Prop} (hA : A.frames = some (env :: Φ')) (S : St w hb (env :: Φ') s.heap Z ρ σ) (lv : ∀ a o, h0.get? a = some o → ∃ o', s.heap.get? a = some o')
    (F : Fly h0 s.heap Z ρ e) (hL : env.frame = some L) (hQ : ∀ h', Nudge (env :: Φ') h0 Z ρ s.heap h' → Fly h0 h' Z ρ e → Q () { s with heap := h' }) : wpAny (model pw w) A (leaving env e) Q E s := by
  obtain ⟨x, o, vs, rfl, x0, xr, xz, gx, cx, dx, cs⟩ := F
  have frb : ∀ {bad : List Addr}, (∀ b ∈ ((env :: Φ').filterMap (·.frame)), b ∈ bad) → ∀ e ∈ (env :: Φ'), ∀ L, e.frame = some L → (hideAll s.heap bad).get? L = none := fun hm e m L f =>
    hideAll_none _ (hm L (List.mem_filterMap.mpr ⟨e, m, f⟩))
  have inf : ∀ b ∈ ((env :: Φ').filterMap (·.frame)), ∃ e ∈ (env :: Φ'), e.frame = some b := fun b m => by
    obtain ⟨e, m1, m2⟩ := List.mem_filterMap.mp m
    exact ⟨e, m1, m2⟩
  rcases cs with h1 | ⟨tb, ob, tvs, h1, t0, tx, tr, tz, gt, dt, h3⟩
  · have sz : 1 < vs.size := (Array.getElem?_eq_some_iff.mp h1).1
    obtain ⟨a0, ha0⟩ : ∃ a0, vs[0]? = some a0 := ⟨vs[0], Array.getElem?_eq_getElem (by lia)⟩
    refine wpAny_leaving_firstW (base := hideAll s.heap (x :: (env :: Φ').filterMap (·.frame))) hA (FunFrames.of S (frb fun b m => .tail _ m)) hL gx (fun b o e => of_hideAll _ e) (hideAll_none _ (.head _)) dx h1 ha0 fun h' hl => ?_
    rw [cx] at hl
    obtain ⟨n1, n2⟩ := left_out S lv x0 xr xz (fun b m => by
      rcases List.mem_cons.mp m with rfl | m
      · exact .inl ⟨x0, xr, xz⟩
      · exact .inr (inf b m)) hl
    exact hQ h' n1 n2
  · have sz : 1 < vs.size := (Array.getElem?_eq_some_iff.mp h1).1
    obtain ⟨a0, ha0⟩ : ∃ a0, vs[0]? = some a0 := ⟨vs[0], Array.getElem?_eq_getElem (by lia)⟩
    refine wpAny_leaving_nextW (base := hideAll s.heap (x :: tb :: (env :: Φ').filterMap (·.frame))) (cls := .ref 504) (a0 := a0) hA (FunFrames.of S (frb fun b m => .tail _ (.tail _ m))) hL ⟨o, vs, tb, ob, tvs, gx, ⟨cx, ha0⟩, dx, h1, hideAll_none _ (.tail _ (.head _)), tx, gt, dt, h3⟩ (fun b o e => of_hideAll _ e) (hideAll_none _ (.head _)) fun h' hl => ?_
    obtain ⟨n1, n2⟩ := left_out S lv x0 xr xz (fun b m => by
      rcases List.mem_cons.mp m with rfl | m
      · exact .inl ⟨x0, xr, xz⟩
      · rcases List.mem_cons.mp m with rfl | m
        · exact .inl ⟨t0, tr, tz⟩
        · exact .inr (inf b m)) hl
    exact hQ h' n1 n2
theorem land_any {Φ' : List Env} {e : Value} {L : Addr} {Q : Unit → Shared → Prop} (hA : A.frames = some (env :: Φ')) (S : St w hb (env :: Φ') s.heap Z ρ σ) (lv : ∀ a o, h0.get? a = some o → ∃ o', s.heap.get? a = some o')
    (F : Fly h0 s.heap Z ρ e) (hL : env.frame = some L) (hQ : ∀ h', Nudge (env :: Φ') h0 Z ρ s.heap h' → Fly h0 h' Z ρ e → (∃ x o vs tb, e = .ref x ∧ h'.get? x = some o ∧ o.data = .fields vs ∧ vs[1]? = some (.ref tb)) → Q () { s with heap := h' }) :
    wpAny (model pw w) A (noteFrame e env) (fun zz s₂ => wpAny (model pw w) A (setFlight e none) Q E s₂) E s := by
  obtain ⟨x, o, vs, rfl, x0, xr, xz, gx, cx, dx, cs⟩ := F
  have frb : ∀ {bad : List Addr}, (∀ b ∈ ((env :: Φ').filterMap (·.frame)), b ∈ bad) → ∀ e ∈ (env :: Φ'), ∀ L, e.frame = some L → (hideAll s.heap bad).get? L = none := fun hm e m L f =>
    hideAll_none _ (hm L (List.mem_filterMap.mpr ⟨e, m, f⟩))
  have inf : ∀ b ∈ ((env :: Φ').filterMap (·.frame)), ∃ e ∈ (env :: Φ'), e.frame = some b := fun b m => by
    obtain ⟨e, m1, m2⟩ := List.mem_filterMap.mp m
    exact ⟨e, m1, m2⟩
  rcases cs with h1 | ⟨tb, ob, tvs, h1, t0, tx, tr, tz, gt, dt, h3⟩
  · have sz : 1 < vs.size := (Array.getElem?_eq_some_iff.mp h1).1
    obtain ⟨a0, ha0⟩ : ∃ a0, vs[0]? = some a0 := ⟨vs[0], Array.getElem?_eq_getElem (by lia)⟩
    unfold noteFrame
    simp only [hL]
    refine wpAny_bind (wpAny_field gx dx h1 ?_)
    rw [if_neg (by decide)]
    refine wpAny_newEntryW (base := hideAll s.heap (x :: (env :: Φ').filterMap (·.frame))) hA (FunFrames.of S (frb fun b m => .tail _ m)) hL gx (fun b o e => of_hideAll _ e) (hideAll_none _ (.head _)) dx sz ha0 fun h' hl => ?_
    rw [cx] at hl
    obtain ⟨n1, n2⟩ := left_out S lv x0 xr xz (fun b m => by
      rcases List.mem_cons.mp m with rfl | m
      · exact .inl ⟨x0, xr, xz⟩
      · exact .inr (inf b m)) hl
    refine hQ h' n1 n2 ?_
    obtain ⟨_, _, ⟨oe, vs, T, oT, ts, q1, ⟨q2, q3⟩, q4, q5, _⟩, _⟩ := hl
    exact ⟨x, oe, vs, T, rfl, q1, q4, q5⟩
  · have sz : 1 < vs.size := (Array.getElem?_eq_some_iff.mp h1).1
    obtain ⟨a0, ha0⟩ : ∃ a0, vs[0]? = some a0 := ⟨vs[0], Array.getElem?_eq_getElem (by lia)⟩
    refine wpAny_noteFrame_onW (base := hideAll s.heap (x :: tb :: (env :: Φ').filterMap (·.frame))) (cls := .ref 504) (a0 := a0) hA (FunFrames.of S (frb fun b m => .tail _ (.tail _ m))) hL ⟨o, vs, tb, ob, tvs, gx, ⟨cx, ha0⟩, dx, h1, hideAll_none _ (.tail _ (.head _)), tx, gt, dt, h3⟩ (fun b o e => of_hideAll _ e) (hideAll_none _ (.head _)) fun h' hn => ?_
    obtain ⟨k1, k2, k3, k4⟩ := hn
    refine wpAny_setFlight_noneW k1 k2 k3 fun h₂ m1 m2 m3 m4 => ?_
    have hl : Heap.LeftW (hideAll s.heap (x :: tb :: (env :: Φ').filterMap (·.frame))) (env :: Φ') x (.ref 504) a0 s.heap h₂ := ⟨m1, m2, m3, fun b o e nf => by
      obtain ⟨sl, hs⟩ := k4 b o e nf
      exact ⟨sl, m4 b _ hs nf⟩⟩
    obtain ⟨n1, n2⟩ := left_out S lv x0 xr xz (fun b m => by
      rcases List.mem_cons.mp m with rfl | m
      · exact .inl ⟨x0, xr, xz⟩
      · rcases List.mem_cons.mp m with rfl | m
        · exact .inl ⟨t0, tr, tz⟩
        · exact .inr (inf b m)) hl
    refine hQ h₂ n1 n2 ?_
    obtain ⟨oe, vs, T, oT, ts, q1, ⟨q2, q3⟩, q4, q5, _⟩ := m3
    exact ⟨x, oe, vs, T, rfl, q1, q4, q5⟩
end
end Mine
end
section
open PySem PySem.W PyProof.Rows PySem.Calls
namespace Mine
theorem cls_504 : ∀ P : Params, (K P).lookup 504 = some (excClassObj (u "Refusal") (u "Refusal") 504 503 [.ref 484] [.ref 484, .type "Exception", .type "BaseException", .type "object"] true [] [] false none none (some (.ref 488)) none (some (.str (u "Refusal") 842)) (some (.str (u "Refusal") 850)) (some (.bool true)) "Exception.__new__") := by
  intro P; kernel_rfl
section
variable {w : World} {hb h₁ h h' h'' h0 : Heap} {Φ : List Env} {A : Around} {σ : Sto} {s : Shared} {Z Z₁ Z' Z'' Z0 : Addr → Prop} {ρ ρ₁ ρ' ρ'' ρ0 : List Addr} {env : Env} {l : Loc} {E : Value → Shared → Prop} {ex : Addr → Prop} {ns : List (Str × NameKind)} {X : KX}
theorem flight_any {e : Value} {Q : Unit → Shared → Prop} (S : St w hb Φ s.heap Z ρ σ) (lv : ∀ a o, h0.get? a = some o → ∃ o', s.heap.get? a = some o')
    (F : Fly h0 s.heap Z ρ e) (hQ : ∀ h', Nudge Φ h0 Z ρ s.heap h' → Fly h0 h' Z ρ e → Q () { s with heap := h' }) : wpAny (model pw w) A (setFlight e none) Q E s := by
  obtain ⟨x, o, vs, rfl, x0, xr, xz, gx, cx, dx, cs⟩ := id F
  rcases cs with h1 | ⟨tb, ob, tvs, h1, t0, tx, tr, tz, gt, dt, h3⟩
  · unfold setFlight
    refine wpAny_bind (wpAny_field gx dx h1 ?_)
    rw [if_neg (by decide)]
    exact wpAny_pure (hQ s.heap (fun b o e zz => ⟨o.slots, e, fun zz => rfl⟩) F)
  · have sz : 1 < vs.size := (Array.getElem?_eq_some_iff.mp h1).1
    obtain ⟨a0, ha0⟩ : ∃ a0, vs[0]? = some a0 := ⟨vs[0], Array.getElem?_eq_getElem (by lia)⟩
    have frb : ∀ e ∈ Φ, ∀ L, e.frame = some L → (hideAll s.heap (x :: tb :: Φ.filterMap (·.frame))).get? L = none := fun e m L f =>
      hideAll_none _ (.tail _ (.tail _ (List.mem_filterMap.mpr ⟨e, m, f⟩)))
    have inf : ∀ b ∈ (Φ.filterMap (·.frame)), ∃ e ∈ Φ, e.frame = some b := fun b m => by
      obtain ⟨e, m1, m2⟩ := List.mem_filterMap.mp m
      exact ⟨e, m1, m2⟩
    refine wpAny_setFlight_noneW (base := hideAll s.heap (x :: tb :: Φ.filterMap (·.frame))) (cls := .ref 504) (a0 := a0) (fl := .none) (fun b o e => of_hideAll _ e) (FunFrames.of S frb) ⟨o, vs, tb, ob, tvs, gx, ⟨cx, ha0⟩, dx, h1, hideAll_none _ (.tail _ (.head _)), tx, gt, dt, h3⟩ fun h₂ m1 m2 m3 m4 => ?_
    have hl : Heap.LeftW (hideAll s.heap (x :: tb :: Φ.filterMap (·.frame))) Φ x (.ref 504) a0 s.heap h₂ := ⟨m1, m2, m3, fun b o e nf => ⟨o.slots, m4 b _ e nf⟩⟩
    obtain ⟨n1, n2⟩ := left_out S lv x0 xr xz (fun b m => by
      rcases List.mem_cons.mp m with rfl | m
      · exact .inl ⟨x0, xr, xz⟩
      · rcases List.mem_cons.mp m with rfl | m
        · exact .inl ⟨t0, tr, tz⟩
        · exact .inr (inf b m)) hl
    exact hQ h₂ n1 n2
theorem Fly.post {e : Value} (F : Fly h0 h Z ρ e) (p : Post no h Z ρ h' Z' ρ') : Fly h0 h' Z' ρ' e := by
  obtain ⟨x, o, vs, rfl, x0, xr, xz, gx, cx, dx, cs⟩ := F
  obtain ⟨o', g', c⟩ := p.keep x o gx xr id
  have e1 := (c.imp fun z => (xz z)).keep (by rw [cx]; simp)
  subst e1
  obtain ⟨r1, z1⟩ := p.out gx xr xz
  refine ⟨x, o', vs, rfl, x0, r1, z1, g', cx, dx, cs.imp _root_.id fun q => ?_⟩
  obtain ⟨tb, ob, tvs, h1, t0, tx, tr, tz, gt, dt, h3⟩ := q
  obtain ⟨ob', gt', dt'⟩ := p.data gt tr tz id
  obtain ⟨r2, z2⟩ := p.out gt tr tz
  exact ⟨tb, ob', tvs, h1, t0, tx, r2, z2, gt', dt'.trans dt, h3⟩
noncomputable def Top (A : Around) (Φ : List Env) (env : Env) : Prop := A.frames = some Φ ∧ ∃ Φ' L, Φ = env :: Φ' ∧ env.frame = some L
theorem SS.tryN {b : List Stmt} {np rp cp hp pos : Pos} {ck : Nat} {w1 : Loc → Sto → Fl → KX → Prop} (B : Bs w hb) (T : Top A Φ env) (fr : FrOk env ns) (hk : ns.lookup (TT 37) = some .globalImplicit) (h : SS w hb Φ A env w1 (execs b env)) :
    SS w hb Φ A env (fun l σ F zz => w1 l σ F (fun σ => F.R .none σ)) (exec (.Try b [.ExceptHandler (some (.Name (TT 37) np)) none [.Return (some (.Constant .none ck cp)) rp] hp] [] [] pos) env) := fun l σ F X wp s Z ρ Q E I O => by
  obtain ⟨hA, Φ', L, rfl, hL⟩ := T
  refine wpAny_Try_except ?_
  have fr0 : ∀ e ∈ (env :: Φ'), ∀ L, e.frame = some L → ∃ o, s.heap.get? L = some o := fun e m L f => by
    obtain ⟨_, L', o, p1, _, _, _, g, _⟩ := I.st.fr e m
    rw [f] at p1; cases p1; exact ⟨o, g⟩
  have hb0 : ∀ a o, hb.get? a = some o → ∃ o', s.heap.get? a = some o' := fun a o e => ⟨o, I.st.base a o e⟩
  have own0 : ∀ a, own env a → ∃ o, s.heap.get? a = some o := fun a o => (I.lo a o).2.2.2
  refine h l σ F (fun σ => F.R .none σ) wp s Z ρ _ _ I ⟨fun l' σ' h' Z' ρ' tk a b c => wpAny_execs_nil (O.n l' σ' h' Z' ρ' tk a b c), fun v l' σ' a h' Z' ρ' tk b c d e => O.r v l' σ' a h' Z' ρ' tk b c d e, fun l' σ' h' Z' ρ' tk a b c => O.c l' σ' h' Z' ρ' tk a b c, fun e l' σ' h' Z' ρ' tk hX F₁ I' p' => ?_⟩
  refine land_any (s := { s with heap := h', toks := tk }) (h0 := s.heap) hA I'.st p'.live F₁ hL fun h₁ n₁ f₁ zz => ?_
  have I₁ : In w hb (env :: Φ') h₁ Z' ρ' σ' env l' := I'.nudge n₁ hb0 fr0 own0
  have P₁ := p'.nudge I'.st n₁
  refine Classical.byContradiction fun go => ?_
  obtain ⟨x, o, vs, rfl, x0, xr, xz, gx, cx, dx, cs⟩ := id f₁
  refine go (wpAny_handleBy_cons (codeAny_handlers_test ?_) (by intro q; cases q))
  refine gl_eval (v := .ref 504) B fr hk (by decide) rfl (by kernel_rfl) (s := { s with heap := h₁, toks := tk }) I₁ fun h₂ Z₂ ρ₂ tk₂ I₂ p₂ => ?_
  have hC : h₂.get? 504 = some _ := B.K I₂.st.base 504 _ (cls_504 w.params)
  have f₂ := f₁.post p₂
  refine Classical.byContradiction fun go => ?_
  obtain ⟨x₂, o₂, vs₂, ex₂, _, _, _, gx₂, cx₂, _⟩ := id f₂
  cases ex₂
  refine go (wpAny_excMatches_sub_self hC gx₂ cx₂ (by decide) ?_)
  refine codeAny_handlers_suite ?_
  have P₂ := P₁.trans p₂.no
  refine flight_any (s := { s with heap := h₂, toks := tk₂ }) (h0 := s.heap) I₂.st P₂.live f₂ fun h₃ n₃ f₃ => ?_
  have I₃ : In w hb (env :: Φ') h₃ Z₂ ρ₂ σ' env l' := I₂.nudge n₃ hb0 fr0 own0
  have P₃ := P₂.nudge I₂.st n₃
  refine wpAny_execs_cons (wpAny_Return_some (VT.cN (k := fun v σ₂ => v = .none ∧ σ₂ = σ') (X := noX) ⟨rfl, rfl⟩ { s with heap := h₃, toks := tk₂ } Z₂ ρ₂ _ _ I₃ (fun v σ₄ a₄ h₄ Z₄ ρ₄ tk₄ hk₄ I₄ r₄ p₄ => ?_) (fun e σ' h' Z' ρ' tk hx => hx.elim)))
  obtain ⟨rfl, rfl⟩ := hk₄
  exact O.r .none l' σ₄ a₄ h₄ Z₄ ρ₄ tk₄ hX I₄ r₄ (P₃.trans p₄.no)
end
end Mine
end
section
open PySem PySem.W PyProof.Rows PySem.Calls
namespace Mine
noncomputable def okSt : Option NameKind → Bool
  | some .local => true
  | some .cell => true
  | _ => false
noncomputable def onH (a : ExceptHandler) (k : Option Expr → Option Str → List Stmt → Pos → Bool) : Bool := match a with
  | .ExceptHandler ty nm b p => k ty nm b p
@[elab_as_elim] theorem onH_el {P : ExceptHandler → Prop} {k : Option Expr → Option Str → List Stmt → Pos → Bool} (hk : ∀ a b c d, k a b c d = true → P (.ExceptHandler a b c d)) (a : ExceptHandler) (h : onH a k = true) : P a := by
  cases a with
  | ExceptHandler a b c d => exact hk a b c d h
noncomputable def isCmpE : E → Bool
  | .comp _ _ _ => true
  | .wild => true
  | _ => false
theorem isCmpE_el {P : E → Prop} (h1 : P .wild) (h2 : ∀ x y z, P (.comp x y z)) (e : E) (h : isCmpE e = true) : P e := by
  cases e with
  | wild => exact h1
  | comp x y z => exact h2 x y z
  | _ => exact nof h
mutual
noncomputable def chkS (ns : List (Str × NameKind)) : S → Stmt → Bool
  | .bad, _ => true
  | .asg x e, t => onAsg t fun ts a zz => onOne ts fun tg => onName tg fun id p => id == TT x && (okSt (ns.lookup (TT x)) && (chkE ns e a && (notComp a || (swapB ns x p a && isCmpE e))))
  | .asgT xs e, t => onAsg t fun ts a zz => onOne ts fun tg => onTup tg fun elts zz zz => nmE xs elts && ((xs.all fun x => ns.lookup (TT x) == some .local || ns.lookup (TT x) == some .cell) && (notComp a && (notTup a && chkE ns e a)))
  | .swap xs es, t => match xs with
    | [x, y] => onAsg t fun ts a zz => onOne ts fun tg => onTup tg fun elts zz zz => onTup a fun vs zz zz => swapOk ns x y elts vs && chkEs ns es vs
    | _ => false
  | .setA o f e, t => onAsg t fun ts a zz => onOne ts fun tg => onAttr tg fun oe n zz => n == TT f && (AL.contains f && (notComp a && (chkE ns e a && chkE ns o oe)))
  | .setI o i e, t => onAsg t fun ts a zz => onOne ts fun tg => onSub tg fun oe ie zz => notComp a && (chkE ns e a && (chkE ns o oe && chkE ns i ie))
  | .augN x op e, t => onAug t fun tg bop a zz => onName tg fun id zz => id == TT x && (okSt (ns.lookup (TT x)) && (augOpOf op bop && chkE ns e a))
  | .augA o f op e, t => onAug t fun tg bop a zz => onAttr tg fun oe n zz => n == TT f && (AL.contains f && (augOpOf op bop && (chkE ns o oe && chkE ns e a)))
  | .augI o i op e, t => onAug t fun tg bop a zz => onSub tg fun oe ie zz => plainIx ie && (augOpOf op bop && (chkE ns o oe && (chkE ns i ie && chkE ns e a)))
  | .ex e, t => onEx t fun a zz => notComp a && chkE ns e a
  | .ret e, t => onRet t fun v zz => onSome v fun a => chkE ns e a
  | .ret0, t => onRet t fun v zz => v.isNone
  | .ite c a b, t => onIfS t fun te ab bb zz => chkE ns c te && (chkB ns a ab && chkB ns b bb)
  | .forr x it b, t => onFor t fun tg ie bb o zz => onName tg fun id zz => o.isEmpty && (id == TT x && (okSt (ns.lookup (TT x)) && (notSet ie && (chkE ns it ie && chkB ns b bb))))
  | .forR x it b, t => onFor t fun tg ie bb o zz => onName tg fun id zz => onCall ie fun f as kw zz => onName f fun id2 zz => onOne as fun e => kw.isEmpty && (o.isEmpty && (id == TT x && (okSt (ns.lookup (TT x)) && (id2 == TT 28 && (isGl (ns.lookup (TT 28)) && (notStar e && (chkE ns it e && chkB ns b bb)))))))
  | .whil c b, t => onWhl t fun te bb o zz => o.isEmpty && (chkE ns c te && chkB ns b bb)
  | .tryN b, t => onTry t fun bb hs o f zz => onOne hs fun hd => onH hd fun ty nm body zz => onSome ty fun ty => onName ty fun id zz => onOne body fun r => onRet r fun rv zz => onSome rv fun rv => onCon rv fun cv zz zz => cNone cv && (nm.isNone && (o.isEmpty && (f.isEmpty && (id == TT 37 && (isGl (ns.lookup (TT 37)) && chkB ns b bb)))))
  | .rais e, t => onRai t fun x c zz => onSome x fun x => onCall x fun f as kw zz => onName f fun id zz => onOne as fun a => kw.isEmpty && (c.isNone && (id == TT 37 && (isGl (ns.lookup (TT 37)) && (notStar a && chkE ns e a))))
  | .cont, t => onCont t fun zz => true
  | .pass, t => onPass t fun zz => true
noncomputable def chkB (ns : List (Str × NameKind)) : List S → List Stmt → Bool
  | [], ts => ts.isEmpty
  | s :: ss, ts => match ts with
    | t :: ts => chkS ns s t && chkB ns ss ts
    | [] => false
end

section
variable {w : World} {hb : Heap} {Φ : List Env} {A : Around} {C : Calls}
noncomputable def RaisOk (w : World) (hb : Heap) (Φ : List Env) (A : Around) : Prop :=
  ∀ (ns : List (Str × NameKind)) (env : Env) (np cp pos : Pos) (a : Expr) (p : W2), FrOk env ns → ns.lookup (TT 37) = some .globalImplicit → notStar a = true → (∀ l, SVL w hb Φ A env l [p] [a]) →
    SS w hb Φ A env (fun l σ zz X => p.v l σ (fun zz σ => X σ) X) (exec (.Raise (some (.Call (.Name (TT 37) np) [a] [] cp)) none pos) env)
theorem st_ok {k : Option NameKind} (h : okSt k = true) : k = some .local ∨ k = some .cell := by
  rcases k with _ | k
  · exact nof h
  · cases k <;> first | exact nof h | exact .inl rfl | exact .inr rfl
noncomputable def SndS (w : World) (hb : Heap) (Φ : List Env) (A : Around) (C : Calls) (s : S) : Prop := ∀ (ns : List (Str × NameKind)) (t : Stmt), chkS ns s t = true → ∀ (env : Env), FrOk env ns → Top A Φ env → SS w hb Φ A env (wpS C s) (exec t env)
noncomputable def SndB (w : World) (hb : Heap) (Φ : List Env) (A : Around) (C : Calls) (ss : List S) : Prop := ∀ (ns : List (Str × NameKind)) (ts : List Stmt), chkB ns ss ts = true → ∀ (env : Env), FrOk env ns → Top A Φ env → SS w hb Φ A env (wpB C ss) (execs ts env)
theorem SS.imp {env : Env} {w1 w2 : Loc → Sto → Fl → KX → Prop} {t : Sem Flow} (h : SS w hb Φ A env w1 t) (e : ∀ l σ F X, w2 l σ F X → w1 l σ F X) : SS w hb Φ A env w2 t := fun l σ F X wp => h l σ F X (e l σ F X wp)
theorem sv (G : Gnd w hb Φ A C) {e : E} {ns : List (Str × NameKind)} {a : Expr} {env : Env} (h : chkE ns e a = true) (fr : FrOk env ns) (l : Loc) : SV w hb Φ A env l (wp2 C e).v (eval a env) := (snd G e ns a h env l fr).1
theorem st (G : Gnd w hb Φ A C) {e : E} {ns : List (Str × NameKind)} {a : Expr} {env : Env} (h : chkE ns e a = true) (fr : FrOk env ns) (l : Loc) : ST w hb Φ A env l (wp2 C e).t (PySem.isTrue a env (eval a env)) := (snd G e ns a h env l fr).2
theorem svl (G : Gnd w hb Φ A C) {es : List E} {ns : List (Str × NameKind)} {as : List Expr} {env : Env} (h : chkEs ns es as = true) (fr : FrOk env ns) (l : Loc) : SVL w hb Φ A env l (wp2s C es) as := snds G es ns as h env l fr
theorem s_bad : SndS w hb Φ A C .bad := fun ns t h env fr T l σ F X wp => wp.elim
theorem s_cont : SndS w hb Φ A C .cont := fun ns t h env fr T =>
  onCont_el (fun p k => SS.cont) t h
theorem s_pass : SndS w hb Φ A C .pass := fun ns t h env fr T =>
  onPass_el (fun p k => SS.pass) t h
theorem s_ret0 : SndS w hb Φ A C .ret0 := fun ns t h env fr T =>
  onRet_el (fun v p k => none_el v k SS.ret0) t h
theorem s_ret (G : Gnd w hb Φ A C) (e : E) : SndS w hb Φ A C (.ret e) := fun ns t h env fr T =>
  onRet_el (fun v p k => onSome_el (fun a k => SS.ret fun l => sv G k fr l) v k) t h
theorem s_ex (G : Gnd w hb Φ A C) (e : E) : SndS w hb Φ A C (.ex e) := fun ns t h env fr T =>
  onEx_el (fun a p k => SS.exp fr (swaps_of (aL k) _ _ _) fun l => sv G (aR k) fr l) t h
theorem s_ite (G : Gnd w hb Φ A C) (c : E) (a b : List S) (ia : SndB w hb Φ A C a) (ib : SndB w hb Φ A C b) : SndS w hb Φ A C (.ite c a b) := fun ns t h env fr T =>
  onIfS_el (fun te ab bb p k => SS.ite (fun l => st G (aL k) fr l) (ia ns ab (aL (aR k)) env fr T) (ib ns bb (aR (aR k)) env fr T)) t h
theorem s_whil (G : Gnd w hb Φ A C) (c : E) (b : List S) (ib : SndB w hb Φ A C b) : SndS w hb Φ A C (.whil c b) := fun ns t h env fr T =>
  onWhl_el (fun te bb o p k => nil_el o (aL k) (SS.whil (fun l => st G (aL (aR k)) fr l) (ib ns bb (aR (aR k)) env fr T))) t h
theorem s_forr (G : Gnd w hb Φ A C) (x : Nat) (it : E) (b : List S) (ib : SndB w hb Φ A C b) : SndS w hb Φ A C (.forr x it b) := fun ns t h env fr T =>
  onFor_el (fun tg ie bb o p k => onName_el (fun i q k => nil_el o (aL k) (beq_el i (aL (aR k)) (SS.forr G.hh fr (st_ok (aL (aR (aR k)))) (aL (aR (aR (aR k)))) (fun l => sv G (aL (aR (aR (aR (aR k))))) fr l) (ib ns bb (aR (aR (aR (aR (aR k))))) env fr T)))) tg k) t h
theorem s_forR (G : Gnd w hb Φ A C) (x : Nat) (it : E) (b : List S) (ib : SndB w hb Φ A C b) : SndS w hb Φ A C (.forR x it b) := fun ns t h env fr T =>
  onFor_el (fun tg ie bb o p k => onName_el (fun i q k => onCall_el (fun f as kw cp k => onName_el (fun j fp k => onOne_el (fun e k => nil_el kw (aL k) (nil_el o (aL (aR k)) (beq_el i (aL (aR (aR k))) (beq_el j (aL (aR (aR (aR (aR k))))) (SS.forR G.B G.hh fr (st_ok (aL (aR (aR (aR k))))) (ok_gl (aL (aR (aR (aR (aR (aR k))))))) (aL (aR (aR (aR (aR (aR (aR k))))))) (fun l => .cons (sv G (aL (aR (aR (aR (aR (aR (aR (aR k)))))))) fr l) (st G (aL (aR (aR (aR (aR (aR (aR (aR k)))))))) fr l) .nil) (ib ns bb (aR (aR (aR (aR (aR (aR (aR (aR k)))))))) env fr T)))))) as k) f k) ie k) tg k) t h
theorem s_asgc (G : Gnd w hb Φ A C) (x : Nat) {eltE : Expr} {g : Comprehension} {sc : Scope} {q pos p : Pos} {elt it : E} {y : Nat} {ns : List (Str × NameKind)} {env : Env} (fr : FrOk env ns) (ho : okSt (ns.lookup (TT x)) = true) (hs : swapB ns x q (.ListComp eltE [g] sc pos) = true) (k : onName g.target (fun id zz => g.ifs.isEmpty && (decide (g.is_async = 0) && (id == TT y && (compOk ns y sc.names && (isFn sc.kind && (notSet g.iter && (chkE ns it g.iter && chkE (relN ns sc.names) elt eltE))))))) = true) : SS w hb Φ A env (wpS C (.asg x (.comp elt y it))) (exec (.Assign [.Name (TT x) q] (.ListComp eltE [g] sc pos) p) env) := by
  cases g with
  | mk t iter f n =>
  refine onName_el (P := fun t => swapB ns x q (.ListComp eltE [⟨t, iter, f, n⟩] sc pos) = true → SS w hb Φ A env (wpS C (.asg x (.comp elt y it))) (exec (.Assign [.Name (TT x) q] (.ListComp eltE [⟨t, iter, f, n⟩] sc pos) p) env)) (fun i px k hs => ?_) t k hs
  revert hs
  refine nil_el f (aL k) fun hs => ?_
  obtain rfl : n = 0 := of_decide_eq_true (aL (aR k))
  exact beq_el i (aL (aR (aR k))) (SS.asgComp (wi := (wp2 C it).v) G.hh fr (st_ok ho) hs (aL (aR (aR (aR k)))) (kind_fn (aL (aR (aR (aR (aR k)))))) (aL (aR (aR (aR (aR (aR k)))))) (fun l σ q X hk => sv G (aL (aR (aR (aR (aR (aR (aR k))))))) fr l _ _ _ hk) (fun Cc hC l σ q hk => (snd G elt _ _ (aR (aR (aR (aR (aR (aR (aR k))))))) _ l (fr.comp (aL (aR (aR (aR k)))) (kind_fn (aL (aR (aR (aR (aR k)))))) hC)).1 _ _ _ hk))
theorem s_asg (G : Gnd w hb Φ A C) (x : Nat) (e : E) : SndS w hb Φ A C (.asg x e) := fun ns t h env fr T =>
  onAsg_el (fun ts a p k => onOne_el (fun tg k => onName_el (fun i q k => beq_el i (aL k) (or_el (aR (aR (aR k))) (fun c => SS.asg fr (st_ok (aL (aR k))) (swaps_of c _ _ _) fun l => sv G (aL (aR (aR k))) fr l)
    (fun c => isCmpE_el (P := fun e => chkE ns e a = true → SS w hb Φ A env (wpS C (.asg x e)) (exec (.Assign [.Name (TT x) q] a p) env)) (fun zz l σ F X wp => wp.elim) (fun elt y it h3 => onLC_el (P := fun b => a = b → SS w hb Φ A env (wpS C (.asg x (.comp elt y it))) (exec (.Assign [.Name (TT x) q] b p) env)) (fun eltE gs sc pos k2 ea => onOne_el (P := fun gs => a = .ListComp eltE gs sc pos → SS w hb Φ A env (wpS C (.asg x (.comp elt y it))) (exec (.Assign [.Name (TT x) q] (.ListComp eltE gs sc pos) p) env)) (fun g k2 ea => s_asgc G x fr (aL (aR k)) (ea ▸ aL c) k2) gs k2 ea) a h3 rfl) e (aR c) (aL (aR (aR k)))))) tg k) ts k) t h
theorem s_asgT (G : Gnd w hb Φ A C) (xs : List Nat) (e : E) : SndS w hb Φ A C (.asgT xs e) := fun ns t h env fr T =>
  onAsg_el (fun ts a p k => onOne_el (fun tg k => onTup_el (fun elts i q k => SS.asgT G.hh fr (aL k) (aL (aR k)) (aL (aR (aR k))) (aL (aR (aR (aR k)))) fun l => sv G (aR (aR (aR (aR k)))) fr l) tg k) ts k) t h
theorem s_swap (G : Gnd w hb Φ A C) (xs : List Nat) (es : List E) : SndS w hb Φ A C (.swap xs es) := fun ns t h env fr T => by
  cases xs with
  | nil => exact nof h
  | cons x xs =>
  cases xs with
  | nil => exact nof h
  | cons y xs =>
  cases xs with
  | cons _ _ => exact nof h
  | nil => exact onAsg_el (fun ts a p k => onOne_el (fun tg k => onTup_el (fun elts i q k => onTup_el (fun vs j r k => SS.swap G.hh fr (aL k) fun l => svl G (aR k) fr l) a k) tg k) ts k) t h
theorem s_setA (G : Gnd w hb Φ A C) (o : E) (f : Nat) (e : E) : SndS w hb Φ A C (.setA o f e) := fun ns t h env fr T =>
  onAsg_el (fun ts a p k => onOne_el (fun tg k => onAttr_el (fun oe n q k => beq_el n (aL k) (SS.setA G.B (List.contains_iff_mem.mp (aL (aR k))) (aL (aR (aR k))) (fun l => sv G (aL (aR (aR (aR k)))) fr l) (fun l => sv G (aR (aR (aR (aR k)))) fr l))) tg k) ts k) t h
theorem s_setI (G : Gnd w hb Φ A C) (o i e : E) : SndS w hb Φ A C (.setI o i e) := fun ns t h env fr T =>
  onAsg_el (fun ts a p k => onOne_el (fun tg k => onSub_el (fun oe ie q k => SS.setI (aL k) (fun l => sv G (aL (aR k)) fr l) (fun l => sv G (aL (aR (aR k))) fr l) (fun l => sv G (aR (aR (aR k))) fr l)) tg k) ts k) t h
theorem s_augN (G : Gnd w hb Φ A C) (x op : Nat) (e : E) : SndS w hb Φ A C (.augN x op e) := fun ns t h env fr T =>
  onAug_el (fun tg bop a p k => onName_el (fun i q k => beq_el i (aL k) (SS.augN fr (st_ok (aL (aR k))) (aL (aR (aR k))) fun l => sv G (aR (aR (aR k))) fr l)) tg k) t h
theorem s_augA (G : Gnd w hb Φ A C) (o : E) (f op : Nat) (e : E) : SndS w hb Φ A C (.augA o f op e) := fun ns t h env fr T =>
  onAug_el (fun tg bop a p k => onAttr_el (fun oe n q k => beq_el n (aL k) (SS.augA G.B (List.contains_iff_mem.mp (aL (aR k))) (aL (aR (aR k))) (fun l => sv G (aL (aR (aR (aR k)))) fr l) (fun l => sv G (aR (aR (aR (aR k)))) fr l))) tg k) t h
theorem s_augI (G : Gnd w hb Φ A C) (o i : E) (op : Nat) (e : E) : SndS w hb Φ A C (.augI o i op e) := fun ns t h env fr T =>
  onAug_el (fun tg bop a p k => onSub_el (fun oe ie q k => SS.augI (aL k) (aL (aR k)) (fun l => sv G (aL (aR (aR k))) fr l) (fun l => sv G (aL (aR (aR (aR k)))) fr l) (fun l => sv G (aR (aR (aR (aR k)))) fr l)) tg k) t h
theorem s_tryN (G : Gnd w hb Φ A C) (b : List S) (ib : SndB w hb Φ A C b) : SndS w hb Φ A C (.tryN b) := fun ns t h env fr T =>
  onTry_el (fun bb hs o f p k => onOne_el (fun hd k => onH_el (fun ty nm body hp k => onSome_el (fun ty k => onName_el (fun i np k => onOne_el (fun r k => onRet_el (fun rv rp k => onSome_el (fun rv k => onCon_el (fun cv j cp k => cNone_el cv (aL k) (none_el nm (aL (aR k)) (nil_el o (aL (aR (aR k))) (nil_el f (aL (aR (aR (aR k)))) (beq_el i (aL (aR (aR (aR (aR k))))) (SS.tryN G.B T fr (ok_gl (aL (aR (aR (aR (aR (aR k))))))) (ib ns bb (aR (aR (aR (aR (aR (aR k)))))) env fr T))))))) rv k) rv k) r k) body k) ty k) ty k) hd k) hs k) t h
theorem s_rais (G : Gnd w hb Φ A C) (R : RaisOk w hb Φ A) (e : E) : SndS w hb Φ A C (.rais e) := fun ns t h env fr T =>
  onRai_el (fun x c p k => onSome_el (fun x k => onCall_el (fun f as kw cp k => onName_el (fun i np k => onOne_el (fun a k => nil_el kw (aL k) (none_el c (aL (aR k)) (beq_el i (aL (aR (aR k))) (R ns env np cp p a (wp2 C e) fr (ok_gl (aL (aR (aR (aR k))))) (aL (aR (aR (aR (aR k))))) fun l => .cons (sv G (aR (aR (aR (aR (aR k))))) fr l) (st G (aR (aR (aR (aR (aR k))))) fr l) .nil)))) as k) f k) x k) x k) t h
theorem b_nil : SndB w hb Φ A C [] := fun ns ts h env fr T => nil_el ts h SS.nil
theorem b_cons (s : S) (ss : List S) (i1 : SndS w hb Φ A C s) (i2 : SndB w hb Φ A C ss) : SndB w hb Φ A C (s :: ss) := fun ns ts h env fr T => by
  cases ts with
  | nil => exact nof h
  | cons t ts => exact SS.cons (w1 := wpS C s) (w2 := wpB C ss) (i1 ns t (aL h) env fr T) (i2 ns ts (aR h) env fr T)
theorem sndS (G : Gnd w hb Φ A C) (R : RaisOk w hb Φ A) (s : S) : SndS w hb Φ A C s :=
  S.rec (motive_1 := SndS w hb Φ A C) (motive_2 := SndB w hb Φ A C) (s_asg G) (s_asgT G) (s_swap G) (s_setA G) (s_setI G) (s_augN G) (s_augA G) (s_augI G) (s_ex G) (s_ret G) s_ret0 (s_ite G) (s_forr G) (s_forR G) (s_whil G) (s_tryN G) (s_rais G R) s_cont s_pass s_bad b_nil b_cons s
theorem sndB (G : Gnd w hb Φ A C) (R : RaisOk w hb Φ A) : ∀ ss, SndB w hb Φ A C ss
  | [] => b_nil
  | s :: ss => b_cons s ss (sndS G R s) (sndB G R ss)
end
end Mine
end
section
open PySem PySem.W PyProof.Rows PySem.Calls
namespace Mine
theorem cells_has : ∀ {names : List (Str × NameKind)} {k : Nat} {acc : List (Str × Addr)} {n : Str}, (n, NameKind.cell) ∈ names ∨ (∃ c, (n, c) ∈ acc) → ∃ c, (n, c) ∈ cellsFrom k names acc
  | [], k, acc, n, h => by
    rcases h with h | h
    · cases h
    · exact h
  | (m, kd) :: r, k, acc, n, h => by
    unfold cellsFrom
    by_cases hk : (kd == NameKind.cell) = true
    · rw [if_pos hk]
      refine cells_has ?_
      rcases h with h | ⟨c, h⟩
      · rcases List.mem_cons.mp h with e | h
        · cases e; exact .inr ⟨k, .head _⟩
        · exact .inl h
      · exact .inr ⟨c, .tail _ h⟩
    · rw [if_neg hk]
      refine cells_has ?_
      rcases h with h | h
      · rcases List.mem_cons.mp h with e | h
        · cases e; simp at hk
        · exact .inl h
      · exact .inr h
noncomputable def binL : List Nat → List AV → Loc → Loc
  | p :: ps, v :: vs, l => binL ps vs (nsPut l p v)
  | _, _, l => l
section
variable {w : World} {hb h₁ h h' h'' h0 : Heap} {Φ : List Env} {A : Around} {σ : Sto} {s : Shared} {Z Z₁ Z' Z'' Z0 : Addr → Prop} {ρ ρ₁ ρ' ρ'' ρ0 : List Addr} {env : Env} {l : Loc} {E : Value → Shared → Prop} {ex : Addr → Prop} {ns : List (Str × NameKind)} {X : KX}
theorem Post.drop (p : Post ex h Z ρ h' Z' ρ') (n : ∀ a, ex a → h.get? a = none) : Post Mine.no h Z ρ h' Z' ρ' :=
  ⟨p.live, p.ext, p.zx, p.zn, fun a o e nr zz => p.keep a o e nr fun x => by rw [n a x] at e; cases e⟩
theorem bind_loop (fr : FrOk env ns) (f : Str × Value → PUnit → Sem (ForInStep PUnit)) (hf : ∀ n v u, f (n, v) u = (do storeName env n v; pure (.yield ⟨⟩))) {Q : PUnit → Shared → Prop}
    {ps : List Nat} {vs : List AV} {vals : List Value} {l : Loc} {s : Shared} (hl : vs.length = ps.length) (hk : (ps.all fun x => okSt (ns.lookup (TT x))) = true) (I : In w hb Φ s.heap Z ρ σ env l) (r : VRels s.heap Z ρ vs vals)
    (hQ : ∀ h' tk, In w hb Φ h' Z ρ σ env (binL ps vs l) → Post (own env) s.heap Z ρ h' Z ρ → Q ⟨⟩ { s with heap := h', toks := tk }) : wpAny (model pw w) A (forIn ((ps.map TT).zip vals) ⟨⟩ f) Q E s := by
  induction ps generalizing vs vals l s with
  | nil =>
    cases vs with
    | cons _ _ => cases hl
    | nil => exact wpAny_pure (hQ s.heap s.toks I Post.refl)
  | cons p ps ih =>
    cases vs with
    | nil => cases hl
    | cons v vs =>
    refine r.cons_el fun a as r rs => ?_
    show wpAny _ _ (forIn ((TT p, a) :: (ps.map TT).zip as) ⟨⟩ f) _ _ _
    rw [List.forIn_cons, hf]
    refine wpAny_bind (wpAny_bind (store_any fr (st_ok (aL hk)) I r fun h₁ tk₁ I₁ p₁ zz => wpAny_pure ?_))
    exact ih (s := { s with heap := h₁, toks := tk₁ }) (Nat.succ.inj hl) (aR hk) I₁ (p₁.rels I.st rs (fun a z o => (I.lo a o).2.2.1 z)) fun h₂ tk₂ I₂ p₂ => hQ h₂ tk₂ I₂ (p₁.trans p₂)
theorem enter {scope : Scope} {ps : List Nat} {vs : List AV} {vals : List Value} {qual : Str} {a : Addr} {code : Value} {Q : Env → Shared → Prop} (S : St w hb Φ s.heap Z ρ σ) (hk : scope.kind = .function) (nf : (scope.names.all fun q => !(q.2 == .free)) = true)
    (hl : vs.length = ps.length) (hp : (ps.all fun x => okSt (scope.names.lookup (TT x))) = true) (r : VRels s.heap Z ρ vs vals)
    (hQ : ∀ env h' tk, FrOk env scope.names → env.frame = some s.heap.objs.size → (∀ b, own env b → s.heap.get? b = none) → In w hb (env :: Φ) h' Z ρ σ env (binL ps vs []) → Post no s.heap Z ρ h' Z ρ → env = newEnv scope s.heap.objs.size mainGlobals (cellsFrom (s.heap.objs.size + 1) scope.names []) qual (some a) code none builtinsNs → Q env { s with heap := h', toks := tk }) :
    wpAny (model pw w) A (newFunctionEnv scope mainGlobals [] ((ps.map TT).zip vals) qual (some a) code none builtinsNs) Q E s := by
  simp only [newFunctionEnv, Option.isSome_none, Bool.false_eq_true, if_false]
  refine wpAny_bind (wpAny_alloc ?_)
  refine wpAny_bind (wpAny_layCells _ (fun name kind cells => by cases hkc : kind == NameKind.cell <;> simp [hkc]) _ _ _ _ ?_)
  have ok := cellsFrom_ok scope.names (s.heap.push { cls := .type "frame", data := .dict #[] }) (s.heap.objs.size + 1) [] ⟨fun zz zz hm => (nomatch hm), List.Pairwise.nil⟩ (by rw [Heap.size_push]; exact Nat.le_refl _)
  rw [Heap.size_push] at ok
  rw [show ({ s with heap := s.heap.push { cls := .type "frame", data := .dict #[] } } : Shared).heap.objs.size = s.heap.objs.size + 1 from Heap.size_push ..]
  generalize he : newEnv scope s.heap.objs.size mainGlobals (cellsFrom (s.heap.objs.size + 1) scope.names []) qual (some a) code none builtinsNs = env
  have e1 : env.scope = scope := by rw [← he]; rfl
  have e2 : env.locals = s.heap.objs.size := by rw [← he]; rfl
  have e3 : env.cells = cellsFrom (s.heap.objs.size + 1) scope.names [] := by rw [← he]; rfl
  have e4 : env.frame = some s.heap.objs.size := by rw [← he]; rfl
  have kk : ∀ b o, s.heap.get? b = some o → (pushCells (s.heap.push { cls := .type "frame", data := .dict #[] }) scope.names).get? b = some o := fun b o e => pushCells_keeps _ _ b o (Heap.get?_push_of_some _ e)
  have gL : (pushCells (s.heap.push { cls := .type "frame", data := .dict #[] }) scope.names).get? s.heap.objs.size = some { cls := .type "frame", data := .dict #[] } := pushCells_keeps _ _ _ _ (Heap.get?_push_size _ rfl)
  have nsL : (pushCells (s.heap.push { cls := .type "frame", data := .dict #[] }) scope.names).Ns s.heap.objs.size (fun zz => none) := (Heap.Ns.new s.heap (.type "frame")).keeps (pushCells_keeps _ _)
  generalize (pushCells (s.heap.push { cls := .type "frame", data := .dict #[] }) scope.names) = H at ok kk gL nsL ⊢
  have big : ∀ b, s.heap.objs.size ≤ b → s.heap.get? b = none := fun b hb' => by
    cases q : s.heap.get? b with
    | none => rfl
    | some o => exact absurd (Heap.lt_size q) (Nat.not_lt.mpr hb')
  have cab : ∀ n c, (n, c) ∈ env.cells → s.heap.objs.size + 1 ≤ c := fun n c m => (ok.empty n c (by rw [← e3]; exact m)).2
  have fr : FrOk env scope.names := by
    refine ⟨by rw [e1], by rw [e1]; exact hk, by rw [← he]; rfl, by rw [← he]; rfl, by rw [e3]; exact ok.apart, fun n c m => ?_, fun n h => ?_⟩
    · rw [e2]
      exact Nat.ne_of_gt (Nat.lt_of_lt_of_le (Nat.lt_succ_self _) (cab n c m))
    · rcases h with h | h
      · obtain ⟨c, hc⟩ := cells_has (k := s.heap.objs.size + 1) (acc := []) (.inl (mem_of_lookup h))
        rw [e3]; exact lookup_of_mem hc
      · have := List.all_eq_true.mp nf _ (mem_of_lookup h)
        simp at this
  have ownb : ∀ b, own env b → s.heap.objs.size ≤ b := fun b o => by
    rcases o with rfl | ⟨n, m⟩
    · rw [e2]; exact Nat.le_refl _
    · exact Nat.le_of_succ_le (cab n b m)
  have ownn : ∀ b, own env b → s.heap.get? b = none := fun b o => big b (ownb b o)
  have S₁ := S.keep kk
  have hbn : ∀ b, own env b → hb.get? b = none := fun b o => by
    cases q : hb.get? b with
    | none => rfl
    | some x => have := S.base _ _ q; rw [ownn b o] at this; cases this
  have nr : ∀ b, own env b → b ∉ ρ := fun b o m => absurd (S.mem_lt m) (Nat.not_lt.mpr (ownb b o))
  have nz : ∀ b, own env b → ¬ Z b := fun b o m => absurd (S.z_lt m) (Nat.not_lt.mpr (ownb b o))
  have S₂ : St w hb (env :: Φ) H Z ρ σ := ⟨S₁.base, S₁.len, S₁.nd, S₁.sep, S₁.nb, S₁.zl, S₁.ob, fun e m => by
    rcases List.mem_cons.mp m with rfl | m
    · have ol : own e e.locals := own_loc
      exact ⟨by rw [e1, hk]; decide, e.locals, _, by rw [e4, e2], hbn _ ol, nr _ ol, nz _ ol, by rw [e2]; exact gL, rfl, fun vs q => by cases q⟩
    · exact S₁.fr e m⟩
  have I : In w hb (env :: Φ) H Z ρ σ env [] := ⟨S₂, ⟨fun zz => none, fun zz => none, by rw [e2]; exact nsL, fun n c hc => (ok.empty n c (by rw [← e3]; exact mem_of_lookup hc)).1, fun x v e => by simp [nsLk] at e⟩, fun b o => ⟨hbn b o, nr b o, nz b o, by
    rcases o with rfl | ⟨n, m⟩
    · exact ⟨_, by rw [e2]; exact gL⟩
    · obtain ⟨ob, g, _⟩ := (ok.empty n b (by rw [← e3]; exact m)).1
      exact ⟨ob, g⟩⟩⟩
  have he' : env = newEnv scope s.heap.objs.size mainGlobals (cellsFrom (s.heap.objs.size + 1) scope.names []) qual (some a) code none builtinsNs := he.symm
  refine wpAny_bind (bind_loop (s := { s with heap := H }) (env := env) fr _ (fun n v u => by rw [← he]; rfl) hl hp I (r.mono (fun zz z => z) (fun zz zz e => e) (fun a o zz e => ⟨o, kk a o e, Chg.refl⟩)) fun h' tk I' p' => wpAny_pure ?_)
  have P : Post no s.heap Z ρ h' Z ρ := ((post_keep (ex := own env) kk).trans p').drop ownn
  refine cast ?_ (hQ env h' tk fr e4 ownn I' P he')
  rw [← he]; rfl
end
end Mine
end
section
open PySem PySem.W PyProof.Rows PySem.Calls
namespace Mine
section
variable {w : World} {hb h₁ h h' h'' h0 : Heap} {Φ : List Env} {A : Around} {σ σ' σ'' : Sto} {s : Shared} {Z Z₁ Z' Z'' Z0 : Addr → Prop} {ρ ρ₁ ρ' ρ'' ρ0 : List Addr} {env : Env} {l : Loc} {E : Value → Shared → Prop} {ex : Addr → Prop} {ns : List (Str × NameKind)} {X : KX}
theorem FRel.bnds' {ks : List Nat} {fs : List AV} {es : List DictEntry} (r : FRel h Z ρ ks fs es) : bnds ρ.length fs = true := r.bnd
theorem bnds_of_all {n : Nat} : ∀ {xs : List AV}, (∀ v ∈ xs, bnd n v = true) → bnds n xs = true
  | [], _ => rfl
  | x :: xs, h => by
    simp only [bnds, Bool.and_eq_true]
    exact ⟨h x (.head _), bnds_of_all fun v m => h v (.tail _ m)⟩
theorem bnds_mem {n : Nat} : ∀ {xs : List AV}, bnds n xs = true → ∀ v ∈ xs, bnd n v = true
  | x :: xs, h, v, m => by
    simp only [bnds, Bool.and_eq_true] at h
    rcases List.mem_cons.mp m with rfl | m
    · exact h.1
    · exact bnds_mem h.2 v m
theorem ORel.bnd {ao : AO} {o : Obj} (r : ORel w h Z ρ ao o) : bndO ρ.length ao = true := by
  cases ao with
  | list xs => obtain ⟨vs, n, _, r, _⟩ := r; exact r.bnd
  | ns kvs => obtain ⟨es, n, _, r, _⟩ := r; exact r.bnd
  | inst c d => obtain ⟨a, e, _⟩ := r; exact Nat.blt_eq.mpr (List.getElem?_eq_some_iff.mp e).1
  | dict kvs =>
    obtain ⟨P, _, _, _, b⟩ := r
    refine bnds_of_all fun v m => ?_
    obtain ⟨p, mp, rfl⟩ := List.mem_map.mp m
    exact b p mp
  | idict ks => rfl
theorem nsLk_mem : ∀ {kvs : List (Nat × AV)} {k : Nat} {v : AV}, nsLk kvs k = some v → v ∈ kvs.map (·.2)
  | p :: r, k, v, e => by
    unfold nsLk at e
    split at e
    · cases e; exact .head _
    · exact .tail _ (nsLk_mem e)
theorem ORel.cut {n : Nat} {ao : AO} {o : Obj} (hn : n ≤ ρ.length) (r : ORel w h Z ρ ao o) (b : bndO n ao = true) : ORel w h Z (ρ.take n) ao o := by
  cases ao with
  | list xs => obtain ⟨vs, m, e, r, z⟩ := r; exact ⟨vs, m, e, VRels.cut n r b, z⟩
  | ns kvs => obtain ⟨es, m, e, r, z⟩ := r; exact ⟨es, m, e, FRel.cut n r b, z⟩
  | inst c d => obtain ⟨a, e, q⟩ := r; exact ⟨a, by rw [List.getElem?_take_of_lt (Nat.blt_eq.mp b)]; exact e, q⟩
  | dict kvs =>
    obtain ⟨P, q1, q2, q3, q4⟩ := r
    refine ⟨P, q1, fun k v e => ?_, q3, fun v m => ?_⟩
    · obtain ⟨val, e1, r1⟩ := q2 k v e
      exact ⟨val, e1, VRel.cut n r1 (bnds_mem b v (nsLk_mem e))⟩
    · rw [List.length_take, Nat.min_eq_left hn]
      exact bnds_mem b v.2 (List.mem_map.mpr ⟨v, m, rfl⟩)
  | idict ks => exact r
theorem cut_ok {N : Addr → Prop} (S : St w hb Φ h Z ρ σ) (S' : St w hb Φ h' Z' ρ' σ') (P : Post Mine.no h Z ρ h' Z' ρ') (hN : ∀ a, N a → ∃ i : Nat, σ.length ≤ i ∧ ρ'[i]? = some a) (C : Cut σ σ' σ'') :
    St w hb Φ h' (fun a => Z' a ∨ N a) ρ σ'' ∧ Post Mine.no h Z ρ h' (fun a => Z' a ∨ N a) ρ := by
  obtain ⟨e, re, be⟩ := P.ext
  obtain ⟨c1, c2⟩ := C
  have ln : ρ.length = σ.length := S.len
  have tk : ρ'.take σ.length = ρ := by rw [re, ← ln]; simp
  have le : σ.length ≤ ρ'.length := by rw [re, ← ln]; simp
  have sub : ∀ a, a ∈ ρ → a ∈ ρ' := fun a m => by rw [re]; exact List.mem_append_left _ m
  have nin : ∀ a, N a → a ∉ ρ ∧ a ∈ ρ' ∧ h.get? a = none := fun a n => by
    obtain ⟨i, hi, g⟩ := hN a n
    rw [re, List.getElem?_append_right (by lia)] at g
    have me := List.mem_of_getElem? g
    refine ⟨fun m => ?_, by rw [re]; exact List.mem_append_right _ me, be a me⟩
    obtain ⟨o, g⟩ := S.mem_get m
    rw [be a me] at g; cases g
  have sd : Std h' Z' h' := fun b o z e => ⟨o, e, Chg.refl⟩
  refine ⟨⟨S'.base, by rw [ln, c1], S.nd, fun a m z => z.elim (S'.sep a (sub a m)) fun n => (nin a n).1 m, fun a m => ?_, fun a z => z.elim (S'.zl a) fun n => S'.mem_get (nin a n).2.1, fun i ao e => ?_, fun e m => ?_⟩,
    ⟨P.live, ⟨[], by simp, by simp⟩, fun a z => .inl (P.zx a z), fun a z => z.elim (P.zn a) fun n => .inr (nin a n).2.2, P.keep⟩⟩
  · rcases m with m | m | m
    · exact S.nb a (.inl m)
    · exact S'.nb a (.inr m)
    · exact S'.nb a (.inl (nin a m).2.1)
  · have hi : i < σ.length := by rw [← c1]; exact (List.getElem?_eq_some_iff.mp e).1
    obtain ⟨d1, d2⟩ := c2 i hi
    have e' : σ'[i]? = some ao := d1.trans e
    obtain ⟨a, o, r, g, q⟩ := S'.ob i ao e'
    have bo : bndO σ.length ao = true := by
      rcases d2 with d2 | ⟨ao', d2, b⟩
      · rw [e] at d2
        obtain ⟨_, _, _, _, q0⟩ := S.ob i ao d2.symm
        have := q0.bnd
        rwa [ln] at this
      · rw [e] at d2; cases d2; exact b
    have q2 := q.cut le bo
    rw [tk] at q2
    have r2 : ρ[i]? = some a := by
      rw [re, List.getElem?_append_left (by lia)] at r; exact r
    exact ⟨a, o, r2, g, q2.mono (fun zz z => .inl z) (fun zz zz e => e) (Nat.le_refl _) sd⟩
  · obtain ⟨k, L, o, p1, p2, p3, p4, p5⟩ := S'.fr e m
    exact ⟨k, L, o, p1, p2, fun m => p3 (sub L m), fun z => z.elim p4 fun n => p3 (nin L n).2.1, p5⟩
theorem FRel.fin_ns {kvs : List (Nat × AV)} {es : List DictEntry} (r : FRel h Z ρ (kvs.map (·.1)) (kvs.map (·.2)) es) (hh : (Nat.ble 5 kvs.length && Nat.beq ((kvs.map (·.1)).getD 3 0) 3) = false) : ¬ isShared es := by
  rintro ⟨e0, e1, e2, e3, e4, t, rfl, hk⟩
  have ln := r.len
  rw [List.length_map] at ln
  obtain ⟨k, u, e, hk'⟩ := r.key_at (i := 3) rfl
  have k3 : k = 3 := TT_inj (Value.str.inj (hk'.symm.trans hk)).1
  rw [← ln, List.getD_eq_getElem?_getD, e, k3] at hh
  exact nomatch hh
theorem fz_ok {v v1 : AV} {a : Value} (S : St w hb Φ h Z ρ σ) (S' : St w hb Φ h' Z' ρ' σ') (P : Post Mine.no h Z ρ h' Z' ρ') (f : Fz σ.length σ' v v1) (r : VRel h' Z' ρ' v a) :
    ∃ N : Addr → Prop, (∀ a, N a → ∃ i : Nat, σ.length ≤ i ∧ ρ'[i]? = some a) ∧ VRel h' (fun a => Z' a ∨ N a) ρ' v1 a := by
  have sd : Std h' Z' h' := fun b o z e => ⟨o, e, Chg.refl⟩
  cases f with
  | refl => exact ⟨fun zz => False, fun zz x => x.elim, r.mono (fun zz z => .inl z) (fun zz zz e => e) sd⟩
  | list i xs hi e =>
    refine r.loc_el fun b eb => ?_
    obtain ⟨b', o, rb, g, vs, n, rfl, rr, lz⟩ := S'.ob _ _ e
    cases Option.some.inj (eb.symm.trans rb)
    exact ⟨fun a => a = b, fun a q => ⟨i, hi, by rw [q]; exact eb⟩, .lst xs b vs n lz (.inr rfl) g (rr.mono (fun zz z => .inl z) (fun zz zz e => e) sd)⟩
  | fin i c d kvs hi hd e ed cc hh =>
    refine r.loc_el fun b eb => ?_
    obtain ⟨b', o, rb, g, dd, rd, rfl, hcl⟩ := S'.ob _ _ e
    cases Option.some.inj (eb.symm.trans rb)
    obtain ⟨d', o', rx, gd, es, n, rfl, fr, ln⟩ := S'.ob _ _ ed
    cases Option.some.inj (rd.symm.trans rx)
    exact ⟨fun a => a = b ∨ a = dd, fun a q => q.elim (fun q => ⟨i, hi, by rw [q]; exact eb⟩) fun q => ⟨d, hd, by rw [q]; exact rd⟩, .fin c _ _ b dd es n cc (.inr (.inl rfl)) (.inr (.inr rfl)) g gd (fr.fin_ns hh) (fr.mono (fun zz z => .inl z) (fun zz zz e => e) sd)⟩
  | vec i d k x b0 hi hd e ed =>
    refine r.loc_el fun b eb => ?_
    obtain ⟨b', o, rb, g, dd, rd, rfl, hcl⟩ := S'.ob _ _ e
    cases Option.some.inj (eb.symm.trans rb)
    obtain ⟨d', o', rx, gd, es, n, rfl, fr, ln⟩ := S'.ob _ _ ed
    cases Option.some.inj (rd.symm.trans rx)
    exact ⟨fun a => a = b ∨ a = dd, fun a q => q.elim (fun q => ⟨i, hi, by rw [q]; exact eb⟩) fun q => ⟨d, hd, by rw [q]; exact rd⟩, .vec_of (b := b0) (.inr (.inl rfl)) (.inr (.inr rfl)) g gd (FRel.mono (fun zz z => .inl z) (fun zz zz e => e) sd fr)⟩
theorem ret_ok {v : AV} {a : Value} {k : KE} (S : St w hb Φ h Z ρ σ) (S' : St w hb Φ h' Z' ρ' σ') (P : Post Mine.no h Z ρ h' Z' ρ') (r : VRel h' Z' ρ' v a) (R : Ret σ σ' v k) :
    ∃ v'' σ'' Z'' ρ'', k v'' σ'' ∧ St w hb Φ h' Z'' ρ'' σ'' ∧ VRel h' Z'' ρ'' v'' a ∧ Post Mine.no h Z ρ h' Z'' ρ'' := by
  rcases R with ⟨v', c, hk⟩ | ⟨v1, v2, σ'', f, b, c, C, hk⟩
  · exact ⟨v', σ', Z', ρ', hk, S', r.cv c, P⟩
  · obtain ⟨N, hN, r1⟩ := fz_ok S S' P f r
    obtain ⟨S2, P2⟩ := cut_ok S S' P hN C
    have r2 := VRel.cut σ.length r1 b
    have tk : ρ'.take σ.length = ρ := by
      obtain ⟨e, re, be⟩ := P.ext
      rw [re, ← S.len]; simp
    rw [tk] at r2
    exact ⟨v2, σ'', _, ρ, hk, S2, r2.cv c, P2⟩
end
end Mine
end
section
open PySem PySem.W PyProof.Rows PySem.Calls
namespace Mine
noncomputable def dFn (d : Data) : Option FuncData := match d with
  | .func f => some f
  | _ => none
noncomputable def dFl (d : Data) : Option (Array Value) := match d with
  | .fields v => some v
  | _ => none
theorem dFn_ex {d : Data} {f : FuncData} (h : dFn d = some f) : d = .func f := by
  cases d with
  | func g => exact congrArg Data.func (Option.some.inj h)
  | _ => exact non h
theorem dFl_ex {d : Data} {f : Array Value} (h : dFl d = some f) : d = .fields f := by
  cases d with
  | fields g => exact congrArg Data.fields (Option.some.inj h)
  | _ => exact non h
noncomputable def vRef (v : Value) : Option Addr := match v with
  | .ref c => some c
  | _ => none
noncomputable def vStr (v : Value) : Option Str := match v with
  | .str c _ => some c
  | _ => none
theorem vRef_ex {v : Value} {f : Addr} (h : vRef v = some f) : v = .ref f := by
  cases v with
  | ref g => exact congrArg Value.ref (Option.some.inj h)
  | _ => exact non h
theorem vStr_ex {v : Value} {f : Str} (h : vStr v = some f) : ∃ t, v = .str f t := by
  cases v with
  | str g t => exact ⟨t, congrArg (Value.str · t) (Option.some.inj h)⟩
  | _ => exact non h
noncomputable def onBody (b : FuncBody) (k : List Stmt → Bool) : Bool := match b with
  | .stmts l => k l
  | .expr _ => false
@[elab_as_elim] theorem onBody_el {P : FuncBody → Prop} {k : List Stmt → Bool} (hk : ∀ l, k l = true → P (.stmts l)) (b : FuncBody) (h : onBody b k = true) : P b := by
  cases b with
  | stmts l => exact hk l h
  | expr => exact nof h
noncomputable def fdOf (P : Params) (a : Nat) : Option FuncData := ((K P).lookup a).bind fun o => dFn o.data
theorem fdOf_ex {P : Params} {a : Nat} {fd : FuncData} (h : fdOf P a = some fd) : ∃ o, (K P).lookup a = some o ∧ o.data = .func fd :=
  let ⟨o, h1, h2⟩ := Option.bind_eq_some_iff.mp h
  ⟨o, h1, dFn_ex h2⟩
noncomputable def codeS (K : Frag) (cd : Value) : Option Str := (vRef cd).bind fun c => (K.lookup c).bind fun o => (dFl o.data).bind fun vs => (vs.toList[1]?).bind vStr
noncomputable def codeOkIn (K : Frag) (cd : Value) (q : Str) : Bool := onSome (codeS K cd) fun q' => q' == q
noncomputable def fdOkC (P : Params) (f : Fn) (fd : FuncData) : Bool := onBody fd.body (fun b => chkB fd.scope.names f.b b) && (fd.closure.isEmpty && (!fd.scope.isCoroutine && (!fd.scope.isGenerator && (isFn fd.scope.kind && (Nat.beq fd.globals mainGlobals && (Nat.beq fd.builtins builtinsNs && (codeOkIn (K P) fd.code fd.qualname &&
      ((fd.scope.names.all fun q => !(q.2 == .free)) && ((f.ps.all fun x => okSt (fd.scope.names.lookup (TT x))) && (decide f.ps.Nodup && Nat.ble f.ps.length 5))))))))))
noncomputable def fdOk (P : Params) (g a : Nat) : Bool := onSome (FN g) fun f => onSome (fdOf P a) (fdOkC P f)
theorem fd_ok : ∀ P : Params, (FLA.all fun p => fdOk P p.1 p.2) = true := by intro P; kernel_rfl
noncomputable def bdList (P : Params) (S : Setting) (g a : Nat) (vs : List Value) : List (Option (List (Str × Value))) := match FN g with
  | some f => match fdOf P a with
    | some fd => (List.range (f.df + 1)).map fun k => peek (K P) S (bindArgs fd ⟨vs.take (f.ps.length - k), []⟩)
    | none => []
  | none => []
noncomputable def exList (g : Nat) (vs : List Value) : List (Option (List (Str × Value))) := match FN g with
  | some f => (List.range (f.df + 1)).map fun k => some ((f.ps.map TT).zip (vs.take (f.ps.length - k) ++ List.replicate k .none))
  | none => []
theorem bd_ok : ∀ (P : Params) (S : Setting) (v0 v1 v2 v3 v4 : Value), (FLA.map fun p => bdList P S p.1 p.2 [v0, v1, v2, v3, v4]) = FLA.map fun p => exList p.1 [v0, v1, v2, v3, v4] := by
  intro P S v0 v1 v2 v3 v4; kernel_rfl
end Mine
end
section
open PySem PySem.W PyProof.Rows PySem.Calls
namespace Mine
theorem codeRec_of {K : Frag} {h : Heap} {cd : Value} {q : Str} (X : K.In h) (e : codeOkIn K cd q = true) : h.CodeRec cd q :=
  have ⟨q', e1, e2⟩ := onSome_el (P := fun o => ∃ q', o = some q' ∧ q' = q) (fun x h => ⟨x, rfl, eq_of_beq h⟩) _ e
  have ⟨c, h1, e1⟩ := Option.bind_eq_some_iff.mp e1
  have ⟨o, h2, e1⟩ := Option.bind_eq_some_iff.mp e1
  have ⟨vs, h3, e1⟩ := Option.bind_eq_some_iff.mp e1
  have ⟨v, h4, e1⟩ := Option.bind_eq_some_iff.mp e1
  have ⟨t, h5⟩ := vStr_ex e1
  ⟨c, o, vs, t, vRef_ex h1, X _ _ h2, dFl_ex h3, Array.getElem?_toList.symm.trans (h4.trans (congrArg some (h5.trans (congrArg (Value.str · t) e2))))⟩
theorem fd_at (P : Params) {g a : Nat} (m : (g, a) ∈ FLA) : fdOk P g a = true := List.all_eq_true.mp (fd_ok P) (g, a) m
theorem list_five (vs : List Value) (h : vs.length ≤ 5) : ∃ v0 v1 v2 v3 v4, vs = [v0, v1, v2, v3, v4].take vs.length := by
  have h1 : (vs ++ List.replicate (5 - vs.length) Value.none).length = 5 := by rw [List.length_append, List.length_replicate]; lia
  have h2 : vs = (vs ++ List.replicate (5 - vs.length) Value.none).take vs.length := (List.take_left' rfl).symm
  generalize vs ++ List.replicate (5 - vs.length) Value.none = ws at h1 h2
  obtain ⟨v0, w1, rfl⟩ := List.exists_cons_of_length_eq_add_one h1
  have h1 := Nat.succ.inj h1
  obtain ⟨v1, w2, rfl⟩ := List.exists_cons_of_length_eq_add_one h1
  have h1 := Nat.succ.inj h1
  obtain ⟨v2, w3, rfl⟩ := List.exists_cons_of_length_eq_add_one h1
  have h1 := Nat.succ.inj h1
  obtain ⟨v3, w4, rfl⟩ := List.exists_cons_of_length_eq_add_one h1
  have h1 := Nat.succ.inj h1
  obtain ⟨v4, w5, rfl⟩ := List.exists_cons_of_length_eq_add_one h1
  obtain rfl := List.eq_nil_of_length_eq_zero (Nat.succ.inj h1)
  exact ⟨v0, v1, v2, v3, v4, h2⟩
theorem bd_at {P : Params} {S : Setting} {g a : Nat} (m : (g, a) ∈ FLA) {fd : FuncData} {f : Fn} (hd : fdOf P a = some fd) (hf : FN g = some f) {k : Nat} (hk : k ≤ f.df) {vs : List Value} (hl : vs.length + k = f.ps.length) (h5 : f.ps.length ≤ 5) :
    peek (K P) S (bindArgs fd ⟨vs, []⟩) = some ((f.ps.map TT).zip (vs ++ List.replicate k .none)) := by
  obtain ⟨v0, v1, v2, v3, v4, hv⟩ := list_five vs (by lia)
  have h := bd_ok P S v0 v1 v2 v3 v4
  obtain ⟨i, hi, e⟩ := List.getElem_of_mem m
  have h2 := congrArg (fun l => l[i]?) h
  simp only [List.getElem?_map, List.getElem?_eq_getElem hi, e, Option.map_some] at h2
  have h3 := Option.some.inj h2
  unfold bdList exList at h3
  rw [hd, hf] at h3
  simp only at h3
  have h4 := congrArg (fun l => l[k]?) h3
  simp only [List.getElem?_map, List.getElem?_range (show k < f.df + 1 by lia), Option.map_some, Option.some.injEq] at h4
  rw [show f.ps.length - k = vs.length by lia, ← hv] at h4
  exact h4
theorem bindPs_zip : ∀ {ps : List Nat} {df : Nat} {vs : List AV} {l : Loc}, bindPs ps df vs = some l → ∃ k, k ≤ df ∧ vs.length + k = ps.length ∧ l = ps.zip (vs ++ List.replicate k .none)
  | [], df, [], l, h => by cases h; exact ⟨0, Nat.zero_le _, rfl, rfl⟩
  | [], df, _ :: _, l, h => by cases h
  | p :: ps, df, v :: vs, l, h => by
    unfold bindPs at h
    obtain ⟨l', h1, rfl⟩ := Option.map_eq_some_iff.mp h
    obtain ⟨k, a, b, rfl⟩ := bindPs_zip h1
    exact ⟨k, a, by simp; lia, rfl⟩
  | p :: ps, df, [], l, h => by
    unfold bindPs at h
    split at h
    · rename_i hl
      cases h
      refine ⟨(p :: ps).length, hl, by simp, ?_⟩
      have : ∀ (qs : List Nat), qs.map (fun q => (q, AV.none)) = qs.zip (List.replicate qs.length AV.none) := fun qs => by
        induction qs with
        | nil => rfl
        | cons q qs ih => simp [List.replicate_succ, ih]
      exact this (p :: ps)
    · cases h
theorem binL_zip : ∀ {ps : List Nat} {us : List AV} {l : Loc} (_ : ps.Nodup) (_ : us.length = ps.length) (x : Nat), nsLk (binL ps us l) x = (nsLk (ps.zip us) x).or (nsLk l x)
  | [], [], l, _, _, x => by simp [binL, nsLk]
  | [], _ :: _, l, _, h, x => by simp at h
  | p :: ps, [], l, _, h, x => by simp at h
  | p :: ps, u :: us, l, nd, h, x => by
    rw [List.nodup_cons] at nd
    unfold binL
    rw [binL_zip nd.2 (by simpa using h) x, nsLk_put]
    simp only [List.zip_cons_cons, nsLk]
    by_cases q : p = x
    · subst q
      rw [if_pos rfl, if_pos rfl]
      have : nsLk (ps.zip us) p = none := by
        cases e : nsLk (ps.zip us) p with
        | none => rfl
        | some v =>
          have : p ∈ ps := by
            have go : ∀ {ps : List Nat} {us : List AV} {v : AV}, nsLk (ps.zip us) p = some v → p ∈ ps := fun {ps} => by
              induction ps with
              | nil => intro us v e; simp [nsLk] at e
              | cons q qs ih =>
                intro us v e
                cases us with
                | nil => simp [nsLk] at e
                | cons u us =>
                  simp only [List.zip_cons_cons, nsLk] at e
                  split at e
                  · rename_i h; rw [h]; exact .head _
                  · exact .tail _ (ih e)
            exact go e
          exact absurd this nd.1
      rw [this]; rfl
    · rw [if_neg q, if_neg fun e => q e.symm]
theorem VRels.nones {h : Heap} {Z : Addr → Prop} {ρ : List Addr} : ∀ (k : Nat), VRels h Z ρ (List.replicate k .none) (List.replicate k .none)
  | 0 => .nil
  | k + 1 => by rw [List.replicate_succ, List.replicate_succ]; exact .cons _ _ _ _ .none (VRels.nones k)
section
variable {w : World} {hb h₁ h h' h'' h0 : Heap} {Φ : List Env} {A : Around} {σ σ' σ'' : Sto} {s : Shared} {Z Z₁ Z' Z'' Z0 : Addr → Prop} {ρ ρ₁ ρ' ρ'' ρ0 : List Addr} {env : Env} {l : Loc} {E : Value → Shared → Prop} {ex : Addr → Prop} {ns : List (Str × NameKind)} {X : KX} {C : Calls}
theorem St.drop (S : St w hb (env :: Φ) h Z ρ σ) : St w hb Φ h Z ρ σ := ⟨S.base, S.len, S.nd, S.sep, S.nb, S.zl, S.ob, fun e m => S.fr e (.tail _ m)⟩
theorem run_ok {g a : Nat} {f : Fn} {vs : List AV} {args : List Value} {r : KE} {R : Result → Shared → Prop} (B : Bs w hb) (sm : ∃ o, hb.get? sysModules = some o) (hA : A.frames = some Φ) (hd : A.depth < 950) (hu : A.units ≤ 8990) (hh : A.handled = none)
    (m : (g, a) ∈ FLA) (hf : FN g = some f) (hC : ∀ env, CallOk w hb (env :: Φ) (A.deeper env) C) (hR : ∀ env, RaisOk w hb (env :: Φ) (A.deeper env))
    (S : St w hb Φ s.heap Z ρ σ) (ra : VRels s.heap Z ρ vs args) (wp : runF C f vs σ r X)
    (hQ : ∀ v σ' val h' Z' ρ' tk, r v σ' → St w hb Φ h' Z' ρ' σ' → VRel h' Z' ρ' v val → Post no s.heap Z ρ h' Z' ρ' → R (.ok (.ret val)) { s with heap := h', toks := tk })
    (hX : ∀ e σ' h' Z' ρ' tk, X σ' → Fly s.heap h' Z' ρ' e → St w hb Φ h' Z' ρ' σ' → Post no s.heap Z ρ h' Z' ρ' → R (.error e) { s with heap := h', toks := tk }) :
    codeAny (model pw w) A (.call (.ref a) ⟨args, []⟩) R s := by
  have KI := B.K S.base
  have ok := fd_at w.params m
  unfold fdOk at ok
  rw [hf] at ok
  obtain ⟨fd, hfd, ok⟩ : ∃ fd, fdOf w.params a = some fd ∧ fdOkC w.params f fd = true := onSome_el (P := fun o => ∃ fd, o = some fd ∧ fdOkC w.params f fd = true) (fun x h => ⟨x, rfl, h⟩) _ ok
  have o2 := aR ok
  have o3 := aR o2
  have o4 := aR o3
  have o5 := aR o4
  have o6 := aR o5
  have o7 := aR o6
  have o8 := aR o7
  have o9 := aR o8
  have o10 := aR o9
  have o11 := aR o10
  have hps : f.ps.length ≤ 5 := Nat.le_of_ble_eq_true (aR o11)
  have hnd : f.ps.Nodup := of_decide_eq_true (aL o11)
  obtain ⟨o, ho, hdata⟩ := fdOf_ex hfd
  replace ho := KI _ _ ho
  obtain ⟨body, hbody, o1⟩ : ∃ b, fd.body = .stmts b ∧ chkB fd.scope.names f.b b = true := onBody_el (P := fun x => ∃ b, x = .stmts b ∧ chkB fd.scope.names f.b b = true) (fun b h => ⟨b, rfl, h⟩) _ (aL ok)
  refine opt_el wp fun l hl wp => ?_
  obtain ⟨k, hk, hlen, rfl⟩ := bindPs_zip hl
  have la : vs.length = args.length := ra.length
  have hbind : BindsTo s fd ⟨args, []⟩ ((f.ps.map TT).zip (args ++ List.replicate k .none)) := fun M A' E' Q' q => (Looks.of_peek (M := M) KI (bd_at m hfd hf hk (by lia) hps)).here q
  refine codeAny_call_function (by show A.depth < 1000; lia) ho hdata ((Bool.not_eq_true' _).mp (aL o3)) ((Bool.not_eq_true' _).mp (aL o4)) hbody (codeRec_of KI (aL o8)) (hbind _ _ _ _ ?_)
  rw [List.isEmpty_iff.mp (aL o2), Nat.eq_of_beq_eq_true (aL o6), Nat.eq_of_beq_eq_true (aL o7)]
  refine enter (vs := vs ++ List.replicate k .none) S (kind_fn (aL o5)) (aL o9) (by simp; lia) (aL o10) (ra.append (VRels.nones k)) fun env h₁ tk fr hfr ownn I P he => ⟨B.lim.keeps I.st.base, codeAny_func ?_⟩
  have hh' : (A.deeper env).handled = none := hh
  have G : Gnd w hb (env :: Φ) (A.deeper env) C := ⟨B, sm, hh', by show A.units + 3 ≤ 9000; lia, hC env⟩
  have T : Top (A.deeper env) (env :: Φ) env := ⟨by show A.frames.map (env :: ·) = _; rw [hA]; rfl, Φ, _, rfl, hfr⟩
  have sb := sndB G (hR env) f.b fd.scope.names body o1 env fr T
  have I' : In w hb (env :: Φ) h₁ Z ρ σ env (f.ps.zip (vs ++ List.replicate k .none)) := ⟨I.st, I.lr.ext fun x => by rw [binL_zip hnd (by simp; lia)]; simp [nsLk], I.lo⟩
  have own0 : ∀ b, own env b → ∃ o, h₁.get? b = some o := fun b o => (I.lo b o).2.2.2
  refine sb _ σ _ X wp { s with heap := h₁, toks := tk } Z ρ _ _ I' ⟨fun l' σ' h' Z' ρ' tk a b c => ?_, fun v l' σ' a h' Z' ρ' tk b c d e => ?_, fun l' σ' h' Z' ρ' tk a b c => a.elim, fun e l' σ' h' Z' ρ' tk hx F c p => ?_⟩
  · exact hQ .none σ' .none h' Z' ρ' tk a b.st.drop .none ((P.no.trans c).drop ownn)
  · exact hQ v σ' a h' Z' ρ' tk b c.st.drop d ((P.no.trans e).drop ownn)
  · refine leave_any (s := { s with heap := h', toks := tk }) (h0 := h₁) T.1 c.st p.live F hfr fun h'' n'' f'' => ?_
    have fr0 : ∀ e ∈ (env :: Φ), ∀ L, e.frame = some L → ∃ o, h₁.get? L = some o := fun e m L f => by
      obtain ⟨_, L', o, p1, _, _, _, g, _⟩ := I.st.fr e m
      rw [f] at p1; cases p1; exact ⟨o, g⟩
    have S'' := c.st.nudge n'' (fun a o e => ⟨o, I.st.base a o e⟩) fr0
    have P'' := p.nudge c.st n''
    exact hX e σ' h'' Z' ρ' tk hx (f''.after P.live) S''.drop ((P.no.trans P'').drop ownn)
end
end Mine
end
section
open PySem PySem.W PyProof.Rows PySem.Calls
namespace Mine
noncomputable def mkC (P : Params) (c C : Nat) (fa : Addr) : Bool := Nat.beq C (CA c) && (makesIn (K P) (CA c) && (findIn (K P) (.ref (CA c)) "__init__" == some (some (.ref fa)) && typeIn (K P) (.ref fa) == some (.type "function")))
noncomputable def mkOk (P : Params) (p : Nat × Nat × Nat) : Bool := onSome ((GL.lookup p.1).bind vRef) fun C => onSome (FLA.lookup p.2.2) fun fa => mkC P p.2.1 C fa
theorem mk_ok : ∀ P : Params, (CLL.all (mkOk P)) = true := by intro P; kernel_rfl
theorem fla_gl : ∀ p ∈ FLA, GL.lookup p.1 = some (.ref p.2) := by decide +kernel
theorem fn_fla : ∀ p ∈ FNL, (FLA.lookup p.1).isSome = true := by decide +kernel
theorem fla_mem {g a : Nat} (h : FLA.lookup g = some a) : (g, a) ∈ FLA := lookup_mem h
theorem mk_ex {P : Params} {g c i : Nat} {f : Value} (m : (g, c, i) ∈ CLL) (hg : GL.lookup g = some f) : f = .ref (CA c) ∧ makesIn (K P) (CA c) = true ∧ ∃ fa, FLA.lookup i = some fa ∧ findIn (K P) (.ref (CA c)) "__init__" = some (some (.ref fa)) ∧ typeIn (K P) (.ref fa) = some (.type "function") := by
  have ok : (onSome ((GL.lookup g).bind vRef) fun C => onSome (FLA.lookup i) fun fa => mkC P c C fa) = true := List.all_eq_true.mp (mk_ok P) _ m
  rw [hg] at ok
  obtain ⟨C, e1, ok⟩ : ∃ C, vRef f = some C ∧ (onSome (FLA.lookup i) fun fa => mkC P c C fa) = true := onSome_el (P := fun o => ∃ C, o = some C ∧ (onSome (FLA.lookup i) fun fa => mkC P c C fa) = true) (fun x h => ⟨x, rfl, h⟩) (vRef f) ok
  obtain ⟨fa, e2, ok⟩ : ∃ fa, FLA.lookup i = some fa ∧ mkC P c C fa = true := onSome_el (P := fun o => ∃ fa, o = some fa ∧ mkC P c C fa = true) (fun x h => ⟨x, rfl, h⟩) _ ok
  exact ⟨(vRef_ex e1).trans (congrArg Value.ref (Nat.eq_of_beq_eq_true (aL ok))), aL (aR ok), fa, e2, eq_of_beq (aL (aR (aR ok))), eq_of_beq (aR (aR (aR ok)))⟩
theorem fn_at {g : Nat} {f : Fn} (h : FN g = some f) : ∃ a, (g, a) ∈ FLA ∧ GL.lookup g = some (.ref a) := by
  unfold FN at h
  obtain ⟨p, hp, _⟩ := Option.map_eq_some_iff.mp h
  have hm := List.mem_of_find?_eq_some hp
  have hg : p.1 = g := Nat.eq_of_beq_eq_true (by simpa using List.find?_some hp)
  obtain ⟨a, ha⟩ := Option.isSome_iff_exists.mp (fn_fla p hm)
  rw [hg] at ha
  exact ⟨a, fla_mem ha, fla_gl _ (fla_mem ha)⟩
theorem cll_ok : ∀ p ∈ CLL, ClsN p.2.1 := by unfold ClsN; decide
theorem cln_at {g : Nat} {p : Nat × Nat} (h : CLN g = some p) : (g, p.1, p.2) ∈ CLL ∧ ClsN p.1 := ⟨lookup_mem h, cll_ok _ (lookup_mem h)⟩
section
variable {w : World} {hb h₁ h h' h'' h0 : Heap} {Φ : List Env} {A : Around} {σ σ' σ'' : Sto} {s : Shared} {Z Z₁ Z' Z'' Z0 : Addr → Prop} {ρ ρ₁ ρ' ρ'' ρ0 : List Addr} {env : Env} {l : Loc} {E : Value → Shared → Prop} {ex : Addr → Prop} {ns : List (Str × NameKind)} {X : KX} {C : Calls}
theorem AOk.deep {n : Nat} (a : AOk (n + 1) Φ A) (env : Env) : AOk n (env :: Φ) (A.deeper env) :=
  ⟨a.hd, by have := a.dep; show A.depth + 1 + 3 * n ≤ 900; lia, by have := a.un; show A.units + 3 + 20 * n ≤ 9000; lia, by show A.frames.map (env :: ·) = _; rw [a.fr]; rfl⟩
theorem und_is (a : Addr) (rest : List Value) (kw : List (Str × Value)) : A.under (.builtin "type.__call__" ⟨.ref a :: rest, kw⟩) = { A with depth := A.depth + 1, units := A.units + 1 } := by
  have h1 : Code.weight (.builtin "type.__call__" ⟨.ref a :: rest, kw⟩) = 1 := by kernel_rfl
  have h2 : Code.cUnits (.builtin "type.__call__" ⟨.ref a :: rest, kw⟩) = 1 := by kernel_rfl
  have h3 : Code.envs (.builtin "type.__call__" ⟨.ref a :: rest, kw⟩) = [] := by kernel_rfl
  unfold Around.under
  rw [h1, h2, h3]
  have h4 : Code.isGuard (.builtin "type.__call__" ⟨.ref a :: rest, kw⟩) = false := by kernel_rfl
  have h5 : pushGuards (Code.guards (.builtin "type.__call__" ⟨.ref a :: rest, kw⟩)) A.guards = A.guards := by
    have : Code.guards (.builtin "type.__call__" ⟨.ref a :: rest, kw⟩) = [] := by
      unfold Code.guards
      rw [h4]; rfl
    rw [this]; rfl
  rw [h5]
  rfl
theorem call_ok (B : Bs w hb) (sm : ∃ o, hb.get? sysModules = some o) (hR : ∀ Φ A, AOk 0 Φ A → RaisOk w hb Φ A) : ∀ n Φ A, AOk n Φ A → CallOk w hb Φ A (CM n)
  | 0, Φ, A, _ => fun g vs σ k X wp => wp.elim
  | n + 1, Φ, A, O => fun g vs σ k X wp f args s Z ρ Q E hg S ra hQ hX => by
    have low : ∀ {m : Nat} {Φ : List Env} {A : Around}, AOk m Φ A → AOk 0 Φ A := fun a => ⟨a.hd, by have := a.dep; lia, by have := a.un; lia, a.fr⟩
    have dp := O.dep
    have un := O.un
    have wp : (match FN g with
      | some f => runF (CM n) f vs σ (fun v σ' => Ret σ σ' v k) X
      | Option.none => opt (CLN g) fun p => opt (FN p.2) fun f => runF (CM n) f (.loc (σ.length + 1) :: vs) (σ ++ [.ns [], .inst p.1 σ.length]) (fun v σ' => v = .none ∧ Ret σ σ' (.loc (σ.length + 1)) k) noX) := wp
    refine Classical.byContradiction fun go => ?_
    cases hf : FN g with
    | some fn =>
      rw [hf] at wp
      obtain ⟨a, ma, ga⟩ := fn_at hf
      rw [ga] at hg; cases hg
      refine go (wpAny_call (run_ok B sm O.fr (by lia) (by lia) O.hd ma hf (fun env => call_ok B sm hR n _ _ (O.deep env)) (fun env => hR _ _ (low (O.deep env))) S ra wp (fun v σ' val h' Z' ρ' tk hr S' rv P => ?_) hX))
      exact (ret_ok S S' P rv hr).elim fun v'' x => x.elim fun σ'' x => x.elim fun Z'' x => x.elim fun ρ'' x => hQ v'' σ'' val h' Z'' ρ'' tk x.1 x.2.1 x.2.2.1 x.2.2.2
    | none =>
      rw [hf] at wp
      obtain ⟨⟨c, i⟩, hc, wp⟩ := opt_ex wp
      refine opt_el wp fun fn hfi wp => ?_
      obtain ⟨mc, hcl⟩ := cln_at hc
      dsimp only at hfi hcl wp mc
      obtain ⟨rfl, o4, fa, hfa, o5⟩ := mk_ex (P := w.params) mc hg
      have KI := B.K S.base
      obtain ⟨hp, gn, dr, tk₀, os⟩ := s
      refine go (wpAny_call (make_core (makes_of KI o4) (looks_findIn KI o5.1) (fun self => bind_fn KI self o5.2) (.inl rfl) ?_))
      rw [und_is]
      dsimp only at S ra hQ hX
      have S1 : St w hb Φ (hp.push emptyDict) Z (ρ ++ [hp.objs.size]) (σ ++ [.ns []]) := S.pushO rfl ⟨[], 0, rfl, .nil, by simp⟩
      have sz : (hp.push emptyDict).objs.size = hp.objs.size + 1 := Heap.size_push ..
      have S2 : St w hb Φ ((hp.push emptyDict).push (instObj (CA c) hp.objs.size)) Z ((ρ ++ [hp.objs.size]) ++ [(hp.push emptyDict).objs.size]) ((σ ++ [.ns []]) ++ [.inst c σ.length]) :=
        S1.pushO rfl ⟨hp.objs.size, by rw [← S.len, List.append_assoc, List.getElem?_append_right (Nat.le_refl _)]; simp, rfl, hcl⟩
      have P1 : Post no hp Z ρ (hp.push emptyDict) Z (ρ ++ [hp.objs.size]) := post_pushO _
      have P2 := P1.trans (post_pushO (ex := no) (h := hp.push emptyDict) (Z := Z) (ρ := ρ ++ [hp.objs.size]) (instObj (CA c) hp.objs.size))
      have ex : (σ ++ [AO.ns []]) ++ [.inst c σ.length] = σ ++ [.ns [], .inst c σ.length] := by simp
      rw [ex] at S2
      have rx : ((ρ ++ [hp.objs.size]) ++ [(hp.push emptyDict).objs.size])[σ.length + 1]? = some (hp.objs.size + 1) := by
        rw [sz, ← S.len, List.getElem?_append_right (by simp)]; simp
      refine run_ok (s := ⟨(hp.push emptyDict).push (instObj (CA c) hp.objs.size), gn, dr, tk₀, os⟩) (A := { A with depth := A.depth + 1, units := A.units + 1 }) (args := .ref (hp.objs.size + 1) :: args) B sm O.fr (by show A.depth + 1 < 950; lia) (by show A.units + 1 ≤ 8990; lia) O.hd (fla_mem hfa) hfi
        (fun env => call_ok B sm hR n _ _ ⟨O.hd, by show A.depth + 1 + 1 + 3 * n ≤ 900; lia, by show A.units + 1 + 3 + 20 * n ≤ 9000; lia, by show A.frames.map (env :: ·) = _; rw [O.fr]; rfl⟩)
        (fun env => hR _ _ ⟨O.hd, by show A.depth + 1 + 1 + 3 * 0 ≤ 900; lia, by show A.units + 1 + 3 + 20 * 0 ≤ 9000; lia, by show A.frames.map (env :: ·) = _; rw [O.fr]; rfl⟩)
        S2 (.cons _ _ _ _ (.loc _ _ rx) (P2.rels S ra)) wp (fun v σ' val h' Z' ρ' tk hr S' rv P => ?_) (fun e σ' h' Z' ρ' tk hx => hx.elim)
      obtain ⟨rfl, hr⟩ := hr
      cases rv
      have PP := P2.trans P
      exact ⟨rfl, (ret_ok S S' PP (.loc _ _ (P.rho _ _ rx)) hr).elim fun v'' x => x.elim fun σ'' x => x.elim fun Z'' x => x.elim fun ρ'' x => hQ v'' σ'' _ h' Z'' ρ'' tk x.1 x.2.1 x.2.2.1 x.2.2.2⟩
end
end Mine
end
section
open PySem PySem.W PyProof.Rows PySem.Calls
open PySem.Builtin PySem.Builtin.ObjectAttr
namespace Mine
noncomputable abbrev excO (t : Addr) : Obj := { cls := .ref 504, data := .fields #[.ref t, .none, .none, .none, .bool false, .none] }
noncomputable def x504 (P : Params) : Bool := (mroIn (K P) 504 (.type "object") == some true) && (findIn (K P) (.ref 504) "__setattr__" == some (some (.builtin "object.__setattr__"))) && (findIn (K P) (.ref 504) (TT 169) == some none) && (clsIn (K P) 504).any (fun cd => cd.hasDict && cd.mro == [.ref 504, .ref 484, .type "Exception", .type "BaseException", .type "object"]) &&
  tailIn (K P) [.type "Exception", .type "BaseException", .type "object"] [.ref 484, .type "Exception", .type "BaseException", .type "object"] && (findIn (K P) (.ref 504) "__init__" == some (some (.ref 501))) && (typeIn (K P) (.ref 501) == some (.type "function"))
theorem x504_ok : ∀ P : Params, x504 P = true := by intro P; kernel_rfl
section
variable {w : World} {hb h₁ h h' h'' h0 : Heap} {Φ : List Env} {A : Around} {σ σ' σ'' : Sto} {s : Shared} {Z Z₁ Z' Z'' Z0 : Addr → Prop} {ρ ρ₁ ρ' ρ'' ρ0 : List Addr} {env : Env} {l : Loc} {E : Value → Shared → Prop} {ex : Addr → Prop} {ns : List (Str × NameKind)} {X : KX} {C : Calls}
theorem set504 {x t : Addr} {v : Value} {Q : Unit → Shared → Prop} (KI : (K w.params).In s.heap) (hx : s.heap.get? x = some (excO t))
    (hQ : ∀ h' tk d, (∀ b o, b ≠ x → s.heap.get? b = some o → h'.get? b = some o) → h'.get? x = some { excO t with dict := some d } → Q () { s with heap := h', toks := tk }) : wpAny (model pw w) A (setAttr (.ref x) (TT 169) v) Q E s := by
  have ok := x504_ok w.params
  unfold x504 at ok
  simp only [Bool.and_eq_true, beq_iff_eq] at ok
  obtain ⟨⟨⟨⟨⟨⟨o1, o2⟩, o3⟩, o4⟩, _⟩, _⟩, _⟩ := ok
  obtain ⟨cd, hc, hd⟩ := any_some o4
  simp only [Bool.and_eq_true, beq_iff_eq] at hd
  obtain ⟨hd1, hd2⟩ := hd
  have I : InstAt s.heap x (excO t) 504 none := ⟨hx, rfl, rfl, trivial⟩
  have SF := PySem.F.store_object
  refine set_plain KI I o2 ?_
  have KI' : (K w.params).In ({ s with toks := s.toks + 1 } : Shared).heap := KI
  have sub : Looks (model pw w) s.heap (isInstance (.ref x) (.type "object")) true := I.type.andThen (looks_mroIn KI o1)
  refine codeAny_call_builtin SF.slot.plain SF.entry (@check_slot (model pw w) _ _ { s with toks := s.toks + 1 } "object.__setattr__" "object" "__setattr__" (.ref x) [.str (TT 169) s.toks, v] [] _ SF.kind SF.split sub (SF.args (.ref x) (.str (TT 169) s.toks) v) ?_)
  have hm : Looks (model pw w) s.heap (mroOf (.ref 504)) cd.mro := (looks_clsIn KI hc).andThen .now
  rw [osa_eq, refuse_eq]
  refine wpAny_bind (wpAny_bind ((I.type (M := model pw w)).here (s := { s with toks := s.toks + 1 }) (wpAny_bind (hm.here (s := { s with toks := s.toks + 1 }) ?_))))
  rw [hd2, refuseLoop_ref, refuseLoop_ref, PySem.F.store_Exception.passes]
  refine wpAny_pure (wpAny_bind ((I.type (M := model pw w)).here (s := { s with toks := s.toks + 1 }) (wpAny_bind ((looks_findIn KI o3).here (s := { s with toks := s.toks + 1 }) (wpAny_bind (wpAny_pure ?_))))))
  show wpAny _ _ (storeInOwnDict (.ref x) (.ref 504) (.str (TT 169) s.toks) (TT 169) v false) _ _ _
  unfold storeInOwnDict
  refine wpAny_bind (wpAny_pure ?_)
  show wpAny _ _ (ownDictForStores (.ref x) >>= _) _ _ _
  refine wpAny_bind (m := instanceDict x true) ?_
  unfold instanceDict
  refine wpAny_bind (wpAny_loadPart hx (wpAny_bind ((looks_clsIn KI hc).here (s := { s with toks := s.toks + 1 }) ?_)))
  rw [hd1]
  have hx₁ : (s.heap.push { cls := .type "dict", data := .dict #[] }).get? x = some (excO t) := Heap.get?_push_of_some _ hx
  have nxd : x ≠ s.heap.objs.size := Nat.ne_of_lt (Heap.lt_size hx)
  show wpAny _ _ (alloc { cls := .type "dict", data := .dict #[] } >>= fun d => update x (fun o => { o with dict := some d }) >>= fun zz => dictMade (.ref 504) x d) _ _ _
  refine wpAny_bind (wpAny_alloc (wpAny_bind (wpAny_update hx₁ ?_)))
  have gx : ((s.heap.push { cls := .type "dict", data := .dict #[] }).update x fun o => { o with dict := some s.heap.objs.size }).get? x = some { excO t with dict := some s.heap.objs.size } := Heap.get?_update_self _ hx₁ rfl
  have gd : ((s.heap.push { cls := .type "dict", data := .dict #[] }).update x fun o => { o with dict := some s.heap.objs.size }).get? s.heap.objs.size = some (dictOf [] 0) := (Heap.get?_update_other _ _ nxd).trans (Heap.get?_push_size _ rfl)
  have kk : ∀ b o, b ≠ x → s.heap.get? b = some o → ((s.heap.push { cls := .type "dict", data := .dict #[] }).update x fun o => { o with dict := some s.heap.objs.size }).get? b = some o := fun b o n e => (Heap.get?_update_other _ _ (Ne.symm n)).trans (Heap.get?_push_of_some _ e)
  generalize ((s.heap.push { cls := .type "dict", data := .dict #[] }).update x fun o => { o with dict := some s.heap.objs.size }) = H at gx gd kk ⊢
  refine wpAny_pure (a := some s.heap.objs.size) ?_
  show wpAny _ _ (storeInDict s.heap.objs.size (.str (TT 169) s.toks) (TT 169) v) _ _ _
  unfold storeInDict
  refine wpAny_bind (wpAny_pure (wpAny_bind ?_))
  refine nsSet_dict (s := { s with heap := H, toks := s.toks + 1 }) (m := fun y => nsFind #[] y) ⟨_, _, 0, gd, rfl, fun e he => absurd he (by simp), fun zz => rfl⟩ gd fun h' hh tk' hs g => ?_
  refine wpAny_bind (wpAny_lookBehind g (pastItsLine_dict (by rw [sizeLine_eq]; show 1 ≤ 16777216 + 1; decide)) ?_)
  exact wpAny_pure (hQ h' _ s.heap.objs.size (fun b o n e => (hs.2 b (Nat.ne_of_lt (Heap.lt_size e))).trans (kk b o n e)) ((hs.2 x nxd).trans gx))
end
end Mine
end
section
open PySem PySem.W PyProof.Rows PySem.Calls
namespace Mine
noncomputable def initRest (fd : FuncData) : Bool := (fd.scope.names.all fun q => !(q.2 == .cell)) && (fd.scope.names.lookup (TT 38) == some .local && (fd.scope.names.lookup (TT 169) == some .local && (fd.closure.isEmpty && (!fd.scope.isCoroutine && (!fd.scope.isGenerator && isFn fd.scope.kind)))))
noncomputable def initShape (fd : FuncData) : Bool := onBody fd.body fun l => onOne l fun t => onAsg t fun ts v zz => onOne ts fun tg => onAttr tg fun e n zz => onName e fun a zz => onName v fun b zz => a == TT 38 && (n == TT 169 && (b == TT 169 && initRest fd))
noncomputable abbrev initB (p1 p2 p3 p4 : Pos) : FuncBody := .stmts [.Assign [.Attribute (.Name (TT 38) p1) (TT 169) p2] (.Name (TT 169) p3) p4]
theorem init_body {fd : FuncData} (h : initShape fd = true) : ∃ p1 p2 p3 p4, fd.body = initB p1 p2 p3 p4 ∧ initRest fd = true :=
  onBody_el (P := fun b => ∃ p1 p2 p3 p4, b = initB p1 p2 p3 p4 ∧ initRest fd = true) (fun l h => onOne_el (fun t h => onAsg_el (fun ts v p4 h => onOne_el (fun tg h => onAttr_el (fun e n p2 h => onName_el (fun a p1 h => onName_el (fun b p3 h => beq_el a (aL h) (beq_el n (aL (aR h)) (beq_el b (aL (aR (aR h))) ⟨p1, p2, p3, p4, rfl, aR (aR (aR h))⟩))) v h) e h) tg h) ts h) t h) l h) fd.body h
theorem init_ok : ∀ P : Params, (fdOf P 501).any (fun fd => initShape fd && codeOkIn (K P) fd.code fd.qualname) = true := by intro P; kernel_rfl
section
variable {w : World} {hb h₁ h h' h'' h0 : Heap} {Φ : List Env} {A : Around} {σ σ' σ'' : Sto} {s : Shared} {Z Z₁ Z' Z'' Z0 : Addr → Prop} {ρ ρ₁ ρ' ρ'' ρ0 : List Addr} {env : Env} {l : Loc} {E : Value → Shared → Prop} {ex : Addr → Prop} {ns : List (Str × NameKind)} {X : KX} {C : Calls}
theorem init504 {x t : Addr} {v : Value} {Q : Value → Shared → Prop} (B : Bs w hb) (base : ∀ a o, hb.get? a = some o → s.heap.get? a = some o) (hd : A.depth < 1000) (hx : s.heap.get? x = some (excO t))
    (hQ : ∀ h' tk d, (∀ b o, b ≠ x → s.heap.get? b = some o → h'.get? b = some o) → h'.get? x = some { excO t with dict := some d } → Q .none { s with heap := h', toks := tk }) : wpAny (model pw w) A (call (.ref 501) [.ref x, v]) Q E s := by
  have KI := B.K base
  obtain ⟨fd, hfd, ok⟩ := any_some (init_ok w.params)
  obtain ⟨sh, hcode⟩ := Bool.and_eq_true_iff.mp ok
  obtain ⟨p1, n, p2, p4, hbody, rest⟩ := init_body sh
  obtain ⟨o, ho, hdata⟩ : ∃ o, s.heap.get? 501 = some o ∧ o.data = .func fd := by
    obtain ⟨o, hl, hd⟩ := fdOf_ex hfd
    exact ⟨o, KI _ _ hl, hd⟩
  have hf : FN 314 = some ⟨[38, 169], [.bad], 0⟩ := by kernel_rfl
  have m : (314, 501) ∈ FLA := fla_mem (by kernel_rfl)
  have hbind : BindsTo s fd ⟨[.ref x, v], []⟩ [(TT 38, .ref x), (TT 169, v)] := fun M A' E' Q' q => (Looks.of_peek (M := M) KI (bd_at m hfd hf (k := 0) (Nat.zero_le _) rfl (by decide))).here q
  refine wpAny_call (codeAny_call_def hd ho hdata (B.lim.keeps base) (codeRec_of KI hcode) hbody hbind (fun y hy => ?_) (fun y hy => ?_) (fun h₀ hns kk => ?_) ((Bool.not_eq_true' _).mp (aL (aR (aR (aR (aR rest)))))) ((Bool.not_eq_true' _).mp (aL (aR (aR (aR (aR (aR rest))))))) (kind_fn (aR (aR (aR (aR (aR (aR rest))))))))
  · have := List.all_eq_true.mp (aL rest) y hy
    simpa using this
  · rcases List.mem_cons.mp hy with rfl | hy
    · exact eq_of_beq (aL (aR rest))
    · rcases List.mem_cons.mp hy with rfl | hy
      · exact eq_of_beq (aL (aR (aR rest)))
      · cases hy
  have ek : ∀ y, (callEnv fd s.heap.objs.size 501).kindOf y = fd.scope.names.lookup y := fun y => rfl
  have kf : (callEnv fd s.heap.objs.size 501).scope.kind = .function := kind_fn (aR (aR (aR (aR (aR (aR rest))))))
  have n38 : (([(TT 38, Value.ref x), (TT 169, v)] : List (Str × Value)).reverse.lookup (TT 38)) = some (.ref x) := by
    have : (TT 38 == TT 169) = false := str_eqv 38 169
    simp [List.lookup, this]
  have n169 : (([(TT 38, Value.ref x), (TT 169, v)] : List (Str × Value)).reverse.lookup (TT 169)) = some v := by
    simp [List.lookup]
  refine wpAny_execs_cons (plainObj_wpAny_Assign_Attribute (wpAny_Name (wpAny_loadName_local kf ((ek _).trans (eq_of_beq (aL (aR (aR rest))))) hns n169 ?_) (TT_debug 169)) rfl)
  refine wpAny_Name (wpAny_loadName_local kf ((ek _).trans (eq_of_beq (aL (aR rest)))) hns n38 ?_) (TT_debug 38)
  refine set504 (s := { s with heap := h₀, toks := _ }) (KI.keeps kk) (kk _ _ hx) fun h' tk d k2 gx => ?_
  exact wpAny_execs_nil (hQ h' tk d (fun b o n e => k2 b o n (kk b o e)) gx)
theorem call504 {v : Value} {Q : Value → Shared → Prop} (B : Bs w hb) (base : ∀ a o, hb.get? a = some o → s.heap.get? a = some o) (hd : A.depth < 990)
    (hQ : ∀ h' tk x t d, (∀ b o, s.heap.get? b = some o → h'.get? b = some o) → s.heap.get? x = none → h'.get? x = some { excO t with dict := some d } → Q (.ref x) { s with heap := h', toks := tk }) : wpAny (model pw w) A (call (.ref 504) [v]) Q E s := by
  have KI := B.K base
  have ok := x504_ok w.params
  unfold x504 at ok
  simp only [Bool.and_eq_true, beq_iff_eq] at ok
  obtain ⟨⟨⟨⟨⟨⟨o1, o2⟩, o3⟩, o4⟩, o5⟩, o7⟩, o8⟩ := ok
  have F := PySem.F.excBase_Exception
  have T := tail_of_in KI o5
  have hC := KI 504 _ (cls_504 w.params)
  obtain ⟨hp, g, d, tk, os⟩ := s
  dsimp only at KI T hC base hQ
  have f1 := tc_lookup
  have f2 := tc_bind (.ref 504)
  have hT : (⟨hp, g, d, tk, os⟩ : Shared).TypeIs (.ref 504) "type" := ⟨_, hC, rfl⟩
  refine wpAny_call (codeAny_of_tree ?_)
  show wpAny _ _ (callAny (.ref 504) _) _ _ _
  repeat (any_goals (first | assumption | with_reducible refine wpAny_loadPart_at hC ?_ | wp_step))
  refine ⟨rfl, ?_⟩
  refine codeAny_call_builtin_at (Code.quiet_builtin _ (by decide +kernel)) entry_typeCall (wpAny_check_type_call_sub hC ?_)
  show wpAny _ (A.under (.builtin "type.__call__" ⟨.ref 504 :: [v], []⟩)) (Builtin.«type.__call__» ⟨[.ref 504, v], []⟩) _ _ _
  rw [und_is]
  repeat (first | with_reducible refine wpAny_loadPart_at hC ?_ | with_reducible refine wpAny_madeBy_exc hC ?_ | wp_step)
  refine codeAny_call_builtin_code (Code.quiet_builtin _ F.quiet) (wpAny_check_new_subT F T hC ?_)
  refine codeAny_exc_new_subT F T hC ?_ (by simp [sizeLine_eq])
  show wpAny _ _ _ _ _ _
  generalize hH : (hp.push { cls := .type "tuple", data := .seq [v].toArray }).push (excO hp.objs.size) = H
  have kk : ∀ b o, hp.get? b = some o → H.get? b = some o := fun b o e => hH ▸ Heap.get?_push_of_some _ (Heap.get?_push_of_some _ e)
  have gx : H.get? (hp.objs.size + 1) = some (excO hp.objs.size) := by rw [← hH]; heap_get
  have nx : hp.get? (hp.objs.size + 1) = none := Heap.get?_none_of_le (Nat.le_succ _)
  have hC₁ := kk _ _ hC
  have hcC : (Value.ref 504 :: [Value.ref 484, .type "Exception", .type "BaseException", .type "object"]).contains (.ref 504) = true := by simp
  unfold isInstance
  repeat (first | with_reducible refine wpAny_loadPart_at gx ?_ | (with_reducible refine wpAny_isSubtype_exc hC₁ ?_; rw [hcC]) | wp_step)
  show wpAny _ _ (typeLookup (.ref 504) "__init__") _ _ _
  refine (looks_findIn KI o7).keeps kk _ _ _ ⟨H, g, d, tk, os⟩ (fun zz zz e => e) ?_
  refine wpAny_holding (wpAny_bind ?_)
  refine (bind_fn KI (.ref (hp.objs.size + 1)) o8).keeps kk _ _ _ ⟨H, g, d, tk, os⟩ (fun zz zz e => e) ?_
  refine wpAny_bind (init504 (s := ⟨H, g, d, tk, os⟩) B (fun a o e => kk a o (base a o e)) (by show A.depth + 1 < 1000; lia) gx fun h' tk' d' k2 g2 => ?_)
  have fin := hQ h' tk' (hp.objs.size + 1) _ _ (fun b o e => k2 b o (fun q => by rw [q, nx] at e; cases e) (kk b o e)) nx g2
  wp_walk
  exact fin
end
end Mine
end
section
open PySem PySem.W PyProof.Rows PySem.Calls
namespace Mine
section
variable {w : World} {hb h₁ h h' h'' h0 : Heap} {Φ : List Env} {A : Around} {σ σ' σ'' : Sto} {s : Shared} {Z Z₁ Z' Z'' Z0 : Addr → Prop} {ρ ρ₁ ρ' ρ'' ρ0 : List Addr} {env : Env} {l : Loc} {E : Value → Shared → Prop} {ex : Addr → Prop} {ns : List (Str × NameKind)} {X : KX} {C : Calls}
theorem raise_any {x : Sem Value} {Q : Flow → Shared → Prop} (B : Bs w hb) (hh : A.handled = none)
    (h : wpAny (model pw w) A x (fun v s₁ => ∃ e t d, v = .ref e ∧ (∀ a o, hb.get? a = some o → s₁.heap.get? a = some o) ∧ s₁.heap.get? e = some { excO t with dict := some d } ∧ E (.ref e) s₁) E s) : wpAny (model pw w) A (raiseStmt env (some x) none) Q E s := by
  have hcB : (Value.ref 504 :: [Value.ref 484, .type "Exception", .type "BaseException", .type "object"]).contains (.type "BaseException") = true := by decide
  unfold raiseStmt
  refine wpAny_bind (wpAny_mono h (fun v s₁ h₁ => ?_) fun zz zz x => x)
  obtain ⟨e, t, d, rfl, base, he, hE⟩ := h₁
  have hC := B.K base 504 _ (cls_504 w.params)
  obtain ⟨hp, g, d, tk, os⟩ := s₁
  repeat (first | with_reducible refine wpAny_loadPart_at he ?_ | with_reducible refine wpAny_loadPart_at hC ?_ | (with_reducible refine wpAny_isSubtype_exc hC ?_; rw [hcB]) | wp_step)
  exact wpAny_raiseNew_none hh hE
theorem raisOk (B : Bs w hb) (AO : AOk 0 Φ A) : RaisOk w hb Φ A := fun ns env np cp pos a p fr hk hs h l σ F X wp s Z ρ Q E I O => by
  have fin : wpAny (model pw w) A (eval (.Call (.Name (TT 37) np) [a] [] cp) env) (fun v s₁ => ∃ e t d, v = .ref e ∧ (∀ a o, hb.get? a = some o → s₁.heap.get? a = some o) ∧ s₁.heap.get? e = some { excO t with dict := some d } ∧ E (.ref e) s₁) E s := by
    have hst : [a].all notStar = true := by simp [hs]
    refine Call_ (VT.gl (k := fun fv σ' => fv = .glob 37 ∧ σ' = σ) (X := X) B fr hk (by decide) ⟨rfl, rfl⟩ s Z ρ _ E I (fun fv σ₁ f h₁ Z₁ ρ₁ tk₁ hk₁ I₁ r₁ p₁ => ?_) O.xk) rfl
    obtain ⟨rfl, rfl⟩ := hk₁
    cases r₁ with
    | glob _ _ hf =>
    have ef : f = .ref 504 := by
      have : GL.lookup 37 = some (.ref 504) := by kernel_rfl
      rw [this] at hf; cases hf; rfl
    subst ef
    have wp' : valsV [p] l σ₁ (fun vs σ => match vs with
      | [_] => X σ
      | _ => False) X := wp
    refine callWith_any (first := []) hf hst ((h l).all hst σ₁ _ X wp' _ Z₁ ρ₁ _ E I₁ (fun vs σ₂ as₂ h₂ Z₂ ρ₂ tk₂ hk₂ I₂ r₂ p₂ => ⟨B.K I₂.st.base, ?_⟩) (XK.after O.xk p₁))
    obtain ⟨rr, _⟩ := r₂
    cases rr with
    | nil => exact hk₂.elim
    | cons _ av _ _ rv rr =>
    cases rr with
    | cons _ _ _ _ _ _ => exact hk₂.elim
    | nil =>
    have hx := hk₂
    show wpAny _ _ (call (.ref 504) [av]) _ _ _
    refine call504 (s := { s with heap := h₂, toks := tk₂ }) B I₂.st.base (by have := AO.dep; lia) fun h₃ tk₃ x t d kk nx gx => ?_
    have I₃ := I₂.keep kk
    have P : Post no s.heap Z ρ h₃ Z₂ ρ₂ := (p₁.trans p₂).trans (post_keep kk)
    have nr : x ∉ ρ₂ := fun m => by
      obtain ⟨o, g⟩ := I₂.st.mem_get m
      rw [nx] at g; cases g
    have nz : ¬ Z₂ x := fun z => by
      obtain ⟨o, g⟩ := I₂.st.zl x z
      rw [nx] at g; cases g
    exact ⟨x, t, d, rfl, I₃.st.base, gx, O.x _ l σ₂ h₃ Z₂ ρ₂ tk₃ hx ⟨x, _, _, rfl, get_none_of (p₁.trans p₂).live nx, nr, nz, gx, rfl, rfl, .inl rfl⟩ I₃ P.no⟩
  rw [arm_exec_Raise]
  refine wpAny_bind (wpAny_standAt ?_)
  first
    | exact raise_any B AO.hd (wpAny_bind (wpAny_mono fin (fun v s₃ h₃ => wpAny_bind (wpAny_standAt (wpAny_pure h₃))) fun zz zz x => x))
    | exact raise_any B AO.hd fin
    | (simp only [evalOpt, Option.map]; exact raise_any B AO.hd (wpAny_bind (wpAny_mono fin (fun v s₃ h₃ => wpAny_bind (wpAny_standAt (wpAny_pure h₃))) fun zz zz x => x)))
end
end Mine
end
section
namespace Mine
theorem Ret.same {σ : Sto} {v : AV} {k : KE} (h : k v σ) : Ret σ σ v k := .inl ⟨v, .refl v, h⟩
theorem Ret.stay {σ σ' : Sto} {v : AV} {k : KE} (h : k v σ') : Ret σ σ' v k := .inl ⟨v, .refl v, h⟩
theorem Cut.app {σ e : Sto} : Cut σ (σ ++ e) σ := ⟨rfl, fun i hi => ⟨List.getElem?_append_left hi, .inl rfl⟩⟩
theorem Ret.cut {σ e : Sto} {v : AV} {k : KE} (b : bnd σ.length v = true) (h : k v σ) : Ret σ (σ ++ e) v k := .inr ⟨v, v, σ, .refl v, b, .refl v, Cut.app, h⟩
theorem at0 {σ : Sto} {a : AO} {e : Sto} : (σ ++ a :: e)[σ.length]? = some a := by simp
theorem at1 {σ : Sto} {a b : AO} {e : Sto} : (σ ++ a :: b :: e)[σ.length + 1]? = some b := by simp
theorem Ret.list {σ e : Sto} {xs : List AV} {k : KE} (b : bnds σ.length xs = true) (h : k (.lst xs) σ) : Ret σ (σ ++ .list xs :: e) (.loc σ.length) k :=
  .inr ⟨.lst xs, .lst xs, σ, .list _ xs (Nat.le_refl _) at0, b, .refl _, Cut.app, h⟩
theorem Ret.vec {σ : Sto} {kd : Nat} {x : AV} {b : Bool} {k : KE} (hb : bnd σ.length x = true) (h : k (.vec kd x) σ) : Ret σ (σ ++ [.ns [(0, .str kd), (1, .lst [x]), (2, .none), (3, .bool b), (4, .bool false)], .inst 1 σ.length]) (.loc (σ.length + 1)) k :=
  .inr ⟨.vec kd x, .vec kd x, σ, .vec _ σ.length kd x b (Nat.le_succ _) (Nat.le_refl _) at1 at0, hb, .refl _, Cut.app, h⟩
theorem CM_fn {n g : Nat} {f : Fn} {vs : List AV} {σ : Sto} {k : KE} {X : KX} (hf : FN g = some f) (h : runF (CM n) f vs σ (fun v σ' => Ret σ σ' v k) X) : CM (n + 1) g vs σ k X := by
  show (match FN g with
    | some f => runF (CM n) f vs σ (fun v σ' => Ret σ σ' v k) X
    | Option.none => opt (CLN g) fun p => opt (FN p.2) fun f => runF (CM n) f (.loc (σ.length + 1) :: vs) (σ ++ [.ns [], .inst p.1 σ.length]) (fun v σ' => v = .none ∧ Ret σ σ' (.loc (σ.length + 1)) k) noX)
  rw [hf]; exact h
theorem CM_cls {n g c i : Nat} {f : Fn} {vs : List AV} {σ : Sto} {k : KE} {X : KX} (h0 : FN g = Option.none) (hc : CLN g = some (c, i)) (hf : FN i = some f)
    (h : runF (CM n) f (.loc (σ.length + 1) :: vs) (σ ++ [.ns [], .inst c σ.length]) (fun v σ' => v = .none ∧ Ret σ σ' (.loc (σ.length + 1)) k) noX) : CM (n + 1) g vs σ k X := by
  show (match FN g with
    | some f => runF (CM n) f vs σ (fun v σ' => Ret σ σ' v k) X
    | Option.none => opt (CLN g) fun p => opt (FN p.2) fun f => runF (CM n) f (.loc (σ.length + 1) :: vs) (σ ++ [.ns [], .inst p.1 σ.length]) (fun v σ' => v = .none ∧ Ret σ σ' (.loc (σ.length + 1)) k) noX)
  rw [h0, hc]
  show opt (FN i) _
  rw [hf]; exact h
noncomputable abbrev IsK (k : Nat) : Prop := k = 8 ∨ k = 9 ∨ k = 10 ∨ k = 11
noncomputable def S_len (C : Calls) : Prop := ∀ kd x σ (k : KE) X, IsK kd → k (.int 1) σ → C 187 [.vec kd x] σ k X
theorem b_len (C : Calls) {kd x σ} {r : KE} {X} (hk : IsK kd) (h : r (.int 1) σ) : runF C ⟨[84], b_length, 0⟩ [.vec kd x] σ r X := by
  rcases hk with rfl | rfl | rfl | rfl <;> (show wpB C b_length _ _ _ _; ktr_unf; exact h)
theorem o_len (n) : S_len (CM (n + 1)) := fun zz zz zz zz zz hk h => CM_fn rfl (b_len (CM n) hk (Ret.same h))
noncomputable def S_getattr (C : Calls) : Prop := ∀ kd x s σ (k : KE) X, k .none σ → C 167 [.vec kd x, .str s] σ k X
theorem b_getattr (C : Calls) {kd x s σ} {r : KE} {X} (h : r .none σ) : runF C ⟨[84, 5], b_get_attr, 0⟩ [.vec kd x, .str s] σ r X := by
  show wpB C b_get_attr _ _ _ _; ktr_unf; exact h
theorem o_getattr (n) : S_getattr (CM (n + 1)) := fun zz zz zz zz zz zz h => CM_fn rfl (b_getattr (CM n) (Ret.same h))
noncomputable def S_attribute (C : Calls) : Prop := ∀ kd x s σ (k : KE) X, k .none σ → C 205 [.vec kd x, .str s] σ k X
theorem b_attribute_ (C : Calls) {kd x s σ} {r : KE} {X} (h : r .none σ) : runF C ⟨[84, 5], b_attribute, 0⟩ [.vec kd x, .str s] σ r X := by
  show wpB C b_attribute _ _ _ _; ktr_unf; exact h
theorem o_attribute (n) : S_attribute (CM (n + 1)) := fun zz zz zz zz zz zz h => CM_fn rfl (b_attribute_ (CM n) (Ret.same h))
noncomputable def S_dim (C : Calls) : Prop := ∀ kd x σ (k : KE) X, k .none σ → C 188 [.vec kd x] σ k X
theorem b_dim (C : Calls) (h1 : S_getattr C) {kd x σ} {r : KE} {X} (h : r .none σ) : runF C ⟨[84], b_dim_of, 0⟩ [.vec kd x] σ r X := by
  show wpB C b_dim_of _ _ _ _; ktr_unf; refine h1 _ _ _ _ _ _ ?_; ktr_unf; exact h
theorem o_dim (n) : S_dim (CM (n + 2)) := fun zz zz zz zz zz h => CM_fn rfl (b_dim (CM (n + 1)) (o_getattr n) (Ret.same h))
noncomputable def S_share (C : Calls) : Prop := ∀ kd x σ (k : KE) X, k (.vec kd x) σ → C 129 [.vec kd x] σ k X
theorem b_share_ (C : Calls) {kd x σ} {r : KE} {X} (h : r (.vec kd x) σ) : runF C ⟨[84], b_share, 0⟩ [.vec kd x] σ r X := by
  show wpB C b_share _ _ _ _; ktr_unf; exact h
theorem o_share (n) : S_share (CM (n + 1)) := fun zz zz zz zz zz h => CM_fn rfl (b_share_ (CM n) (Ret.same h))
theorem setAV_new {σ : Sto} {kvs : List (Nat × AV)} {c f : Nat} {x : AV} (h : Nat.blt kvs.length 20 = true) : setAV (σ ++ [.ns kvs, .inst c σ.length]) (.loc (σ.length + 1)) f x = some (σ ++ [.ns (nsPut kvs f x), .inst c σ.length]) := by
  have e : (σ ++ [AO.ns kvs, .inst c σ.length]).set σ.length (.ns (nsPut kvs f x)) = σ ++ [.ns (nsPut kvs f x), .inst c σ.length] := by
    rw [List.set_append_right _ _ (Nat.le_refl _)]; simp
  unfold setAV
  simp only [expo, at1, at0]
  rw [if_pos (Nat.blt_eq.mp h), e]
noncomputable def S_vec (C : Calls) : Prop := ∀ kd x σ (k : KE) X, bnd σ.length x = true → k (.vec kd x) σ → C 32 [.str kd, .lst [x]] σ k X
theorem b_vec (C : Calls) {kd x} {σ : Sto} {r : KE} {X} (h : r .none (σ ++ [.ns [(0, .str kd), (1, .lst [x]), (2, .none), (3, .bool false), (4, .bool false)], .inst 1 σ.length])) :
    runF C ⟨[38, 0, 1, 2], b_Vector___init__, 1⟩ [.loc (σ.length + 1), .str kd, .lst [x]] (σ ++ [.ns [], .inst 1 σ.length]) r X := by
  show wpB C b_Vector___init__ _ _ _ _; ktr_unf
  tbr_iter (setAV_new rfl); ktr_unf
  tbr_iter (setAV_new rfl); ktr_unf
  tbr_iter (setAV_new rfl); ktr_unf
  tbr_iter (setAV_new rfl); ktr_unf
  tbr_iter (setAV_new rfl); ktr_unf
  exact h
theorem o_vec (n) : S_vec (CM (n + 1)) := fun zz zz zz zz zz hb h => CM_cls rfl rfl rfl (b_vec (CM n) ⟨rfl, Ret.vec hb h⟩)
end Mine
end
section
namespace Mine
noncomputable def S_rdim (C : Calls) : Prop := ∀ a x b y σ (k : KE) X, IsK a → IsK b → k .none σ → C 197 [.vec a x, .vec b y] σ k X
theorem b_rdim (C : Calls) (h1 : S_len C) (h2 : S_dim C) {a x b y σ} {r : KE} {X} (ha : IsK a) (hb : IsK b) (h : r .none σ) : runF C ⟨[186, 84], b_result_dim, 0⟩ [.vec a x, .vec b y] σ r X := by
  show wpB C b_result_dim _ _ _ _; ktr_unf
  refine h1 _ _ _ _ _ ha ?_; ktr_unf
  refine h1 _ _ _ _ _ hb ?_; ktr_unf
  refine h2 _ _ _ _ _ ?_; ktr_unf
  refine h2 _ _ _ _ _ ?_; ktr_unf
  exact h
theorem o_rdim (n) : S_rdim (CM (n + 3)) := fun zz zz zz zz zz zz zz ha hb h => CM_fn rfl (b_rdim (CM (n + 2)) (o_len (n + 1)) (o_dim n) ha hb (Ret.same h))
noncomputable def S_nao (C : Calls) : Prop := ∀ a x b y N σ (k : KE) X, k .none σ → C 198 [.vec a x, .vec b y, N] σ k X
theorem b_nao (C : Calls) (h2 : S_dim C) {a x b y N σ} {r : KE} {X} (h : r .none σ) : runF C ⟨[186, 84, 185], b_note_array_of_one, 0⟩ [.vec a x, .vec b y, N] σ r X := by
  show wpB C b_note_array_of_one _ _ _ _; ktr_unf
  refine h2 _ _ _ _ _ ?_; ktr_unf
  refine h2 _ _ _ _ _ ?_; ktr_unf
  exact h
theorem o_nao (n) : S_nao (CM (n + 3)) := fun zz zz zz zz zz zz zz zz h => CM_fn rfl (b_nao (CM (n + 2)) (o_dim n) (Ret.same h))
noncomputable def S_nrec (C : Calls) : Prop := ∀ N σ (k : KE) X, k .none σ → C 199 [.int 1, .int 1, N] σ k X
theorem b_nrec (C : Calls) {N σ} {r : KE} {X} (h : r .none σ) : runF C ⟨[172, 183, 185], b_note_recycling, 0⟩ [.int 1, .int 1, N] σ r X := by
  show wpB C b_note_recycling _ _ _ _; ktr_unf
  exact h
theorem o_nrec (n) : S_nrec (CM (n + 1)) := fun zz zz zz zz h => CM_fn rfl (b_nrec (CM n) (Ret.same h))
noncomputable def S_rec (C : Calls) : Prop := ∀ σ (k : KE) X, k (.int 1) σ → C 191 [.int 1, .int 1] σ k X
theorem b_rec (C : Calls) {σ} {r : KE} {X} (h : r (.int 1) σ) : runF C ⟨[172, 183], b_recycle_length, 0⟩ [.int 1, .int 1] σ r X := by
  show wpB C b_recycle_length _ _ _ _; ktr_unf
  exact h
theorem o_rec (n) : S_rec (CM (n + 1)) := fun zz zz zz h => CM_fn rfl (b_rec (CM n) (Ret.same h))
noncomputable def S_clen (C : Calls) : Prop := ∀ a x b y N σ (k : KE) X, IsK a → IsK b → k (.int 1) σ → C 226 [.vec a x, .vec b y, N] σ k X
theorem b_clen (C : Calls) (h1 : S_rdim C) (h2 : S_nao C) (h3 : S_len C) (h4 : S_nrec C) (h5 : S_rec C) {a x b y N σ} {r : KE} {X} (ha : IsK a) (hb : IsK b) (h : r (.int 1) σ) : runF C ⟨[186, 84, 185], b_common_length, 0⟩ [.vec a x, .vec b y, N] σ r X := by
  show wpB C b_common_length _ _ _ _; ktr_unf
  refine h1 _ _ _ _ _ _ _ ha hb ?_; ktr_unf
  refine h2 _ _ _ _ _ _ _ _ ?_; ktr_unf
  refine h3 _ _ _ _ _ ha ?_; ktr_unf
  refine h3 _ _ _ _ _ hb ?_; ktr_unf
  refine h4 _ _ _ _ ?_; ktr_unf
  refine h3 _ _ _ _ _ ha ?_; ktr_unf
  refine h3 _ _ _ _ _ hb ?_; ktr_unf
  refine h5 _ _ _ ?_; ktr_unf
  exact h
theorem o_clen (n) : S_clen (CM (n + 4)) := fun zz zz zz zz zz zz zz zz ha hb h => CM_fn rfl (b_clen (CM (n + 3)) (o_rdim n) (o_nao n) (o_len (n + 2)) (o_nrec (n + 2)) (o_rec (n + 2)) ha hb (Ret.same h))
theorem truth_dict0 {σ : Sto} : truthOf (σ ++ [.dict []]) (.loc σ.length) = some false := by simp [truthOf]
noncomputable def S_shape (C : Calls) : Prop := ∀ a x b y c z σ (k : KE) X, IsK a → IsK b → k .none σ → C 207 [.vec a x, .vec b y, .vec c z] σ k X
theorem b_shape (C : Calls) (h1 : S_rdim C) (h2 : S_attribute C) {a x b y c z σ} {r : KE} {X} (ha : IsK a) (hb : IsK b) (h : r .none (σ ++ [.dict []])) : runF C ⟨[186, 84, 206], b_shape_attrs, 0⟩ [.vec a x, .vec b y, .vec c z] σ r X := by
  show wpB C b_shape_attrs _ _ _ _; ktr_unf
  refine h1 _ _ _ _ _ _ _ ha hb ?_; ktr_unf
  refine h2 _ _ _ _ _ _ ?_; ktr_unf
  refine h2 _ _ _ _ _ _ ?_; ktr_unf; (all_goals try (conv => whnf))
  rw [show truthOf (σ ++ [.dict (([] : List Nat).zip ([] : List AV))]) (.loc σ.length) = some false from truth_dict0]; ktr_unf; (all_goals try (conv => whnf))
  exact h
theorem o_shape (n) : S_shape (CM (n + 4)) := fun zz zz zz zz zz zz zz zz zz ha hb h => CM_fn rfl (b_shape (CM (n + 3)) (o_rdim n) (o_attribute (n + 2)) ha hb (Ret.cut rfl h))
noncomputable def S_rattrs (C : Calls) : Prop := ∀ a x b y c z σ (k : KE) X, IsK a → IsK b → k .none σ → C 230 [.vec a x, .vec b y, .vec c z] σ k X
theorem b_rattrs (C : Calls) (h1 : S_shape C) {a x b y c z σ} {r : KE} {X} (ha : IsK a) (hb : IsK b) (h : r .none σ) : runF C ⟨[186, 84, 206], b_result_attrs, 0⟩ [.vec a x, .vec b y, .vec c z] σ r X := by
  show wpB C b_result_attrs _ _ _ _; ktr_unf
  refine h1 _ _ _ _ _ _ _ _ _ ha hb ?_; ktr_unf
  exact h
theorem o_rattrs (n) : S_rattrs (CM (n + 5)) := fun zz zz zz zz zz zz zz zz zz ha hb h => CM_fn rfl (b_rattrs (CM (n + 4)) (o_shape n) ha hb (Ret.same h))
noncomputable def S_keep (C : Calls) : Prop := ∀ a x b y σ (k : KE) X, k (.vec b y) σ → C 234 [.vec a x, .vec b y] σ k X
theorem b_keep (C : Calls) {a x b y σ} {r : KE} {X} (h : r (.vec b y) σ) : runF C ⟨[84, 206], b_keep_all, 0⟩ [.vec a x, .vec b y] σ r X := by
  show wpB C b_keep_all _ _ _ _; ktr_unf
  exact h
theorem o_keep (n) : S_keep (CM (n + 1)) := fun zz zz zz zz zz zz zz h => CM_fn rfl (b_keep (CM n) (Ret.same h))
noncomputable abbrev IsN (k : Nat) : Prop := k = 8 ∨ k = 9 ∨ k = 10
theorem IsN.k {k : Nat} (h : IsN k) : IsK k := h.elim .inl fun h => h.elim (fun h => .inr (.inl h)) fun h => .inr (.inr (.inl h))
noncomputable def S_nitems (C : Calls) : Prop := (∀ kd x σ (k : KE) X, IsN kd → k (.lst [x]) σ → C 219 [.vec kd x] σ k X) ∧ ∀ x σ (k : KE) (X : KX), X σ → C 219 [.vec 11 x] σ k X
theorem b_nitems (C : Calls) {kd x σ} {r : KE} {X} (hk : IsN kd) (h : r (.lst [x]) σ) : runF C ⟨[84], b_number_items, 0⟩ [.vec kd x] σ r X := by
  rcases hk with rfl | rfl | rfl <;> (show wpB C b_number_items _ _ _ _; ktr_unf; exact h)
theorem b_nitemsX (C : Calls) {x σ} {r : KE} {X : KX} (h : X σ) : runF C ⟨[84], b_number_items, 0⟩ [.vec 11 x] σ r X := by
  show wpB C b_number_items _ _ _ _; ktr_unf; exact h
theorem o_nitems (n) : S_nitems (CM (n + 1)) := ⟨fun zz zz zz zz zz hk h => CM_fn rfl (b_nitems (CM n) hk (Ret.same h)), fun zz zz zz zz h => CM_fn rfl (b_nitemsX (CM n) h)⟩
noncomputable def S_fint (C : Calls) : Prop := ∀ i σ (k : KE) X, k (.tup [.int i, .int 1]) σ → C 220 [.int i] σ k X
theorem b_fint (C : Calls) {i σ} {r : KE} {X} (h : r (.tup [.int i, .int 1]) σ) : runF C ⟨[172], b_from_int, 0⟩ [.int i] σ r X := by
  show wpB C b_from_int _ _ _ _; ktr_unf; exact h
theorem o_fint (n) : S_fint (CM (n + 1)) := fun zz zz zz zz h => CM_fn rfl (b_fint (CM n) (Ret.same h))
noncomputable def numV (kd : Nat) (i : Int) : AV := .vec kd (if kd = 8 then .tup [.int i, .int 1] else .int i)
noncomputable def S_dia (g : Nat) (C : Calls) : Prop := ∀ kd i σ (k : KE) X, IsN kd → k (.lst [.tup [.int i, .int 1]]) σ → C g [numV kd i] σ k X
theorem b_dia (C : Calls) (h1 : S_nitems C) (h2 : S_fint C) {kd i σ} {r : KE} {X} (hk : IsN kd) (h : r (.lst [.tup [.int i, .int 1]]) σ) : runF C ⟨[84], b_double_items_arith, 0⟩ [numV kd i] σ r X := by
  have hk' := hk
  rcases hk with rfl | rfl | rfl <;> (show wpB C b_double_items_arith _ _ _ _; ktr_unf; refine h1.1 _ _ _ _ _ hk' ?_; ktr_unf)
  · exact h
  · refine h2 _ _ _ _ ?_; ktr_unf; exact h
  · refine h2 _ _ _ _ ?_; ktr_unf; exact h
theorem o_dia (n) : S_dia 227 (CM (n + 2)) := fun zz zz zz zz zz hk h => CM_fn rfl (b_dia (CM (n + 1)) (o_nitems n) (o_fint n) hk (Ret.same h))
theorem b_dic (C : Calls) (h2 : S_fint C) {kd i σ} {r : KE} {X} (hk : IsN kd) (h : r (.lst [.tup [.int i, .int 1]]) σ) : runF C ⟨[84], b_double_items_compare, 0⟩ [numV kd i] σ r X := by
  rcases hk with rfl | rfl | rfl <;> (show wpB C b_double_items_compare _ _ _ _; ktr_unf)
  · exact h
  · refine h2 _ _ _ _ ?_; ktr_unf; exact h
  · refine h2 _ _ _ _ ?_; ktr_unf; exact h
theorem o_dic (n) : S_dia 244 (CM (n + 2)) := fun zz zz zz zz zz hk h => CM_fn rfl (b_dic (CM (n + 1)) (o_fint n) hk (Ret.same h))
end Mine
end
section
namespace Mine
noncomputable abbrev rat (i : Int) : AV := .tup [.int i, .int 1]
noncomputable def S_isna (C : Calls) : Prop := ∀ i σ (k : KE) X, k (.bool false) σ → C 176 [rat i] σ k X
theorem b_isna (C : Calls) {i σ} {r : KE} {X} (h : r (.bool false) σ) : runF C ⟨[17], b_is_na, 0⟩ [rat i] σ r X := by
  show wpB C b_is_na _ _ _ _; ktr_unf
  · exact h
  · rw [hc]; exact h
theorem o_isna (n) : S_isna (CM (n + 1)) := fun zz zz zz zz h => CM_fn rfl (b_isna (CM n) (Ret.same h))
noncomputable def S_neg (C : Calls) : Prop := ∀ i σ (k : KE) X, k (rat (0 - i)) σ → C 179 [rat i] σ k X
theorem b_neg_ (C : Calls) {i σ} {r : KE} {X} (h : r (rat (0 - i)) σ) : runF C ⟨[17], b_neg, 0⟩ [rat i] σ r X := by
  show wpB C b_neg _ _ _ _; ktr_unf; exact h
theorem o_neg (n) : S_neg (CM (n + 1)) := fun zz zz zz zz h => CM_fn rfl (b_neg_ (CM n) (Ret.same h))
noncomputable def S_gcd (C : Calls) : Prop := ∀ i σ (k : KE) X, k (.int 1) σ → C 175 [.int i, .int 1] σ k X
theorem b_gcd_ (C : Calls) {i σ} {r : KE} {X} (h : r (.int 1) σ) : runF C ⟨[13, 170], b_gcd, 0⟩ [.int i, .int 1] σ r X := by
  show wpB C b_gcd _ _ _ _
  (conv => whnf)
  refine ⟨fun l s => s = σ ∧ (l = [(13, .int i), (170, .int 1)] ∨ l = [(13, .int 1), (170, .int 0)]), fun l zz => match nsLk l 170 with
    | some (.int 1) => 1
    | _ => 0, ⟨rfl, .inl rfl⟩, ?_⟩
  rintro l s ⟨rfl, rfl | rfl⟩
  · ktr_unf
    have e : Int.fmod i 1 = 0 := by simp
    refine ⟨⟨rfl, .inr ?_⟩, ?_⟩
    · show [((13 : Nat), AV.int 1), (170, .int (Int.fmod i 1))] = _
      rw [e]
    · show (match (some (AV.int (Int.fmod i 1)) : Option AV) with
        | some (.int 1) => 1
        | _ => 0) < 1
      rw [e]; decide
  · ktr_unf
    exact h
theorem o_gcd (n) : S_gcd (CM (n + 1)) := fun zz zz zz zz h => CM_fn rfl (b_gcd_ (CM n) (Ret.same h))
noncomputable def S_make (C : Calls) : Prop := ∀ i σ (k : KE) X, k (rat i) σ → C 178 [.int i, .int 1] σ k X
theorem b_make_ (C : Calls) (h1 : S_gcd C) {i σ} {r : KE} {X} (h : r (rat i) σ) : runF C ⟨[172, 171], b_make, 0⟩ [.int i, .int 1] σ r X := by
  show wpB C b_make _ _ _ _; ktr_unf
  refine h1 _ _ _ _ ?_; ktr_unf
  rw [show rat i = .tup [.int (i / 1), .int (1 / 1)] by simp [rat]] at h
  exact h
theorem o_make (n) : S_make (CM (n + 2)) := fun zz zz zz zz h => CM_fn rfl (b_make_ (CM (n + 1)) (o_gcd n) (Ret.same h))
theorem mul_of {x y : Int} (hx : Small x) (hy : Small y) : binOf 2 (.int x) (.int y) = some (.int (x * y)) := if_pos ⟨hx, hy⟩
theorem small1 : Small 1 := by unfold Small; decide
noncomputable def S_add (C : Calls) : Prop := ∀ i j σ (k : KE) X, Small i → Small j → k (rat (i + j)) σ → C 180 [rat i, rat j] σ k X
theorem b_add_ (C : Calls) (h1 : S_isna C) (h2 : S_make C) {i j σ} {r : KE} {X} (hi : Small i) (hj : Small j) (h : r (rat (i + j)) σ) : runF C ⟨[17, 18], b_add, 0⟩ [rat i, rat j] σ r X := by
  show wpB C b_add _ _ _ _; ktr_unf
  refine h1 _ _ _ _ ?_; ktr_unf
  refine h1 _ _ _ _ ?_; ktr_unf
  tbr_iter (mul_of hi small1); ktr_unf
  tbr_iter (mul_of hj small1); ktr_unf
  rw [show rat (i + j) = rat (i * 1 + j * 1) by simp] at h
  exact h2 _ _ _ _ h
theorem o_add (n) : S_add (CM (n + 3)) := fun zz zz zz zz zz hi hj h => CM_fn rfl (b_add_ (CM (n + 2)) (o_isna (n + 1)) (o_make n) hi hj (Ret.same h))
noncomputable def S_sub (C : Calls) : Prop := ∀ i j σ (k : KE) X, Small i → Small (0 - j) → k (rat (i - j)) σ → C 212 [rat i, rat j] σ k X
theorem b_sub_ (C : Calls) (h1 : S_neg C) (h2 : S_add C) {i j σ} {r : KE} {X} (hi : Small i) (hj : Small (0 - j)) (h : r (rat (i - j)) σ) : runF C ⟨[17, 18], b_sub, 0⟩ [rat i, rat j] σ r X := by
  show wpB C b_sub _ _ _ _; ktr_unf
  refine h1 _ _ _ _ ?_; ktr_unf
  rw [show rat (i - j) = rat (i + (0 - j)) by congr 2; lia] at h
  exact h2 _ _ _ _ _ hi hj h
theorem o_sub (n) : S_sub (CM (n + 4)) := fun zz zz zz zz zz hi hj h => CM_fn rfl (b_sub_ (CM (n + 3)) (o_neg (n + 2)) (o_add n) hi hj (Ret.same h))
noncomputable def S_mul (C : Calls) : Prop := ∀ i j σ (k : KE) X, Small i → Small j → k (rat (i * j)) σ → C 213 [rat i, rat j] σ k X
theorem b_mul_ (C : Calls) (h1 : S_isna C) (h2 : S_make C) {i j σ} {r : KE} {X} (hi : Small i) (hj : Small j) (h : r (rat (i * j)) σ) : runF C ⟨[17, 18], b_mul, 0⟩ [rat i, rat j] σ r X := by
  show wpB C b_mul _ _ _ _; ktr_unf
  refine h1 _ _ _ _ ?_; ktr_unf
  refine h1 _ _ _ _ ?_; ktr_unf
  tbr_iter (mul_of hi hj); ktr_unf
  exact h2 _ _ _ _ h
theorem o_mul (n) : S_mul (CM (n + 3)) := fun zz zz zz zz zz hi hj h => CM_fn rfl (b_mul_ (CM (n + 2)) (o_isna (n + 1)) (o_make n) hi hj (Ret.same h))
noncomputable def sgn (i j : Int) : Int := if i = j then 0 else if i < j then -1 else 1
noncomputable def S_cmp (C : Calls) : Prop := ∀ i j σ (k : KE) X, Small i → Small j → k (.int (sgn i j)) σ → C 245 [rat i, rat j] σ k X
theorem b_cmp (C : Calls) (h1 : S_isna C) {i j σ} {r : KE} {X} (hi : Small i) (hj : Small j) (h : r (.int (sgn i j)) σ) : runF C ⟨[17, 18], b_compare, 0⟩ [rat i, rat j] σ r X := by
  show wpB C b_compare _ _ _ _; ktr_unf
  refine h1 _ _ _ _ ?_; ktr_unf
  refine h1 _ _ _ _ ?_; ktr_unf
  tbr_iter (mul_of hi small1); ktr_unf
  tbr_iter (mul_of hj small1); ktr_unf
  · have e : i * 1 = j * 1 := of_decide_eq_true hc
    rw [show sgn i j = 0 from if_pos (by lia)] at h
    exact h
  · have e : ¬ i * 1 = j * 1 := of_decide_eq_false (by assumption)
    have e2 : i * 1 < j * 1 := of_decide_eq_true hc
    rw [show sgn i j = -1 by unfold sgn; rw [if_neg (by lia), if_pos (by lia)]] at h
    exact h
  · have e : ¬ i * 1 = j * 1 := of_decide_eq_false (by assumption)
    have e2 : ¬ i * 1 < j * 1 := of_decide_eq_false hc
    rw [show sgn i j = 1 by unfold sgn; rw [if_neg (by lia), if_neg (by lia)]] at h
    exact h
theorem o_cmp (n) : S_cmp (CM (n + 2)) := fun zz zz zz zz zz hi hj h => CM_fn rfl (b_cmp (CM (n + 1)) (o_isna n) hi hj (Ret.same h))
noncomputable def S_within (C : Calls) : Prop := ∀ i σ (k : KE) X, Small i → k (rat i) σ → C 211 [rat i] σ k X
theorem small_most {i : Int} (h : Small i) : (if i < 0 then -i else i) ≤ mostD := by
  have e : (2 : Int) ^ 2000 ≤ mostD := by unfold mostD; exact Int.ofNat_le.mpr (show 2 ^ 2000 ≤ 10 ^ 5000 by decide +kernel)
  unfold Small at h
  have : ((i.natAbs : Nat) : Int) < 2 ^ 2000 := by exact_mod_cast h
  split <;> lia
theorem b_within_ (C : Calls) {i σ} {r : KE} {X} (hi : Small i) (h : r (rat i) σ) : runF C ⟨[17], b_within, 0⟩ [rat i] σ r X := by
  have hm := small_most hi
  show wpB C b_within _ _ _ _; ktr_unf
  all_goals first | exact h | exact absurd (of_decide_eq_true ‹decide ((if i < 0 then -i else i) > mostD) = true›) (Int.not_lt.mpr hm)
theorem o_within (n) : S_within (CM (n + 1)) := fun zz zz zz zz hi h => CM_fn rfl (b_within_ (CM n) hi (Ret.same h))
end Mine
end
section
namespace Mine
noncomputable def figOf (op : Nat) (i j : Int) : Int := if op = 90 then i + j else if op = 91 then i - j else i * j
noncomputable abbrev IsO (op : Nat) : Prop := op = 90 ∨ op = 91 ∨ op = 92
noncomputable def Sm2 (i j : Int) : Prop := Small i ∧ Small j ∧ Small (0 - j) ∧ Small (i + j) ∧ Small (i - j) ∧ Small (i * j)
noncomputable def S_dop (C : Calls) : Prop := ∀ op i j σ (k : KE) X, IsO op → Sm2 i j → k (rat (figOf op i j)) σ → C 225 [.str op, rat i, rat j] σ k X
theorem b_dop (C : Calls) (h1 : S_add C) (h2 : S_sub C) (h3 : S_mul C) (h4 : S_within C) {op i j σ} {r : KE} {X} (ho : IsO op) (hs : Sm2 i j) (h : r (rat (figOf op i j)) σ) : runF C ⟨[64, 17, 18], b_double_op, 0⟩ [.str op, rat i, rat j] σ r X := by
  obtain ⟨s1, s2, s3, s4, s5, s6⟩ := hs
  rcases ho with rfl | rfl | rfl <;> (show wpB C b_double_op _ _ _ _; ktr_unf)
  · refine h1 _ _ _ _ _ s1 s2 ?_; ktr_unf; exact h4 _ _ _ _ s4 h
  · refine h2 _ _ _ _ _ s1 s3 ?_; ktr_unf; exact h4 _ _ _ _ s5 h
  · refine h3 _ _ _ _ _ s1 s2 ?_; ktr_unf; exact h4 _ _ _ _ s6 h
theorem o_dop (n) : S_dop (CM (n + 5)) := fun zz zz zz zz zz zz ho hs h => CM_fn rfl (b_dop (CM (n + 4)) (o_add (n + 1)) (o_sub n) (o_mul (n + 1)) (o_within (n + 3)) ho hs (Ret.same h))
noncomputable def intV (op : Nat) (i j : Int) : AV := if (figOf op i j).natAbs ≤ 2147483647 then .int (figOf op i j) else .none
noncomputable def S_iop (C : Calls) : Prop := ∀ op i j σ (k : KE) X, IsO op → Sm2 i j → k (intV op i j) σ → C 223 [.str op, .int i, .int j] σ k X
theorem abs_le {x : Int} : (if x < 0 then -x else x) > 2147483647 ↔ ¬ x.natAbs ≤ 2147483647 := by split <;> lia
theorem b_iop (C : Calls) {op i j σ} {r : KE} {X} (ho : IsO op) (hs : Sm2 i j) (h : r (intV op i j) σ) : runF C ⟨[64, 13, 170], b_integer_op, 0⟩ [.str op, .int i, .int j] σ r X := by
  obtain ⟨s1, s2, s3, s4, s5, s6⟩ := hs
  have fin : ∀ x : Int, figOf op i j = x → (decide ((if x < 0 then -x else x) > 2147483647) = true → r .none σ) ∧ (decide ((if x < 0 then -x else x) > 2147483647) = false → r (.int x) σ) := fun x e => by
    unfold intV at h
    rw [e] at h
    refine ⟨fun hc => ?_, fun hc => ?_⟩
    · rw [if_neg (abs_le.mp (of_decide_eq_true hc))] at h; exact h
    · rw [if_pos (Classical.byContradiction fun q => of_decide_eq_false hc (abs_le.mpr q))] at h; exact h
  rcases ho with rfl | rfl | rfl
  · show wpB C b_integer_op _ _ _ _; ktr_unf
    · exact (fin _ rfl).1 hc
    · exact (fin _ rfl).2 hc
  · show wpB C b_integer_op _ _ _ _; ktr_unf
    · exact (fin _ rfl).1 hc
    · exact (fin _ rfl).2 hc
  · show wpB C b_integer_op _ _ _ _; ktr_unf
    tbr_iter (mul_of s1 s2); ktr_unf
    · exact (fin _ rfl).1 hc
    · exact (fin _ rfl).2 hc
theorem o_iop (n) : S_iop (CM (n + 1)) := fun zz zz zz zz zz zz ho hs h => CM_fn rfl (b_iop (CM n) ho hs (Ret.same h))
noncomputable def S_dres (C : Calls) : Prop := ∀ op i j σ (k : KE) X, IsO op → Sm2 i j → k (.lst [rat (figOf op i j)]) σ → C 228 [.str op, .lst [rat i], .lst [rat j], .int 1] σ k X
theorem b_dres (C : Calls) (h1 : S_dop C) {op i j σ} {r : KE} {X} (ho : IsO op) (hs : Sm2 i j) (h : r (.lst [rat (figOf op i j)]) σ) : runF C ⟨[64, 181, 182, 172], b_double_result, 0⟩ [.str op, .lst [rat i], .lst [rat j], .int 1] σ r X := by
  show wpB C b_double_result _ _ _ _; ktr_unf
  refine h1 _ _ _ _ _ _ ho hs ?_; ktr_unf
  exact h
theorem o_dres (n) : S_dres (CM (n + 6)) := fun zz zz zz zz zz zz ho hs h => CM_fn rfl (b_dres (CM (n + 5)) (o_dop n) ho hs (Ret.same h))
end Mine
end
section
namespace Mine
theorem set0 {σ e : Sto} {a b : AO} : (σ ++ a :: e).set σ.length b = σ ++ b :: e := by rw [List.set_append_right _ _ (Nat.le_refl _)]; simp
theorem set1 {σ e : Sto} {a b c : AO} : (σ ++ a :: b :: e).set (σ.length + 1) c = σ ++ a :: c :: e := by rw [List.set_append_right _ _ (Nat.le_succ _)]; simp
theorem cal_app {σ : Sto} {l : Nat} {xs : List AV} (h : σ[l]? = some (.list xs)) : calOf σ (.loc l) 29 = some (.lst l) := by unfold calOf; simp [h]
theorem cal_pop {σ : Sto} {l : Nat} {xs : List AV} (h : σ[l]? = some (.list xs)) : calOf σ (.loc l) 30 = some (.lst l) := by unfold calOf; simp [h]
theorem len_loc {σ : Sto} {l : Nat} {xs : List AV} (h : σ[l]? = some (.list xs)) : lenOf σ (.loc l) = some (xs.length : Int) := by unfold lenOf; simp [expo, h]
theorem app_len (σ : Sto) (a : AO) : (σ ++ [a]).length = σ.length + 1 := by simp
theorem at0' {σ : Sto} {a : AO} {e : Sto} {n : Nat} (h : n = σ.length) : (σ ++ a :: e)[n]? = some a := by subst h; exact at0
noncomputable def noteOf (op : Nat) (i j : Int) : List AV := if (figOf op i j).natAbs ≤ 2147483647 then [] else [.str 224]
noncomputable def S_ires (C : Calls) : Prop := ∀ op i j (τ : Sto) (k : KE) X, IsO op → Sm2 i j → k (.lst [intV op i j]) (τ ++ [.list (noteOf op i j)]) → C 229 [.str op, .lst [.int i], .lst [.int j], .int 1, .loc τ.length] (τ ++ [.list []]) k X
theorem op_yes {σ : Sto} {op : Nat} (ho : IsO op) : cmpS σ 8 (.str op) (.tup [.str 90, .str 91, .str 92]) = some true := by rcases ho with rfl | rfl | rfl <;> rfl
theorem b_ires (C : Calls) (h1 : S_iop C) {op i j} {τ : Sto} {r : KE} {X} (ho : IsO op) (hs : Sm2 i j) (h : r (.loc (τ ++ [AO.list []]).length) (τ ++ [.list (noteOf op i j), .list [intV op i j]])) :
    runF C ⟨[64, 181, 182, 172, 185], b_integer_result, 0⟩ [.str op, .lst [.int i], .lst [.int j], .int 1, .loc τ.length] (τ ++ [.list []]) r X := by
  have e0 : ((τ ++ [AO.list []]) ++ [AO.list []])[(τ ++ [AO.list []]).length]? = some (.list []) := at0
  have e1 : ((τ ++ [AO.list []]) ++ [AO.list []]).set (τ ++ [AO.list []]).length (.list ([] ++ [intV op i j])) = τ ++ [.list [], .list [intV op i j]] := by rw [set0]; simp
  have e2 : (τ ++ [AO.list [], .list [intV op i j]])[τ.length]? = some (.list []) := at0
  have e3 : (τ ++ [AO.list [], .list [intV op i j]]).set τ.length (.list ([] ++ [.str 224])) = τ ++ [.list [.str 224], .list [intV op i j]] := by rw [set0]; rfl
  by_cases hf : (figOf op i j).natAbs ≤ 2147483647
  · have ev : intV op i j = .int (figOf op i j) := if_pos hf
    have en : noteOf op i j = [] := if_pos hf
    rw [ev] at e1 e2 e3
    rw [ev, en] at h
    · show wpB C b_integer_result _ _ _ _; ktr_unf
      refine h1 _ _ _ _ _ _ ho hs ?_
      tbr_iter (ev); ktr_unf
      tbr_iter (cal_app e0); ktr_unf
      tbr_iter (e0); ktr_unf
      refine And.intro (by decide) ?_
      tbr_iter (e1); ktr_unf
      exact h
  · have ev : intV op i j = .none := if_neg hf
    have en : noteOf op i j = [.str 224] := if_neg hf
    rw [ev] at e1 e2 e3
    rw [ev, en] at h
    · show wpB C b_integer_result _ _ _ _; ktr_unf
      refine h1 _ _ _ _ _ _ ho hs ?_
      tbr_iter (ev); ktr_unf
      apply opt_of (op_yes ho); ktr_unf
      tbr_iter (cal_app e0); ktr_unf
      tbr_iter (e0); ktr_unf
      refine And.intro (by decide) ?_
      tbr_iter (e1); ktr_unf
      tbr_iter (cal_app e2); ktr_unf
      tbr_iter (e2); ktr_unf
      refine And.intro (by decide) ?_
      tbr_iter (e3); ktr_unf
      exact h
theorem cut_note {τ : Sto} {xs ns : List AV} {k : KE} (b : bnds (τ ++ [AO.list []]).length xs = true) (bn : bnds (τ ++ [AO.list []]).length ns = true) (h : k (.lst xs) (τ ++ [.list ns])) :
    Ret (τ ++ [AO.list []]) (τ ++ [.list ns, .list xs]) (.loc (τ ++ [AO.list []]).length) k := by
  have e : τ ++ [AO.list ns, .list xs] = (τ ++ [AO.list ns]) ++ [.list xs] := by simp
  refine .inr ⟨.lst xs, .lst xs, τ ++ [.list ns], .list _ xs (Nat.le_refl _) ?_, b, .refl _, ⟨by simp, fun i hi => ?_⟩, h⟩
  · rw [e]; exact at0' (by simp)
  · have hi' : i < (τ ++ [AO.list ns]).length := by simpa using hi
    rw [e, List.getElem?_append_left hi']
    refine ⟨rfl, ?_⟩
    by_cases q : i < τ.length
    · left; rw [List.getElem?_append_left q, List.getElem?_append_left q]
    · have : i = τ.length := by simp at hi; lia
      subst this
      exact .inr ⟨.list ns, at0, bn⟩
theorem bnd_intV (n op i j) : bnd n (intV op i j) = true := by unfold intV; split <;> rfl
theorem bnd_note (n op i j) : bnds n (noteOf op i j) = true := by unfold noteOf; split <;> rfl
theorem o_ires (n) : S_ires (CM (n + 2)) := fun op i j τ k X ho hs h => CM_fn rfl (b_ires (CM (n + 1)) (o_iop n) ho hs (cut_note (by simp [bnds, bnd_intV]) (bnd_note _ _ _ _) h))
end Mine
end
section
namespace Mine
noncomputable abbrev txtV : AV := .vec 11 (.str 13)
noncomputable def S_arith (C : Calls) : Prop := (∀ op a i b j (τ : Sto) (k : KE) X, IsO op → IsN a → IsN b → Sm2 i j →
    ((a = 8 ∨ b = 8) → k (numV 8 (figOf op i j)) (τ ++ [.list []])) → (¬ (a = 8 ∨ b = 8) → k (.vec 9 (intV op i j)) (τ ++ [.list (noteOf op i j)])) → C 258 [.str op, numV a i, numV b j, .loc τ.length] (τ ++ [.list []]) k X) ∧
  (∀ op v N σ (k : KE) (X : KX), X σ → C 258 [.str op, txtV, v, N] σ k X) ∧ ∀ op a i N σ (k : KE) (X : KX), IsN a → X σ → C 258 [.str op, numV a i, txtV, N] σ k X
theorem bnd_rat (n : Nat) (i : Int) : bnd n (rat i) = true := rfl
theorem op_no {σ : Sto} {op : Nat} (ho : IsO op) : cmpS σ 8 (.str op) (.tup [.str 93, .str 94]) = some false := by rcases ho with rfl | rfl | rfl <;> rfl
theorem b_arith_ (C : Calls) (h1 : S_nitems C) (h2 : S_clen C) (h3 : S_dia 227 C) (h4 : S_dres C) (h5 : S_ires C) (h6 : S_vec C) (h7 : S_rattrs C) {op a i b j} {τ : Sto} {r : KE} {X} (ho : IsO op) (ha : IsN a) (hb : IsN b) (hs : Sm2 i j)
    (k1 : (a = 8 ∨ b = 8) → r (numV 8 (figOf op i j)) (τ ++ [.list []])) (k2 : ¬ (a = 8 ∨ b = 8) → r (.vec 9 (intV op i j)) (τ ++ [.list (noteOf op i j)])) :
    runF C ⟨[64, 186, 84, 185], b_arith, 0⟩ [.str op, numV a i, numV b j, .loc τ.length] (τ ++ [.list []]) r X := by
  have n1 : numV a i = .vec a (if a = 8 then .tup [.int i, .int 1] else .int i) := rfl
  have n2 : numV b j = .vec b (if b = 8 then .tup [.int j, .int 1] else .int j) := rfl
  by_cases h8 : a = 8 ∨ b = 8
  · have k1 := k1 h8
    show wpB C b_arith _ _ _ _; ktr_unf
    refine h1.1 _ _ _ _ _ ha ?_; ktr_unf
    refine h1.1 _ _ _ _ _ hb ?_; ktr_unf
    refine h2 _ _ _ _ _ _ _ _ ha.k hb.k ?_; ktr_unf
    have fin : C 227 [numV a i] (τ ++ [.list []]) (fun v σ => C 227 [numV b j] σ (fun v' σ => C 228 [.str op, v, v', .int 1] σ (fun v'' σ => C 32 [.str 8, v''] σ (fun v3 σ => C 230 [numV a i, numV b j, v3] σ (fun zz σ => r v3 σ) X) X) X) X) X := by
      refine h3 _ _ _ _ _ ha (h3 _ _ _ _ _ hb (h4 _ _ _ _ _ _ ho hs (h6 _ _ _ _ _ rfl (h7 _ _ _ _ _ _ _ _ _ ha.k hb.k k1))))
    clear k1 h1 h2 h3 h4 h5 h6 h7 n1 n2 hs k2
    rcases h8 with rfl | rfl
    · ktr_unf; exact fin
    · clear ho
      rcases ha with rfl | rfl | rfl <;>
      · ktr_unf; exact fin
  · have k2 := k2 h8
    have a8 : a ≠ 8 := fun e => h8 (.inl e)
    have b8 : b ≠ 8 := fun e => h8 (.inr e)
    rw [if_neg a8] at n1
    rw [if_neg b8] at n2
    rw [n1, n2]
    show wpB C b_arith _ _ _ _; ktr_unf
    refine h1.1 _ _ _ _ _ ha ?_; ktr_unf
    refine h1.1 _ _ _ _ _ hb ?_; ktr_unf
    refine h2 _ _ _ _ _ _ _ _ ha.k hb.k ?_; ktr_unf
    have fin : C 229 [.str op, .lst [.int i], .lst [.int j], .int 1, .loc τ.length] (τ ++ [.list []]) (fun v'' σ => C 32 [.str 9, v''] σ (fun v3 σ => C 230 [.vec a (.int i), .vec b (.int j), v3] σ (fun zz σ => r v3 σ) X) X) X := by
      refine h5 _ _ _ _ _ _ ho hs (h6 _ _ _ _ _ (bnd_intV _ _ _ _) (h7 _ _ _ _ _ _ _ _ _ ha.k hb.k k2))
    clear k1 h1 h2 h3 h4 h5 h6 h7 n1 n2 hs k2 h8
    rcases ha with rfl | rfl | rfl
    · exact absurd rfl a8
    all_goals
      rcases hb with rfl | rfl | rfl
      · exact absurd rfl b8
      all_goals
        ktr_unf
        apply opt_of (op_no ho)
        exact fin
theorem b_arithX (C : Calls) (h1 : S_nitems C) {op v N σ} {r : KE} {X : KX} (h : X σ) : runF C ⟨[64, 186, 84, 185], b_arith, 0⟩ [.str op, txtV, v, N] σ r X := by
  show wpB C b_arith _ _ _ _; ktr_unf
  exact h1.2 _ _ _ _ h
theorem b_arithY (C : Calls) (h1 : S_nitems C) {op a i N σ} {r : KE} {X : KX} (ha : IsN a) (h : X σ) : runF C ⟨[64, 186, 84, 185], b_arith, 0⟩ [.str op, numV a i, txtV, N] σ r X := by
  show wpB C b_arith _ _ _ _; ktr_unf
  refine h1.1 _ _ _ _ _ ha ?_; ktr_unf
  exact h1.2 _ _ _ _ h
theorem o_arith (n) : S_arith (CM (n + 7)) := ⟨fun zz zz zz zz zz zz zz zz ho ha hb hs k1 k2 => CM_fn rfl (b_arith_ (CM (n + 6)) (o_nitems (n + 5)) (o_clen (n + 2)) (o_dia (n + 4)) (o_dres n) (o_ires (n + 4)) (o_vec (n + 5)) (o_rattrs (n + 1)) ho ha hb hs (fun h => Ret.same (k1 h)) fun h => Ret.stay (k2 h)),
  fun zz zz zz zz zz zz h => CM_fn rfl (b_arithX (CM (n + 6)) (o_nitems (n + 5)) h), fun zz zz zz zz zz zz zz ha h => CM_fn rfl (b_arithY (CM (n + 6)) (o_nitems (n + 5)) ha h)⟩
noncomputable def S_chk (C : Calls) : Prop := (∀ a x σ (k : KE) X, IsN a → k .none σ → C 233 [.vec a x] σ k X) ∧ ∀ x σ (k : KE) (X : KX), X σ → C 233 [.vec 11 x] σ k X
theorem b_chk (C : Calls) {a x σ} {r : KE} {X} (ha : IsN a) (h : r .none σ) : runF C ⟨[84], b_check_unary, 0⟩ [.vec a x] σ r X := by
  rcases ha with rfl | rfl | rfl <;> (show wpB C b_check_unary _ _ _ _; ktr_unf; exact h)
theorem b_chkX (C : Calls) {x σ} {r : KE} {X : KX} (h : X σ) : runF C ⟨[84], b_check_unary, 0⟩ [.vec 11 x] σ r X := by
  show wpB C b_check_unary _ _ _ _; ktr_unf; exact h
theorem o_chk (n) : S_chk (CM (n + 1)) := ⟨fun zz zz zz zz zz ha h => CM_fn rfl (b_chk (CM n) ha (Ret.same h)), fun zz zz zz zz h => CM_fn rfl (b_chkX (CM n) h)⟩
noncomputable def S_negate (C : Calls) : Prop := (∀ a i N σ (k : KE) X, IsN a → k (numV (if a = 8 then 8 else 9) (0 - i)) σ → C 255 [numV a i, N] σ k X) ∧ ∀ N σ (k : KE) (X : KX), X σ → C 255 [txtV, N] σ k X
theorem b_negate_ (C : Calls) (h1 : S_chk C) (h2 : S_neg C) (h3 : S_vec C) (h4 : S_keep C) {a i N σ} {r : KE} {X} (ha : IsN a) (h : r (numV (if a = 8 then 8 else 9) (0 - i)) σ) : runF C ⟨[84, 185], b_negate, 0⟩ [numV a i, N] σ r X := by
  have ha' := ha
  rcases ha with rfl | rfl | rfl
  · show wpB C b_negate _ _ _ _; ktr_unf
    refine h1.1 _ _ _ _ _ ha' ?_; ktr_unf
    refine h2 _ _ _ _ ?_; ktr_unf
    refine h3 _ _ _ _ _ rfl ?_; ktr_unf
    exact h4 _ _ _ _ _ _ _ h
  · show wpB C b_negate _ _ _ _; ktr_unf
    refine h1.1 _ _ _ _ _ ha' ?_; ktr_unf
    refine h3 _ _ _ _ _ rfl ?_; ktr_unf
    exact h4 _ _ _ _ _ _ _ h
  · show wpB C b_negate _ _ _ _; ktr_unf
    refine h1.1 _ _ _ _ _ ha' ?_; ktr_unf
    refine h3 _ _ _ _ _ rfl ?_; ktr_unf
    exact h4 _ _ _ _ _ _ _ h
theorem b_negateX (C : Calls) (h1 : S_chk C) {N σ} {r : KE} {X : KX} (h : X σ) : runF C ⟨[84, 185], b_negate, 0⟩ [txtV, N] σ r X := by
  show wpB C b_negate _ _ _ _; ktr_unf
  exact h1.2 _ _ _ _ h
theorem o_negate (n) : S_negate (CM (n + 2)) := ⟨fun zz zz zz zz zz zz ha h => CM_fn rfl (b_negate_ (CM (n + 1)) (o_chk n) (o_neg n) (o_vec n) (o_keep n) ha (Ret.same h)), fun zz zz zz zz h => CM_fn rfl (b_negateX (CM (n + 1)) (o_chk n) h)⟩
end Mine
end
section
namespace Mine
noncomputable def itm (kd : Nat) (i : Int) : AV := if kd = 8 then .tup [.int i, .int 1] else .int i
noncomputable def tru (i : Int) : Int := if i = 0 then 0 else 1
noncomputable def S_titem (C : Calls) : Prop := ∀ a i σ (k : KE) X, IsN a → k (.int (tru i)) σ → C 247 [.str a, itm a i] σ k X
theorem b_titem (C : Calls) (h1 : S_isna C) {a i σ} {r : KE} {X} (ha : IsN a) (h : r (.int (tru i)) σ) : runF C ⟨[0, 111], b_truth_item, 0⟩ [.str a, itm a i] σ r X := by
  have fin : ((!veq (.int i) (.int 0)) = true → r (.int 1) σ) ∧ ((!veq (.int i) (.int 0)) = false → r (.int 0) σ) := by
    unfold tru at h
    by_cases e : i = 0
    · rw [if_pos e] at h
      subst e
      exact ⟨fun hc => Bool.noConfusion hc, fun zz => h⟩
    · rw [if_neg e] at h
      refine ⟨fun zz => h, fun hc => ?_⟩
      have : decide (i = 0) = true := by simpa [veq] using hc
      exact absurd (of_decide_eq_true this) e
  rcases ha with rfl | rfl | rfl
  · show wpB C b_truth_item _ _ _ _; ktr_unf
    refine h1 _ _ _ _ ?_; ktr_unf
    · exact fin.1 hc
    · exact fin.2 hc
  · show wpB C b_truth_item _ _ _ _; ktr_unf
    · exact fin.1 hc
    · exact fin.2 hc
  · show wpB C b_truth_item _ _ _ _; ktr_unf
    · exact fin.1 hc
    · exact fin.2 hc
theorem o_titem (n) : S_titem (CM (n + 2)) := fun zz zz zz zz zz ha h => CM_fn rfl (b_titem (CM (n + 1)) (o_isna n) ha (Ret.same h))
noncomputable def S_titems (C : Calls) : Prop := ∀ a i σ (k : KE) X, IsN a → k (.lst [.int (tru i)]) σ → C 249 [numV a i] σ k X
theorem b_titems (C : Calls) (h1 : S_titem C) {a i σ} {r : KE} {X} (ha : IsN a) (h : r (.lst [.int (tru i)]) σ) : runF C ⟨[84], b_truth_items, 0⟩ [numV a i] σ r X := by
  show wpB C b_truth_items _ _ _ _; ktr_unf
  refine h1 _ _ _ _ _ ha ?_; ktr_unf
  exact h
theorem o_titems (n) : S_titems (CM (n + 3)) := fun zz zz zz zz zz ha h => CM_fn rfl (b_titems (CM (n + 2)) (o_titem n) ha (Ret.same h))
noncomputable def S_nitem (C : Calls) : Prop := ∀ i σ (k : KE) X, k (.int (1 - i)) σ → C 250 [.int i] σ k X
theorem b_nitem (C : Calls) {i σ} {r : KE} {X} (h : r (.int (1 - i)) σ) : runF C ⟨[13], b_not_item, 0⟩ [.int i] σ r X := by
  show wpB C b_not_item _ _ _ _; ktr_unf; exact h
theorem o_nitem (n) : S_nitem (CM (n + 1)) := fun zz zz zz zz h => CM_fn rfl (b_nitem (CM n) (Ret.same h))
noncomputable def S_lnot (C : Calls) : Prop := (∀ a i σ (k : KE) X, IsN a → k (.vec 10 (.int (1 - tru i))) σ → C 257 [numV a i] σ k X) ∧ ∀ σ (k : KE) (X : KX), X σ → C 257 [txtV] σ k X
theorem b_lnot (C : Calls) (h1 : S_titems C) (h2 : S_nitem C) (h3 : S_vec C) (h4 : S_keep C) (h5 : S_shape C) {a i σ} {r : KE} {X} (ha : IsN a) (h : r (.vec 10 (.int (1 - tru i))) σ) : runF C ⟨[84], b_logic_not, 0⟩ [numV a i] σ r X := by
  have ha' := ha
  rcases ha with rfl | rfl | rfl
  · show wpB C b_logic_not _ _ _ _; ktr_unf
    refine h1 _ _ _ _ _ ha' ?_; ktr_unf
    refine h2 _ _ _ _ ?_; ktr_unf
    refine h3 _ _ _ _ _ rfl ?_; ktr_unf
    refine h5 _ _ _ _ _ _ _ _ _ ha'.k ha'.k ?_; ktr_unf
    exact h
  · show wpB C b_logic_not _ _ _ _; ktr_unf
    refine h1 _ _ _ _ _ ha' ?_; ktr_unf
    refine h2 _ _ _ _ ?_; ktr_unf
    refine h3 _ _ _ _ _ rfl ?_; ktr_unf
    refine h5 _ _ _ _ _ _ _ _ _ ha'.k ha'.k ?_; ktr_unf
    exact h
  · show wpB C b_logic_not _ _ _ _; ktr_unf
    refine h1 _ _ _ _ _ ha' ?_; ktr_unf
    refine h2 _ _ _ _ ?_; ktr_unf
    refine h3 _ _ _ _ _ rfl ?_; ktr_unf
    exact h4 _ _ _ _ _ _ _ h
theorem b_lnotX (C : Calls) {σ} {r : KE} {X : KX} (h : X σ) : runF C ⟨[84], b_logic_not, 0⟩ [txtV] σ r X := by
  show wpB C b_logic_not _ _ _ _; ktr_unf; exact h
theorem o_lnot (n) : S_lnot (CM (n + 5)) := ⟨fun zz zz zz zz zz ha h => CM_fn rfl (b_lnot (CM (n + 4)) (o_titems (n + 1)) (o_nitem (n + 3)) (o_vec (n + 3)) (o_keep (n + 3)) (o_shape n) ha (Ret.same h)), fun zz zz zz h => CM_fn rfl (b_lnotX (CM (n + 4)) h)⟩
noncomputable def S_porder (C : Calls) : Prop := ∀ i j σ (k : KE) X, k (.int (sgn i j)) σ → C 243 [.int i, .int j] σ k X
theorem b_porder (C : Calls) {i j σ} {r : KE} {X} (h : r (.int (sgn i j)) σ) : runF C ⟨[13, 170], b_plain_order, 0⟩ [.int i, .int j] σ r X := by
  show wpB C b_plain_order _ _ _ _; ktr_unf
  · have e : i = j := of_decide_eq_true hc
    rw [show sgn i j = 0 from if_pos e] at h
    exact h
  · have e : ¬ i = j := of_decide_eq_false (by assumption)
    have e2 : i < j := of_decide_eq_true hc
    rw [show sgn i j = -1 by unfold sgn; rw [if_neg e, if_pos e2]] at h
    exact h
  · have e : ¬ i = j := of_decide_eq_false (by assumption)
    have e2 : ¬ i < j := of_decide_eq_false hc
    rw [show sgn i j = 1 by unfold sgn; rw [if_neg e, if_neg e2]] at h
    exact h
theorem o_porder (n) : S_porder (CM (n + 1)) := fun zz zz zz zz zz h => CM_fn rfl (b_porder (CM n) (Ret.same h))
noncomputable def lss (i j : Int) : Int := if i < j then 1 else 0
noncomputable def S_holds (C : Calls) : Prop := ∀ i j σ (k : KE) X, k (.int (lss i j)) σ → C 246 [.str 99, .int (sgn i j)] σ k X
theorem b_holds_ (C : Calls) {i j σ} {r : KE} {X} (h : r (.int (lss i j)) σ) : runF C ⟨[64, 235], b_holds, 0⟩ [.str 99, .int (sgn i j)] σ r X := by
  have e : decide (sgn i j < 0) = decide (i < j) := by
    unfold sgn
    rcases Int.lt_trichotomy i j with q | q | q
    · rw [if_neg (by lia), if_pos q]; simp [q]
    · rw [if_pos q]; simp [q]
    · rw [if_neg (by lia), if_neg (by lia)]
      have : ¬ i < j := by lia
      simp [this]
  show wpB C b_holds _ _ _ _; ktr_unf
  · have q : i < j := by rw [e] at hc; exact of_decide_eq_true hc
    unfold lss at h
    rw [if_pos q] at h; exact h
  · have q : ¬ i < j := by rw [e] at hc; exact of_decide_eq_false hc
    unfold lss at h
    rw [if_neg q] at h; exact h
theorem o_holds (n) : S_holds (CM (n + 1)) := fun zz zz zz zz zz h => CM_fn rfl (b_holds_ (CM n) (Ret.same h))
noncomputable def S_cable (C : Calls) : Prop := ∀ op a x σ (k : KE) X, IsN a → k (.vec a x) σ → C 241 [.str op, .vec a x, .none] σ k X
theorem b_cable (C : Calls) {op a x σ} {r : KE} {X} (ha : IsN a) (h : r (.vec a x) σ) : runF C ⟨[64, 84, 236], b_comparable, 0⟩ [.str op, .vec a x, .none] σ r X := by
  rcases ha with rfl | rfl | rfl <;> (show wpB C b_comparable _ _ _ _; ktr_unf; exact h)
theorem o_cable (n) : S_cable (CM (n + 1)) := fun zz zz zz zz zz zz ha h => CM_fn rfl (b_cable (CM n) ha (Ret.same h))
noncomputable def S_cop (C : Calls) : Prop := ∀ a i b j N σ (k : KE) X, IsN a → IsN b → Sm2 i j → k (.vec 10 (.int (lss i j))) σ → C 259 [.str 99, numV a i, numV b j, N] σ k X
theorem c11 {σ : Sto} {k : Nat} (h : IsN k) : cmpS σ 0 (.str k) (.str 11) = some false := by rcases h with rfl | rfl | rfl <;> rfl
theorem c8 {σ : Sto} {k : Nat} (h : k = 9 ∨ k = 10) : cmpS σ 0 (.str k) (.str 8) = some false := by rcases h with rfl | rfl <;> rfl
theorem b_cop (C : Calls) (h1 : S_cable C) (h2 : S_clen C) (h3 : S_dia 244 C) (h4 : S_cmp C) (h5 : S_porder C) (h6 : S_holds C) (h7 : S_vec C) (h8 : S_shape C) {a i b j N σ} {r : KE} {X} (ha : IsN a) (hb : IsN b) (hs : Sm2 i j)
    (h : r (.vec 10 (.int (lss i j))) σ) : runF C ⟨[64, 186, 84, 185, 236], b_compare_op, 1⟩ [.str 99, numV a i, numV b j, N] σ r X := by
  have n1 : numV a i = .vec a (if a = 8 then .tup [.int i, .int 1] else .int i) := rfl
  have n2 : numV b j = .vec b (if b = 8 then .tup [.int j, .int 1] else .int j) := rfl
  show wpB C b_compare_op _ _ _ _; ktr_unf
  refine h1 _ _ _ _ _ _ ha ?_; ktr_unf
  refine h1 _ _ _ _ _ _ hb ?_; ktr_unf
  refine h2 _ _ _ _ _ _ _ _ ha.k hb.k ?_; ktr_unf
  have ha' := ha
  have hb' := hb
  clear h1 h2
  rcases ha with rfl | ha
  · ktr_unf
    apply opt_of (c11 hb'); ktr_unf
    refine h3 _ _ _ _ _ ha' ?_; ktr_unf
    refine h3 _ _ _ _ _ hb' ?_; ktr_unf
    refine h4 _ _ _ _ _ hs.1 hs.2.1 ?_; ktr_unf
    refine h6 _ _ _ _ _ ?_; ktr_unf
    refine h7 _ _ _ _ _ rfl ?_; ktr_unf
    refine h8 _ _ _ _ _ _ _ _ _ ha'.k hb'.k ?_; ktr_unf
    exact h
  · rcases hb with rfl | hb
    · ktr_unf
      apply opt_of (c11 ha'); ktr_unf
      apply opt_of (c8 ha); ktr_unf
      refine h3 _ _ _ _ _ ha' ?_; ktr_unf
      refine h3 _ _ _ _ _ hb' ?_; ktr_unf
      refine h4 _ _ _ _ _ hs.1 hs.2.1 ?_; ktr_unf
      refine h6 _ _ _ _ _ ?_; ktr_unf
      refine h7 _ _ _ _ _ rfl ?_; ktr_unf
      refine h8 _ _ _ _ _ _ _ _ _ ha'.k hb'.k ?_; ktr_unf
      exact h
    · clear h3 h4 hs n1 n2
      rcases ha with rfl | rfl <;> rcases hb with rfl | rfl <;>
      · ktr_unf
        refine h5 _ _ _ _ _ ?_; ktr_unf
        refine h6 _ _ _ _ _ ?_; ktr_unf
        refine h7 _ _ _ _ _ rfl ?_; ktr_unf
        refine h8 _ _ _ _ _ _ _ _ _ ha'.k hb'.k ?_; ktr_unf
        exact h
theorem o_cop (n) : S_cop (CM (n + 5)) := fun zz zz zz zz zz zz zz zz ha hb hs h => CM_fn rfl (b_cop (CM (n + 4)) (o_cable (n + 3)) (o_clen n) (o_dic (n + 2)) (o_cmp (n + 2)) (o_porder (n + 3)) (o_holds (n + 3)) (o_vec (n + 3)) (o_shape n) ha hb hs (Ret.same h))
end Mine
end
section
namespace Mine
inductive Wv where
  | no | odd | num (k : Nat) (i : Int) | txt
  deriving DecidableEq
noncomputable def unW (op : Nat) : Wv → Wv
  | .no => .no
  | .odd => .odd
  | .txt => if op = 115 then .txt else .no
  | .num k i => if op = 115 then .num k i else if op = 103 then .num 10 (if i = 0 then 1 else 0) else .num (if k = 8 then 8 else 9) (-i)
noncomputable def biW (op : Nat) : Wv → Wv → Wv
  | .no, _ => .no
  | _, .no => .no
  | .odd, _ => .odd
  | _, .odd => .odd
  | .txt, _ => if op = 99 then .odd else .no
  | _, .txt => if op = 99 then .odd else .no
  | .num a i, .num b j => if op = 99 then .num 10 (lss i j) else if a = 8 ∨ b = 8 then .num 8 (figOf op i j) else if (figOf op i j).natAbs ≤ 2147483647 then .num 9 (figOf op i j) else .no
theorem biW_num (op a b : Nat) (i j : Int) : biW op (.num a i) (.num b j) = if op = 99 then .num 10 (lss i j) else if a = 8 ∨ b = 8 then .num 8 (figOf op i j) else if (figOf op i j).natAbs ≤ 2147483647 then .num 9 (figOf op i j) else .no := rfl
theorem unW_num (op k : Nat) (i : Int) : unW op (.num k i) = if op = 115 then .num k i else if op = 103 then .num 10 (if i = 0 then 1 else 0) else .num (if k = 8 then 8 else 9) (-i) := rfl
noncomputable def worth : Tree → Wv
  | .lit k i => .num k i
  | .txt => .txt
  | .name _ => .no
  | .un op a => if op = 19 then .no else unW op (worth a)
  | .bin op a b => biW op (worth a) (worth b)
noncomputable def vecW : Wv → AV
  | .num k i => numV k i
  | .txt => txtV
  | _ => .none
noncomputable def isVal : Wv → Prop
  | .num k i => IsN k ∧ Small i ∧ Small (0 - i)
  | .txt => True
  | _ => False
noncomputable abbrev IsU (op : Nat) : Prop := op = 115 ∨ op = 91 ∨ op = 103
noncomputable abbrev IsB (op : Nat) : Prop := op = 90 ∨ op = 91 ∨ op = 92 ∨ op = 99
noncomputable def S_uval (C : Calls) : Prop := ∀ op w N σ (k : KE) (X : KX), IsU op → isVal w → (unW op w ≠ .no → k (vecW (unW op w)) σ) → (unW op w = .no → X σ) → C 262 [.str op, vecW w, N] σ k X
theorem b_uval (C : Calls) (h1 : S_negate C) (h2 : S_lnot C) {op w N σ} {r : KE} {X : KX} (ho : IsU op) (hw : isVal w) (h : unW op w ≠ .no → r (vecW (unW op w)) σ) (hx : unW op w = .no → X σ) : runF C ⟨[5, 186, 185], b_unary_value, 0⟩ [.str op, vecW w, N] σ r X := by
  cases w with
  | no => exact hw.elim
  | odd => exact hw.elim
  | txt =>
    rcases ho with rfl | rfl | rfl
    · have h := h (by decide)
      show wpB C b_unary_value _ _ _ _; ktr_unf; exact h
    · have h := hx rfl
      show wpB C b_unary_value _ _ _ _; ktr_unf
      exact h1.2 _ _ _ _ h
    · have h := hx rfl
      show wpB C b_unary_value _ _ _ _; ktr_unf
      exact h2.2 _ _ _ h
  | num kd i =>
    obtain ⟨hk, _⟩ := hw
    rcases ho with rfl | rfl | rfl
    · have h := h (by simp [unW])
      show wpB C b_unary_value _ _ _ _; ktr_unf; exact h
    · have h := h (by simp [unW])
      have e : unW 91 (.num kd i) = .num (if kd = 8 then 8 else 9) (0 - i) := by simp [unW]
      rw [e] at h
      show wpB C b_unary_value _ _ _ _; ktr_unf
      exact h1.1 _ _ _ _ _ _ hk h
    · have h := h (by simp [unW])
      have e : unW 103 (.num kd i) = .num 10 (1 - tru i) := by
        rw [unW_num, if_neg (by decide), if_pos rfl]
        unfold tru
        split <;> rfl
      rw [e] at h
      show wpB C b_unary_value _ _ _ _; ktr_unf
      exact h2.1 _ _ _ _ _ hk h
theorem o_uval (n) : S_uval (CM (n + 6)) := fun zz zz zz zz zz zz ho hw h hx => CM_fn rfl (b_uval (CM (n + 5)) (o_negate (n + 3)) (o_lnot n) ho hw (fun q => Ret.same (h q)) hx)
noncomputable def S_anames (C : Calls) : Prop := ∀ σ (k : KE) X, k (.tup [.str 90, .str 91, .str 92, .str 93, .str 94, .str 95, .str 96]) σ → C 251 [] σ k X
theorem o_anames (n) : S_anames (CM (n + 1)) := fun zz zz zz h => CM_fn (f := ⟨[], b_arith_names, 0⟩) rfl (by show wpB _ b_arith_names _ _ _ _; ktr_unf; exact Ret.same h)
noncomputable def S_cnames (C : Calls) : Prop := ∀ σ (k : KE) X, k (.tup [.str 97, .str 98, .str 99, .str 100, .str 101, .str 102]) σ → C 252 [] σ k X
theorem o_cnames (n) : S_cnames (CM (n + 1)) := fun zz zz zz h => CM_fn (f := ⟨[], b_compare_names, 0⟩) rfl (by show wpB _ b_compare_names _ _ _ _; ktr_unf; exact Ret.same h)
noncomputable abbrev SAFE : AV := .tup [.str 90, .str 91, .str 92, .str 93, .str 94, .str 95, .str 96, .str 97, .str 98, .str 99, .str 100, .str 101, .str 102, .str 104, .str 105, .str 103, .str 115]
noncomputable def S_snames (C : Calls) : Prop := ∀ σ (k : KE) X, k SAFE σ → C 270 [] σ k X
theorem b_snames (C : Calls) (h1 : S_anames C) (h2 : S_cnames C) {σ} {r : KE} {X : KX} (h : r SAFE σ) : runF C ⟨[], b_safe_names, 0⟩ [] σ r X := by
  show wpB C b_safe_names _ _ _ _; ktr_unf
  refine h1 _ _ _ ?_; ktr_unf
  refine h2 _ _ _ ?_; ktr_unf
  exact h
theorem o_snames (n) : S_snames (CM (n + 2)) := fun zz zz zz h => CM_fn rfl (b_snames (CM (n + 1)) (o_anames n) (o_cnames n) (Ret.same h))
noncomputable def S_bval (C : Calls) : Prop := ∀ op w v (τ : Sto) (k : KE) (X : KX), IsB op → isVal w → isVal v → (∀ i j a b, w = .num a i → v = .num b j → Sm2 i j) → biW op w v ≠ .odd →
    (biW op w v ≠ .no → k (vecW (biW op w v)) (τ ++ [.list []])) → (biW op w v = .no → X (τ ++ [.list []]) ∧ ∀ x, k x (τ ++ [.list [.str 224]])) → C 263 [.str op, vecW w, vecW v, .loc τ.length] (τ ++ [.list []]) k X
theorem b_bval (C : Calls) (h1 : S_anames C) (h2 : S_cnames C) (h3 : S_arith C) (h4 : S_cop C) {op w v} {τ : Sto} {r : KE} {X : KX} (ho : IsB op) (hw : isVal w) (hv : isVal v) (hs : ∀ i j a b, w = .num a i → v = .num b j → Sm2 i j) (hn : biW op w v ≠ .odd)
    (h : biW op w v ≠ .no → r (vecW (biW op w v)) (τ ++ [.list []])) (hx : biW op w v = .no → X (τ ++ [.list []]) ∧ ∀ x, r x (τ ++ [.list [.str 224]])) : runF C ⟨[5, 186, 84, 185], b_binary_value, 0⟩ [.str op, vecW w, vecW v, .loc τ.length] (τ ++ [.list []]) r X := by
  have arith : IsO op → C 258 [.str op, vecW w, vecW v, .loc τ.length] (τ ++ [.list []]) r X := fun hop => by
    have n99 : op ≠ 99 := by rcases hop with rfl | rfl | rfl <;> decide
    cases w with
    | no => exact hw.elim
    | odd => exact hw.elim
    | txt =>
      have : biW op .txt v = .no := by
        cases v with
        | no => rfl
        | odd => exact hv.elim
        | _ => exact if_neg n99
      exact h3.2.1 _ _ _ _ _ _ (hx this).1
    | num a i =>
      cases v with
      | no => exact hv.elim
      | odd => exact hv.elim
      | txt => exact h3.2.2 _ _ _ _ _ _ _ hw.1 (hx (if_neg n99)).1
      | num b j =>
        have s := hs i j a b rfl rfl
        refine h3.1 _ _ _ _ _ _ _ _ hop hw.1 hv.1 s (fun h8 => ?_) fun h8 => ?_
        · have e : biW op (.num a i) (.num b j) = .num 8 (figOf op i j) := by rw [biW_num, if_neg n99, if_pos h8]
          rw [e] at h
          exact h (by simp)
        · by_cases hf : (figOf op i j).natAbs ≤ 2147483647
          · have e : biW op (.num a i) (.num b j) = .num 9 (figOf op i j) := by rw [biW_num, if_neg n99, if_neg h8, if_pos hf]
            rw [e] at h
            rw [show intV op i j = .int (figOf op i j) from if_pos hf, show noteOf op i j = [] from if_pos hf]
            exact h (by simp)
          · have e : biW op (.num a i) (.num b j) = .no := by rw [biW_num, if_neg n99, if_neg h8, if_neg hf]
            rw [show intV op i j = .none from if_neg hf, show noteOf op i j = [.str 224] from if_neg hf]
            exact (hx e).2 _
  rcases ho with rfl | rfl | rfl | rfl
  · show wpB C b_binary_value _ _ _ _; ktr_unf
    refine h1 _ _ _ ?_; ktr_unf
    exact arith (.inl rfl)
  · show wpB C b_binary_value _ _ _ _; ktr_unf
    refine h1 _ _ _ ?_; ktr_unf
    exact arith (.inr (.inl rfl))
  · show wpB C b_binary_value _ _ _ _; ktr_unf
    refine h1 _ _ _ ?_; ktr_unf
    exact arith (.inr (.inr rfl))
  · show wpB C b_binary_value _ _ _ _; ktr_unf
    refine h1 _ _ _ ?_; ktr_unf
    refine h2 _ _ _ ?_; ktr_unf
    cases w with
    | no => exact hw.elim
    | odd => exact hw.elim
    | txt =>
      cases v with
      | no => exact hv.elim
      | odd => exact hv.elim
      | _ => exact absurd rfl hn
    | num a i =>
      cases v with
      | no => exact hv.elim
      | odd => exact hv.elim
      | txt => exact absurd rfl hn
      | num b j => exact h4 _ _ _ _ _ _ _ _ hw.1 hv.1 (hs i j a b rfl rfl) (h (by simp [biW]))
theorem o_bval (n) : S_bval (CM (n + 8)) := fun zz zz zz zz zz zz ho hw hv hs hn h hx => CM_fn rfl (b_bval (CM (n + 7)) (o_anames (n + 6)) (o_cnames (n + 6)) (o_arith n) (o_cop (n + 2)) ho hw hv hs hn (fun q => Ret.stay (h q)) fun q => ⟨(hx q).1, fun x => Ret.stay ((hx q).2 x)⟩)
end Mine
end
section
namespace Mine
theorem item_loc {σ : Sto} {l : Nat} {xs : List AV} {i : Int} {j : Nat} {y : AV} (h : σ[l]? = some (.list xs)) (hi : idxOf i xs.length = some j) (hy : xs[j]? = some y) : itemOf σ (.loc l) (.int i) = some y := by
  unfold itemOf; simp [expo, h, hi, hy]
theorem app_lt {σ e : Sto} {m : Nat} {a : AO} (h : σ[m]? = some a) : (σ ++ e)[m]? = some a := by
  rw [List.getElem?_append_left (List.getElem?_eq_some_iff.mp h).1]; exact h
theorem bnd_vecW (n : Nat) (w : Wv) : bnd n (vecW w) = true := by
  cases w with
  | num k i => unfold vecW numV bnd; split <;> rfl
  | _ => rfl
noncomputable def S_cval (C : Calls) : Prop := (∀ op w σ m (k : KE) X, IsU op → isVal w → σ[m]? = some (.list [vecW w]) → k (vecW (unW op w)) σ → C 268 [.str op, .loc m] σ k X) ∧
  ∀ op w v σ m (k : KE) X, IsB op → isVal w → isVal v → (∀ i j a b, w = .num a i → v = .num b j → Sm2 i j) → biW op w v ≠ .odd → σ[m]? = some (.list [vecW w, vecW v]) → k (vecW (biW op w v)) σ → C 268 [.str op, .loc m] σ k X
theorem b_cval1 (C : Calls) (h1 : S_uval C) {op w} {σ : Sto} {m} {r : KE} {X : KX} (ho : IsU op) (hw : isVal w) (hm : σ[m]? = some (.list [vecW w])) (h : r (vecW (unW op w)) (σ ++ [.list []])) : runF C ⟨[5, 89], b_call_value, 0⟩ [.str op, .loc m] σ r X := by
  have hm' : (σ ++ [AO.list []])[m]? = some (.list [vecW w]) := app_lt hm
  show wpB C b_call_value _ _ _ _; ktr_unf
  tbr_iter (len_loc hm'); ktr_unf
  tbr_iter (item_loc (i := 0) (j := 0) hm' rfl rfl); ktr_unf
  refine h1 _ _ _ _ _ _ ho hw (fun q => ?_) fun q => ?_
  · ktr_unf
    tbr_iter (len_loc at0); ktr_unf
    exact h
  · rw [q] at h
    exact h
theorem b_cval2 (C : Calls) (h1 : S_bval C) {op w v} {σ : Sto} {m} {r : KE} {X : KX} (ho : IsB op) (hw : isVal w) (hv : isVal v) (hs : ∀ i j a b, w = .num a i → v = .num b j → Sm2 i j) (hn : biW op w v ≠ .odd) (hm : σ[m]? = some (.list [vecW w, vecW v]))
    (h : ∀ ns, r (vecW (biW op w v)) (σ ++ [.list ns])) : runF C ⟨[5, 89], b_call_value, 0⟩ [.str op, .loc m] σ r X := by
  have hm' : (σ ++ [AO.list []])[m]? = some (.list [vecW w, vecW v]) := app_lt hm
  show wpB C b_call_value _ _ _ _; ktr_unf
  tbr_iter (len_loc hm'); ktr_unf
  tbr_iter (len_loc hm'); ktr_unf
  tbr_iter (item_loc (i := 0) (j := 0) hm' rfl rfl); ktr_unf
  tbr_iter (item_loc (i := 1) (j := 1) hm' rfl rfl); ktr_unf
  refine h1 _ _ _ _ _ _ ho hw hv hs hn (fun q => ?_) fun q => ⟨?_, fun x => ?_⟩
  · ktr_unf
    tbr_iter (len_loc at0); ktr_unf
    exact h []
  · rw [q] at h
    exact h []
  · ktr_unf
    tbr_iter (len_loc at0); ktr_unf
    rw [q] at h
    exact h [.str 224]
theorem o_cval (n) : S_cval (CM (n + 9)) := ⟨fun zz zz zz zz zz zz ho hw hm h => CM_fn rfl (b_cval1 (CM (n + 8)) (o_uval (n + 2)) ho hw hm (Ret.cut (bnd_vecW _ _) h)),
  fun zz zz zz zz zz zz zz ho hw hv hs hn hm h => CM_fn rfl (b_cval2 (CM (n + 8)) (o_bval n) ho hw hv hs hn hm fun zz => Ret.cut (bnd_vecW _ _) h)⟩
noncomputable def Good : Nat → Tree → Prop
  | _, .lit k i => IsN k ∧ i.natAbs < 2 ^ 32
  | _, .txt => True
  | _, .name _ => True
  | 0, .un _ _ => False
  | 0, .bin _ _ _ => False
  | d + 1, .un op a => (IsU op ∨ op = 19) ∧ Good d a
  | d + 1, .bin op a b => IsB op ∧ Good d a ∧ Good d b
noncomputable def noOdd : Tree → Prop
  | .un op a => worth (.un op a) ≠ .odd ∧ noOdd a
  | .bin op a b => worth (.bin op a b) ≠ .odd ∧ noOdd a ∧ noOdd b
  | _ => True
noncomputable def leaf : Tree → Bool
  | .lit _ _ => true
  | .txt => true
  | _ => false
noncomputable def S_isa (C : Calls) : Prop := ∀ d t σ (k : KE) X, Good d t → k (.bool (leaf t)) σ → C 253 [.node t] σ k X
theorem b_isa (C : Calls) {d t σ} {r : KE} {X : KX} (g : Good d t) (h : r (.bool (leaf t)) σ) : runF C ⟨[84], b_is_atomic, 0⟩ [.node t] σ r X := by
  cases t with
  | lit k i =>
    have g : IsN k := by cases d <;> exact g.1
    rcases g with rfl | rfl | rfl <;> (show wpB C b_is_atomic _ _ _ _; ktr_unf; exact h)
  | _ => show wpB C b_is_atomic _ _ _ _; ktr_unf; exact h
theorem o_isa (n) : S_isa (CM (n + 1)) := fun zz zz zz zz zz g h => CM_fn rfl (b_isa (CM n) g (Ret.same h))
noncomputable def S_isc (C : Calls) : Prop := ∀ d t σ (k : KE) X, Good d t → k (.bool (leaf t)) σ → C 264 [.node t] σ k X
theorem b_isc (C : Calls) (h1 : S_isa C) {d t σ} {r : KE} {X : KX} (g : Good d t) (h : r (.bool (leaf t)) σ) : runF C ⟨[124], b_is_constant, 0⟩ [.node t] σ r X := by
  cases t <;> (show wpB C b_is_constant _ _ _ _; ktr_unf; refine h1 _ _ _ _ _ g ?_; ktr_unf; exact h)
theorem o_isc (n) : S_isc (CM (n + 2)) := fun zz zz zz zz zz g h => CM_fn rfl (b_isc (CM (n + 1)) (o_isa n) g (Ret.same h))
noncomputable def cname : Tree → AV
  | .un op _ => .str op
  | .bin op _ _ => .str op
  | _ => .none
noncomputable def S_pcn (C : Calls) : Prop := ∀ t σ (k : KE) X, leaf t = false → k (cname t) σ → C 265 [.node t] σ k X
theorem b_pcn (C : Calls) {t σ} {r : KE} {X : KX} (hl : leaf t = false) (h : r (cname t) σ) : runF C ⟨[124], b_plain_call_name, 0⟩ [.node t] σ r X := by
  cases t with
  | lit k i => cases hl
  | txt => cases hl
  | _ => show wpB C b_plain_call_name _ _ _ _; ktr_unf; exact h
theorem o_pcn (n) : S_pcn (CM (n + 1)) := fun zz zz zz zz hl h => CM_fn rfl (b_pcn (CM n) hl (Ret.same h))
theorem pow_le {a b : Nat} (h : a ≤ b) : (2 : Nat) ^ a ≤ 2 ^ b := Nat.pow_le_pow_right (by decide) h
theorem two_lt (d : Nat) : 1 < 2 ^ (32 * 2 ^ d) := Nat.one_lt_two_pow (Nat.mul_ne_zero (by decide) (Nat.ne_of_gt (Nat.two_pow_pos d)))
theorem step_le (d : Nat) : 2 ^ (32 * 2 ^ d) ≤ 2 ^ (32 * 2 ^ (d + 1)) := pow_le (Nat.mul_le_mul_left 32 (pow_le (Nat.le_succ d)))
theorem sq_pow (d : Nat) : 2 ^ (32 * 2 ^ (d + 1)) = 2 ^ (32 * 2 ^ d) * 2 ^ (32 * 2 ^ d) := by rw [← Nat.pow_add, Nat.pow_succ, ← Nat.mul_assoc, Nat.mul_two]
theorem fig_lt {op : Nat} {i j : Int} {B : Nat} (a : i.natAbs < B) (b : j.natAbs < B) (big : 2 ≤ B) : (figOf op i j).natAbs < B * B := by
  have s : i.natAbs + j.natAbs < B * B := Nat.lt_of_lt_of_le (Nat.add_lt_add a b) (by rw [← Nat.two_mul]; exact Nat.mul_le_mul_right _ big)
  unfold figOf
  split
  · exact Nat.lt_of_le_of_lt (Int.natAbs_add_le i j) s
  · split
    · exact Nat.lt_of_le_of_lt (Int.natAbs_sub_le i j) s
    · rw [Int.natAbs_mul]
      exact Nat.mul_lt_mul'' a b
theorem if_el {α : Type} {c : Prop} [Decidable c] {a b x : α} {P : Prop} (e : (if c then a else b) = x) (k1 : a = x → P) (k2 : b = x → P) : P := by
  by_cases h : c
  · exact k1 ((if_pos h).symm.trans e)
  · exact k2 ((if_neg h).symm.trans e)
theorem tx_el {op k : Nat} {i : Int} {a : Wv} {P : Prop} (ha : a = .odd ∨ a = .txt) {n : Nat} (e : (if op = n then a else Wv.no) = .num k i) : P := if_el e (fun e => by rcases ha with rfl | rfl <;> cases e) (fun e => by cases e)
theorem unW_bd {op : Nat} {w : Wv} {k : Nat} {i : Int} {X : Nat} (two : 1 < X) (h : ∀ k' i', w = .num k' i' → IsN k' ∧ i'.natAbs < X) (e : unW op w = .num k i) : IsN k ∧ i.natAbs < X := by
  cases w with
  | no => cases e
  | odd => cases e
  | txt => exact tx_el (.inr rfl) e
  | num k' i' =>
    have g := h _ _ rfl
    refine if_el e (fun e => by cases e; exact g) fun e => if_el e (fun e => by cases e; exact ⟨.inr (.inr rfl), by split; (· exact two); (· exact Nat.lt_trans (by decide) two)⟩) fun e => ?_
    cases e
    exact ⟨by split <;> simp [IsN], by rw [Int.natAbs_neg]; exact g.2⟩
theorem biW_bd {op : Nat} {A B : Wv} {k : Nat} {i : Int} {X : Nat} (two : 1 < X) (a : ∀ k i, A = .num k i → i.natAbs < X) (b : ∀ k i, B = .num k i → i.natAbs < X) (e : biW op A B = .num k i) : IsN k ∧ i.natAbs < X * X := by
  cases A with
  | no => cases e
  | odd => cases B <;> cases e
  | txt => cases B with
    | no => cases e
    | odd => cases e
    | _ => exact tx_el (.inl rfl) e
  | num ka ia => cases B with
    | no => cases e
    | odd => cases e
    | txt => exact tx_el (.inl rfl) e
    | num kb ib =>
      have fb := fig_lt (op := op) (a _ _ rfl) (b _ _ rfl) two
      have one : 1 < X * X := Nat.lt_of_lt_of_le two (Nat.le_mul_of_pos_left X (Nat.lt_trans (by decide) two))
      refine if_el e (fun e => ?_) fun e => if_el e (fun e => by cases e; exact ⟨.inl rfl, fb⟩) fun e => if_el e (fun e => by cases e; exact ⟨.inr (.inl rfl), fb⟩) fun e => by cases e
      cases e
      exact ⟨.inr (.inr rfl), by unfold lss; split; (· exact one); (· exact Nat.lt_trans (by decide) one)⟩
theorem worth_bound {d : Nat} {t : Tree} {k : Nat} {i : Int} (g : Good d t) (e : worth t = .num k i) : IsN k ∧ i.natAbs < 2 ^ (32 * 2 ^ d) := by
  induction t generalizing d k i with
  | lit k' i' =>
    have g : IsN k' ∧ i'.natAbs < 2 ^ 32 := by cases d <;> exact g
    cases e
    exact ⟨g.1, Nat.lt_of_lt_of_le g.2 (pow_le (Nat.le_mul_of_pos_right 32 (Nat.two_pow_pos d)))⟩
  | txt => cases e
  | name => cases e
  | un op a ih =>
    cases d with
    | zero => exact g.elim
    | succ d => exact if_el (c := op = 19) e (fun e => by cases e) fun e => unW_bd (two_lt (d + 1)) (fun k' i' h => ⟨(ih g.2 h).1, Nat.lt_of_lt_of_le (ih g.2 h).2 (step_le d)⟩) e
  | bin op a b ia ib =>
    cases d with
    | zero => exact g.elim
    | succ d => rw [sq_pow]; exact biW_bd (two_lt d) (fun k i h => (ia g.2.1 h).2) (fun k i h => (ib g.2.2 h).2) e
theorem small_of {i : Int} {d : Nat} (hd : d ≤ 5) (h : i.natAbs < 2 ^ (32 * 2 ^ d)) : Small i := by
  refine Nat.lt_of_lt_of_le h (pow_le ?_)
  exact Nat.le_trans (Nat.mul_le_mul_left 32 (pow_le hd : 2 ^ d ≤ 2 ^ 5)) (by decide)
theorem sm2_gen {i j : Int} {B T : Nat} (a : i.natAbs < B) (b : j.natAbs < B) (e1 : B + B ≤ T) (e2 : B * B ≤ T) : i.natAbs < T ∧ j.natAbs < T ∧ (0 - j).natAbs < T ∧ (i + j).natAbs < T ∧ (i - j).natAbs < T ∧ (i * j).natAbs < T :=
  have e0 : B ≤ T := Nat.le_trans (Nat.le_add_right B B) e1
  have ab := Nat.lt_of_lt_of_le (Nat.add_lt_add a b) e1
  ⟨Nat.lt_of_lt_of_le a e0, Nat.lt_of_lt_of_le b e0, by rw [Int.zero_sub, Int.natAbs_neg]; exact Nat.lt_of_lt_of_le b e0, Nat.lt_of_le_of_lt (Int.natAbs_add_le i j) ab, Nat.lt_of_le_of_lt (Int.natAbs_sub_le i j) ab, by rw [Int.natAbs_mul]; exact Nat.lt_of_lt_of_le (Nat.mul_lt_mul'' a b) e2⟩
theorem sm2_of {i j : Int} {d : Nat} (hd : d ≤ 4) (h : i.natAbs < 2 ^ (32 * 2 ^ d)) (h2 : j.natAbs < 2 ^ (32 * 2 ^ d)) : Sm2 i j :=
  have hp : 2 ^ (32 * 2 ^ d) ≤ 2 ^ 512 := pow_le (Nat.mul_le_mul_left 32 (pow_le hd : 2 ^ d ≤ 2 ^ 4))
  sm2_gen (Nat.lt_of_lt_of_le h hp) (Nat.lt_of_lt_of_le h2 hp) (by decide +kernel) (by decide +kernel)
theorem isVal_of {d : Nat} {t : Tree} (hd : d ≤ 5) (g : Good d t) (hn : worth t ≠ .no) (ho : worth t ≠ .odd) : isVal (worth t) := by
  cases hw : worth t with
  | no => exact absurd hw hn
  | odd => exact absurd hw ho
  | txt => trivial
  | num k i =>
    obtain ⟨a, b⟩ := worth_bound g hw
    have s := small_of hd b
    exact ⟨a, s, by unfold Small at s ⊢; lia⟩
end Mine
end
section
namespace Mine
noncomputable def foldV : Wv → AV
  | .num k i => .tup [.bool true, numV k i]
  | .txt => .tup [.bool true, txtV]
  | _ => .tup [.bool false, .none]
noncomputable def S_fold (t : Tree) (C : Calls) : Prop := ∀ σ (k : KE) X, k (foldV (worth t)) σ → C 267 [.node t, SAFE] σ k X
theorem b_fold_leaf (C : Calls) (h1 : S_isc C) {d t σ} {r : KE} {X : KX} (g : Good d t) (hl : leaf t = true) (h : r (.tup [.bool true, .node t]) σ) : runF C ⟨[124, 266], b_fold, 0⟩ [.node t, SAFE] σ r X := by
  show wpB C b_fold _ _ _ _; ktr_unf
  refine h1 _ _ _ _ _ g ?_
  tbr_iter (hl); ktr_unf
  exact h
theorem b_fold_name (C : Calls) (h1 : S_isc C) (h2 : S_pcn C) {y σ} {r : KE} {X : KX} (h : r (foldV .no) σ) : runF C ⟨[124, 266], b_fold, 0⟩ [.node (.name y), SAFE] σ r X := by
  show wpB C b_fold _ _ _ _; ktr_unf
  refine h1 0 _ _ _ _ trivial ?_; ktr_unf
  refine h2 _ _ _ _ rfl ?_; ktr_unf
  exact h
theorem foldV_val {W : Wv} (h : isVal W) : foldV W = .tup [.bool true, vecW W] := by cases W <;> first | rfl | exact h.elim
theorem safe_un {op : Nat} {σ : Sto} (h : IsU op) : cmpS σ 9 (.str op) SAFE = some false := by rcases h with rfl | rfl | rfl <;> rfl
noncomputable def Res (R : Wv) : Prop := R = .no ∨ R = .txt ∨ ∃ k i, R = .num k i
theorem unW_isVal {op : Nat} {w : Wv} (ho : IsU op) (hw : isVal w) : Res (unW op w) := by
  cases w with
  | no => exact hw.elim
  | odd => exact hw.elim
  | txt =>
    rcases ho with rfl | rfl | rfl
    · exact Or.inr (.inl rfl)
    · exact Or.inl rfl
    · exact Or.inl rfl
  | num k i =>
    rw [unW_num]
    split
    · exact Or.inr (.inr ⟨_, _, rfl⟩)
    · split <;> exact Or.inr (.inr ⟨_, _, rfl⟩)
theorem b_fold_un (C : Calls) (h1 : S_isc C) (h2 : S_pcn C) (h3 : S_cval C) (h4 : S_share C) {d op a} {σ : Sto} {r : KE} {X : KX} (hd : d ≤ 4) (g : Good (d + 1) (.un op a)) (no : noOdd a) (hw : worth a ≠ .odd) (hf : S_fold a C)
    (h : ∀ e, r (foldV (worth (.un op a))) (σ ++ e)) : runF C ⟨[124, 266], b_fold, 0⟩ [.node (.un op a), SAFE] σ r X := by
  by_cases h19 : op = 19
  · subst h19
    show wpB C b_fold _ _ _ _; ktr_unf
    refine h1 (d + 1) _ _ _ _ g ?_; ktr_unf
    refine h2 _ _ _ _ rfl ?_; ktr_unf
    have := h []
    rw [List.append_nil] at this
    exact this
  · have ho : IsU op := g.1.resolve_right h19
    have ew : worth (.un op a) = unW op (worth a) := if_neg h19
    rw [ew] at h
    by_cases e : worth a = .no
    · have hf' : ∀ σ (k : KE) X, k (.tup [.bool false, .none]) σ → C 267 [.node a, SAFE] σ k X := fun σ k X q => hf σ k X (by rw [e]; exact q)
      have h : r (.tup [.bool false, .none]) (σ ++ [.list []]) := by have := h [.list []]; rw [e] at this; exact this
      show wpB C b_fold _ _ _ _; ktr_unf
      refine h1 (d + 1) _ _ _ _ g ?_; ktr_unf
      refine h2 _ _ _ _ rfl ?_; ktr_unf
      refine opt_of (safe_un ho) ?_; ktr_unf
      refine hf' _ _ _ ?_; ktr_unf
      exact h
    · have hv : isVal (worth a) := isVal_of (by lia) g.2 e hw
      have hf' : ∀ σ (k : KE) X, k (.tup [.bool true, vecW (worth a)]) σ → C 267 [.node a, SAFE] σ k X := fun σ k X q => hf σ k X (by rw [foldV_val hv]; exact q)
      have fin : ∀ σ (k : KE) X m, σ[m]? = some (.list [vecW (worth a)]) → k (vecW (unW op (worth a))) σ → C 268 [.str op, .loc m] σ k X := fun zz zz zz zz q1 q2 => h3.1 _ _ _ _ _ _ ho hv q1 q2
      have bn := unW_isVal ho hv
      have hh := h [.list [vecW (worth a)]]
      clear h hf h3 ew e hw no
      generalize unW op (worth a) = R at fin bn hh
      generalize vecW (worth a) = V at hf' fin hh
      show wpB C b_fold _ _ _ _; ktr_unf
      refine h1 (d + 1) _ _ _ _ g ?_; ktr_unf
      refine h2 _ _ _ _ rfl ?_; ktr_unf
      refine opt_of (safe_un ho) ?_; ktr_unf
      refine hf' _ _ _ ?_; ktr_unf
      tbr_iter (cal_app at0); ktr_unf
      tbr_iter (at0); ktr_unf
      refine And.intro (by decide) ?_
      tbr_iter (set0); ktr_unf
      refine fin _ _ _ _ at0 ?_
      rcases bn with rfl | rfl | ⟨k2, i2, rfl⟩ <;> ktr_unf
      · exact hh
      · refine h4 _ _ _ _ _ ?_; ktr_unf; exact hh
      · refine h4 _ _ _ _ _ ?_; ktr_unf; exact hh
end Mine
end
section
namespace Mine
theorem safe_in {op : Nat} {σ : Sto} (h : IsB op) : cmpS σ 9 (.str op) SAFE = some false := by rcases h with rfl | rfl | rfl | rfl <;> rfl
theorem biW_no {op : Nat} {w v : Wv} (hw : isVal w) (hv : isVal v) (hn : biW op w v ≠ .odd) : biW op w v = .no ∨ ∃ k i, biW op w v = .num k i := by
  cases w with
  | no => exact hw.elim
  | odd => exact hw.elim
  | txt => cases v with
    | no => exact hv.elim
    | odd => exact hv.elim
    | _ =>
      by_cases h : op = 99
      · exact absurd (if_pos h) hn
      · exact .inl (if_neg h)
  | num a i => cases v with
    | no => exact hv.elim
    | odd => exact hv.elim
    | txt =>
      by_cases h : op = 99
      · exact absurd (if_pos h) hn
      · exact .inl (if_neg h)
    | num b j =>
      rw [biW_num]
      split
      · exact .inr ⟨_, _, rfl⟩
      · split
        · exact .inr ⟨_, _, rfl⟩
        · split
          · exact .inr ⟨_, _, rfl⟩
          · exact .inl rfl
theorem biW_rno {op : Nat} {w : Wv} (h : isVal w) : biW op w .no = .no := by cases w <;> first | rfl | exact h.elim
theorem b_fold_bin (C : Calls) (h1 : S_isc C) (h2 : S_pcn C) (h3 : S_cval C) (h4 : S_share C) {d op a b} {σ : Sto} {r : KE} {X : KX} (hd : d ≤ 4) (g : Good (d + 1) (.bin op a b)) (hw : worth a ≠ .odd) (hv : worth b ≠ .odd) (hn : worth (.bin op a b) ≠ .odd) (hfa : S_fold a C) (hfb : S_fold b C)
    (h : ∀ e, r (foldV (worth (.bin op a b))) (σ ++ e)) : runF C ⟨[124, 266], b_fold, 0⟩ [.node (.bin op a b), SAFE] σ r X := by
  have ho : IsB op := g.1
  have ew : worth (.bin op a b) = biW op (worth a) (worth b) := rfl
  rw [ew] at h hn
  have ia : worth a ≠ .no → isVal (worth a) := fun e => isVal_of (by lia) g.2.1 e hw
  have ib : worth b ≠ .no → isVal (worth b) := fun e => isVal_of (by lia) g.2.2 e hv
  have sm : ∀ i j ka kb, worth a = .num ka i → worth b = .num kb j → Sm2 i j := fun i j ka kb ha hb => sm2_of hd (worth_bound g.2.1 ha).2 (worth_bound g.2.2 hb).2
  have la : leaf (.bin op a b) = false := rfl
  unfold S_fold at hfa hfb
  have no2 : ∀ {w}, worth a = .no → (w = worth a) → w = .no := fun e q => q.trans e
  by_cases ea : worth a = .no
  · have hf' : ∀ σ (k : KE) X, k (.tup [.bool false, .none]) σ → C 267 [.node a, SAFE] σ k X := fun σ k X q => hfa σ k X (by rw [ea]; exact q)
    have h : ∀ e, r (.tup [.bool false, .none]) (σ ++ e) := fun e => by have := h e; rw [ea] at this; exact this
    clear sm ia ib hfa hfb no2
    show wpB C b_fold _ _ _ _; ktr_unf
    refine h1 (d + 1) _ _ _ _ g ?_; ktr_unf
    refine h2 _ _ _ _ rfl ?_; ktr_unf
    refine opt_of (safe_in ho) ?_; ktr_unf
    refine hf' _ _ _ ?_; ktr_unf
    exact h _
  · have va := ia ea
    have hf' : ∀ σ (k : KE) X, k (.tup [.bool true, vecW (worth a)]) σ → C 267 [.node a, SAFE] σ k X := fun σ k X q => hfa σ k X (by rw [foldV_val va]; exact q)
    by_cases eb : worth b = .no
    · have hg' : ∀ σ (k : KE) X, k (.tup [.bool false, .none]) σ → C 267 [.node b, SAFE] σ k X := fun σ k X q => hfb σ k X (by rw [eb]; exact q)
      have h : ∀ e, r (.tup [.bool false, .none]) (σ ++ e) := fun e => by
        have := h e
        rw [eb, biW_rno va] at this
        exact this
      clear sm ia ib hfa hfb no2 va
      generalize vecW (worth a) = V at hf'
      show wpB C b_fold _ _ _ _; ktr_unf
      refine h1 (d + 1) _ _ _ _ g ?_; ktr_unf
      refine h2 _ _ _ _ rfl ?_; ktr_unf
      refine opt_of (safe_in ho) ?_; ktr_unf
      refine hf' _ _ _ ?_; ktr_unf
      tbr_iter (cal_app at0); ktr_unf
      tbr_iter (at0); ktr_unf
      refine And.intro (Nat.blt_eq.mp rfl) ?_
      tbr_iter (set0); ktr_unf
      refine hg' _ _ _ ?_; ktr_unf
      exact h _
    · have vb := ib eb
      have hg' : ∀ σ (k : KE) X, k (.tup [.bool true, vecW (worth b)]) σ → C 267 [.node b, SAFE] σ k X := fun σ k X q => hfb σ k X (by rw [foldV_val vb]; exact q)
      have fin : ∀ σ (k : KE) X m, σ[m]? = some (.list [vecW (worth a), vecW (worth b)]) → k (vecW (biW op (worth a) (worth b))) σ → C 268 [.str op, .loc m] σ k X := fun zz zz zz zz q1 q2 => h3.2 _ _ _ _ _ _ _ ho va vb sm hn q1 q2
      have bn := biW_no (op := op) va vb hn
      clear sm ia ib hfa hfb no2 va vb ea eb hw hv hn ew h3
      generalize biW op (worth a) (worth b) = R at fin bn h
      generalize vecW (worth a) = V at hf' fin
      generalize vecW (worth b) = W at hg' fin
      show wpB C b_fold _ _ _ _; ktr_unf
      refine h1 (d + 1) _ _ _ _ g ?_; ktr_unf
      refine h2 _ _ _ _ rfl ?_; ktr_unf
      refine opt_of (safe_in ho) ?_; ktr_unf
      refine hf' _ _ _ ?_; ktr_unf
      tbr_iter (cal_app at0); ktr_unf
      tbr_iter (at0); ktr_unf
      refine And.intro (Nat.blt_eq.mp rfl) ?_
      tbr_iter (set0); ktr_unf
      refine hg' _ _ _ ?_; ktr_unf
      tbr_iter (cal_app at0); ktr_unf
      tbr_iter (at0); ktr_unf
      refine And.intro (Nat.blt_eq.mp rfl) ?_
      tbr_iter (set0); ktr_unf
      refine fin _ _ _ _ at0 ?_
      rcases bn with rfl | ⟨k2, i2, rfl⟩ <;> ktr_unf
      · exact h _
      · refine h4 _ _ _ _ _ ?_; ktr_unf; exact h _
noncomputable def ht : Tree → Nat
  | .un _ a => ht a + 1
  | .bin _ a b => max (ht a) (ht b) + 1
  | _ => 0
theorem bnd_foldV (n : Nat) (w : Wv) : bnd n (foldV w) = true := by
  cases w with
  | num k i => simp [foldV, bnd, bnds, numV]; split <;> rfl
  | _ => rfl
theorem o_fold : ∀ (t : Tree) (d n : Nat), d ≤ 5 → Good d t → noOdd t → worth t ≠ .odd → ht t ≤ n → S_fold t (CM (n + 10))
  | .lit k i, d, n, hd, g, no, hw, hn => fun σ K X h => CM_fn rfl (b_fold_leaf (CM (n + 9)) (o_isc (n + 7)) g rfl (.inl ⟨_, .pair _ (.lit k i), h⟩))
  | .txt, d, n, hd, g, no, hw, hn => fun σ K X h => CM_fn rfl (b_fold_leaf (CM (n + 9)) (o_isc (n + 7)) g rfl (.inl ⟨_, .pair _ .txt, h⟩))
  | .name y, d, n, hd, g, no, hw, hn => fun σ K X h => CM_fn rfl (b_fold_name (CM (n + 9)) (o_isc (n + 7)) (o_pcn (n + 8)) (Ret.same h))
  | .un op a, 0, n, hd, g, no, hw, hn => g.elim
  | .bin op a b, 0, n, hd, g, no, hw, hn => g.elim
  | .un op a, d + 1, 0, hd, g, no, hw, hn => absurd hn (by simp [ht])
  | .bin op a b, d + 1, 0, hd, g, no, hw, hn => absurd hn (by simp [ht])
  | .un op a, d + 1, n + 1, hd, g, no, hw, hn => fun σ K X h => by
    have wa : worth a ≠ .odd := by
      cases a with
      | un o x => exact no.2.1
      | bin o x y => exact no.2.1
      | _ => simp [worth]
    exact CM_fn rfl (b_fold_un (CM (n + 10)) (o_isc (n + 8)) (o_pcn (n + 9)) (o_cval (n + 1)) (o_share (n + 9)) (by lia) g no.2 wa (o_fold a d n (by lia) g.2 no.2 wa (by simp [ht] at hn; lia)) fun e => Ret.cut (bnd_foldV _ _) h)
  | .bin op a b, d + 1, n + 1, hd, g, no, hw, hn => fun σ K X h => by
    have wa : worth a ≠ .odd := by
      have := no.2.1
      cases a with
      | un o x => exact this.1
      | bin o x y => exact this.1
      | _ => simp [worth]
    have wb : worth b ≠ .odd := by
      have := no.2.2
      cases b with
      | un o x => exact this.1
      | bin o x y => exact this.1
      | _ => simp [worth]
    exact CM_fn rfl (b_fold_bin (CM (n + 10)) (o_isc (n + 8)) (o_pcn (n + 9)) (o_cval (n + 1)) (o_share (n + 9)) (by lia) g wa wb no.1 (o_fold a d n (by lia) g.2.1 no.2.1 wa (by simp [ht] at hn; lia)) (o_fold b d n (by lia) g.2.2 no.2.2 wb (by simp [ht] at hn; lia)) fun e => Ret.cut (bnd_foldV _ _) h)
end Mine
end
section
namespace Mine
noncomputable def addN (op : Nat) (acc : List Nat) : List Nat := if acc.contains op then acc else acc ++ [op]
noncomputable def headsA : Tree → List Nat → List Nat
  | .un op a, acc => headsA a (addN op acc)
  | .bin op a b, acc => headsA b (headsA a (addN op acc))
  | _, acc => acc
noncomputable def sz : Tree → Nat
  | .un _ a => sz a + 1
  | .bin _ a b => sz a + sz b + 1
  | _ => 1
theorem sz_pos (t : Tree) : 0 < sz t := by cases t <;> simp [sz]
noncomputable def lowT : Tree → Prop
  | .un op a => op < 316 ∧ lowT a
  | .bin op a b => op < 316 ∧ lowT a ∧ lowT b
  | .lit k _ => k = 8 ∨ k = 9 ∨ k = 10
  | _ => True
theorem Good.low : ∀ {d : Nat} {t : Tree}, Good d t → lowT t
  | 0, .lit _ _, g => g.1
  | _ + 1, .lit _ _, g => g.1
  | _, .txt, _ => trivial
  | _, .name _, _ => trivial
  | 0, .un _ _, g => g.elim
  | 0, .bin _ _ _, g => g.elim
  | d + 1, .un op a, g => ⟨by rcases g.1 with (h | h | h) | h <;> lia, Good.low g.2⟩
  | d + 1, .bin op a b, g => ⟨by rcases g.1 with h | h | h | h <;> lia, Good.low g.2.1, Good.low g.2.2⟩
theorem dats_strs : ∀ {ns : List Nat}, (∀ n ∈ ns, n < 316) → dats 7 ((ns.map AV.str).map expo) = true
  | [], _ => rfl
  | n :: ns, h => by
    show (Nat.blt n 316 && dats 7 ((ns.map AV.str).map expo)) = true
    rw [dats_strs fun m hm => h m (.tail _ hm), Nat.blt_eq.mpr (h n (.head _))]; rfl
theorem any_strs (op : Nat) : ∀ (ns : List Nat), (((ns.map AV.str).map expo).any fun y => veq y (.str op)) = ns.contains op
  | [] => rfl
  | n :: ns => by
    have ih := any_strs op ns
    simp only [List.map_cons, List.any_cons, List.contains_cons]
    rw [ih]
    show (Nat.beq n op || _) = _
    have : Nat.beq n op = (op == n) := by
      cases q : Nat.beq n op with
      | true => rw [Nat.eq_of_beq_eq_true q]; simp
      | false =>
        symm
        rw [beq_eq_false_iff_ne]
        intro e; subst e; simp at q
    rw [this]
theorem mem_strs {op : Nat} {ns : List Nat} (ho : op < 316) (h : ∀ n ∈ ns, n < 316) : memAV (.str op) (ns.map AV.str) = some (ns.contains op) := by
  unfold memAV
  have : dat 8 (.str op) = true := Nat.blt_eq.mpr ho
  rw [dats_strs h, this, any_strs]; rfl
theorem nin_loc {σ : Sto} {l op : Nat} {ns : List Nat} (h : σ[l]? = some (.list (ns.map AV.str))) (ho : op < 316) (hn : ∀ n ∈ ns, n < 316) : cmpS σ 9 (.str op) (.loc l) = some (!ns.contains op) := by
  show (match σ[l]? with | some (.list xs) => (memAV (.str op) xs).map (!·) | _ => Option.none) = _
  rw [h]
  exact congrArg (Option.map (!·)) (mem_strs ho hn)
theorem addN_low {op : Nat} {ns : List Nat} (ho : op < 316) (hn : ∀ n ∈ ns, n < 316) : ∀ n ∈ addN op ns, n < 316 := by
  intro n m
  unfold addN at m
  split at m
  · exact hn n m
  · rcases List.mem_append.mp m with m | m
    · exact hn n m
    · simp at m; lia
noncomputable def szAV : AV → Nat
  | .node t => sz t
  | _ => 0
theorem pop_node {qs : List Tree} {t : Tree} : (qs.map AV.node ++ [AV.node t]).getLast? = some (.node t) := by simp
theorem pop_rest {qs : List Tree} {t : Tree} : (qs.map AV.node ++ [AV.node t]).dropLast = qs.map AV.node := by simp
theorem sum_map {qs : List Tree} : ((qs.map AV.node).map szAV).sum = (qs.map sz).sum := by rw [List.map_map]; rfl
theorem szsum_len : ∀ (ps : List Tree), ps.length ≤ (ps.map sz).sum
  | [] => Nat.le_refl _
  | p :: ps => by have := szsum_len ps; have := sz_pos p; simp; lia
theorem addN_len (op : Nat) (ns : List Nat) : (addN op ns).length ≤ ns.length + 1 := by unfold addN; split <;> simp
theorem lk_put : ∀ (l : Loc) (x y : Nat) (v : AV), nsLk (nsPut l x v) y = if x = y then some v else nsLk l y
  | [], x, y, v => rfl
  | (a, w) :: r, x, y, v => by
    unfold nsPut
    by_cases h : a = x
    · subst h; rw [if_pos rfl]; unfold nsLk; by_cases h2 : a = y <;> simp [h2]
    · rw [if_neg h]
      show (if a = y then some w else nsLk (nsPut r x v) y) = if x = y then some v else (if a = y then some w else nsLk r y)
      rw [lk_put r x y v]
      by_cases h2 : a = y
      · subst h2; rw [if_pos rfl, if_neg (fun e => h e.symm), if_pos rfl]
      · rw [if_neg h2, if_neg h2]
theorem lk_ne {l : Loc} {x y : Nat} {v : AV} (h : Nat.beq x y = false) : nsLk (nsPut l x v) y = nsLk l y := by
  rw [lk_put, if_neg]; intro e; subst e; simp at h
theorem lk_eq {l : Loc} {x : Nat} {v : AV} : nsLk (nsPut l x v) x = some v := by rw [lk_put, if_pos rfl]
noncomputable def FI (σ : Sto) (t : Tree) : KS := fun l s => ∃ (ns : List Nat) (ps : List Tree) (tl : Loc), s = σ ++ [.list (ns.map AV.str), .list (ps.map AV.node)] ∧ (∀ n ∈ ns, n < 316) ∧ (∀ p ∈ ps, lowT p) ∧ ps.reverse.foldl (fun acc t => headsA t acc) ns = headsA t [] ∧ ns.length + (ps.map sz).sum ≤ sz t ∧
  l = (124, .node t) :: (149, .loc σ.length) :: (76, .loc (σ.length + 1)) :: tl ∧ (tl = [] ∨ ∃ x r, tl = (269, x) :: r)
noncomputable def FM (σ : Sto) : Loc → Sto → Nat := fun zz s => match s[σ.length + 1]? with
  | some (.list xs) => (xs.map szAV).sum
  | _ => 0
theorem FM_at {σ : Sto} {l : Loc} {a : AO} {ps : List Tree} : FM σ l (σ ++ [a, .list (ps.map AV.node)]) = (ps.map sz).sum := by unfold FM; rw [at1]; exact sum_map
theorem fu_body (C : Calls) {t p : Tree} {qs : List Tree} {ns : List Nat} {σ : Sto} {tl : Loc} {R : KE} {M : Nat} (hM : M = ((qs ++ [p]).map sz).sum) (hS : sz t ≤ 5000) (hn : ∀ n ∈ ns, n < 316) (hp : lowT p) (hq : ∀ q ∈ qs, lowT q) (hf : qs.reverse.foldl (fun acc t => headsA t acc) (headsA p ns) = headsA t []) (hz : ns.length + ((qs ++ [p]).map sz).sum ≤ sz t) :
    wpB C [.ite (.cmp 1 (.attr (.nm 269) 0) (.cS 15)) [.cont] [], .ite (.cmp 9 (.attr (.sub (.attr (.nm 269) 1) (.cI 0)) 5) (.nm 149)) [.ex (.meth (.nm 149) 29 [(.attr (.sub (.attr (.nm 269) 1) (.cI 0)) 5)])] [], .forR 111 (.slF (.attr (.nm 269) 1) (.cI 1)) [.ex (.meth (.nm 76) 29 [(.nm 111)])]]
      ((124, .node t) :: (149, .loc σ.length) :: (76, .loc (σ.length + 1)) :: (269, .node p) :: tl) (σ ++ [.list (ns.map AV.str), .list (qs.map AV.node)]) ⟨fun l' σ' => FI σ t l' σ' ∧ FM σ l' σ' < M, R, fun l' σ' => FI σ t l' σ' ∧ FM σ l' σ' < M⟩ noX := by
  have sums : ((qs ++ [p]).map sz).sum = (qs.map sz).sum + sz p := by simp
  rw [sums] at hz hM
  have lq := szsum_len qs
  have l1 : (qs.map AV.node).length < 9000 := by rw [List.length_map]; lia
  have l2 : (ns.map AV.str).length < 10000 := by rw [List.length_map]; lia
  have lt1 : (qs.map AV.node).length < 10000 := Nat.lt_trans l1 (by decide)
  have fin : ∀ (ms : List Nat) (rs : List Tree) (tl' : Loc) (xs ys : List AV), ys = ms.map AV.str → xs = rs.map AV.node → (∀ n ∈ ms, n < 316) → (∀ q ∈ rs, lowT q) → rs.reverse.foldl (fun acc t => headsA t acc) ms = headsA t [] → ms.length + (rs.map sz).sum ≤ sz t → (rs.map sz).sum < M →
      FI σ t ((124, .node t) :: (149, .loc σ.length) :: (76, .loc (σ.length + 1)) :: (269, .node p) :: tl') (σ ++ [.list ys, .list xs]) ∧ FM σ ((124, .node t) :: (149, .loc σ.length) :: (76, .loc (σ.length + 1)) :: (269, .node p) :: tl') (σ ++ [.list ys, .list xs]) < M := fun ms rs tl' xs ys e1 e2 a1 a2 a3 a4 a5 => by
    subst e1 e2
    exact ⟨⟨ms, rs, _, rfl, a1, a2, a3, a4, rfl, .inr ⟨_, _, rfl⟩⟩, by rw [FM_at]; exact a5⟩
  have leaf : ∀ tl', headsA p ns = ns → 1 ≤ sz p → FI σ t ((124, .node t) :: (149, .loc σ.length) :: (76, .loc (σ.length + 1)) :: (269, .node p) :: tl') (σ ++ [.list (ns.map AV.str), .list (qs.map AV.node)]) ∧ FM σ ((124, .node t) :: (149, .loc σ.length) :: (76, .loc (σ.length + 1)) :: (269, .node p) :: tl') (σ ++ [.list (ns.map AV.str), .list (qs.map AV.node)]) < M := fun tl' e1 e2 =>
    fin ns qs tl' _ _ rfl rfl hn hq (e1 ▸ hf) (by lia) (by lia)
  cases p with
  | name y => ktr_unf; exact leaf _ rfl (Nat.le_refl 1)
  | txt => ktr_unf; exact leaf _ rfl (Nat.le_refl 1)
  | lit kk ii =>
    have hp : kk = 8 ∨ kk = 9 ∨ kk = 10 := hp
    rcases hp with rfl | rfl | rfl <;>
    · ktr_unf; exact leaf _ rfl (Nat.le_refl 1)
  | un op a =>
    have fin2 := fun tl' ys => fin (addN op ns) (qs ++ [a]) tl' (qs.map AV.node ++ [.node a]) ys
    have su : ((qs ++ [a]).map sz).sum = (qs.map sz).sum + sz a := by simp
    have sp : sz (.un op a) = sz a + 1 := by simp [sz] <;> lia
    have al := addN_len op ns
    have fin2 : ∀ tl' ys, ys = (addN op ns).map AV.str → _ := fun tl' ys e => fin2 tl' ys e (by simp) (addN_low hp.1 hn) (fun q m => (List.mem_append.mp m).elim (hq q) fun m => List.mem_singleton.mp m ▸ hp.2) (by simpa [headsA] using hf) (by lia) (by lia)
    ktr_unf
    apply opt_of (nin_loc (ns := ns) at0 hp.1 hn)
    cases hc0 : ns.contains op with
    | true =>
      ktr_unf
      tbr_iter (cal_app at1); ktr_unf
      tbr_iter (lk_eq); ktr_unf
      tbr_iter (at1); ktr_unf
      refine And.intro lt1 ?_
      tbr_iter (set1); ktr_unf
      exact fin2 _ _ (congrArg (List.map AV.str) (if_pos hc0).symm)
    | false =>
      ktr_unf
      tbr_iter (cal_app at0); ktr_unf
      tbr_iter (at0); ktr_unf
      refine And.intro l2 ?_
      tbr_iter (set0); ktr_unf
      tbr_iter (cal_app at1); ktr_unf
      tbr_iter (lk_eq); ktr_unf
      tbr_iter (at1); ktr_unf
      refine And.intro lt1 ?_
      tbr_iter (set1); ktr_unf
      exact fin2 _ _ (by rw [show addN op ns = ns ++ [op] from if_neg (by rw [hc0]; decide), List.map_append]; rfl)
  | bin op a b =>
    have fin2 := fun tl' ys => fin (addN op ns) (qs ++ [b, a]) tl' (qs.map AV.node ++ [.node b] ++ [.node a]) ys
    have su : ((qs ++ [b, a]).map sz).sum = (qs.map sz).sum + (sz b + sz a) := by simp
    have sp : sz (.bin op a b) = sz a + sz b + 1 := by simp [sz] <;> lia
    have al := addN_len op ns
    have lt3 : (qs.map AV.node ++ [AV.node b]).length < 10000 := by rw [List.length_append]; exact Nat.lt_of_lt_of_le (Nat.add_lt_add_right l1 1) (by decide)
    have fin2 : ∀ tl' ys, ys = (addN op ns).map AV.str → _ := fun tl' ys e => fin2 tl' ys e (by simp) (addN_low hp.1 hn) (fun q m => (List.mem_append.mp m).elim (hq q) fun m => by
      cases m with
      | head => exact hp.2.2
      | tail _ m => exact List.mem_singleton.mp m ▸ hp.2.1) (by simpa [headsA] using hf) (by lia) (by lia)
    ktr_unf
    apply opt_of (nin_loc (ns := ns) at0 hp.1 hn)
    cases hc0 : ns.contains op with
    | true =>
      ktr_unf
      tbr_iter (cal_app at1); ktr_unf
      tbr_iter (lk_eq); ktr_unf
      tbr_iter (at1); ktr_unf
      refine And.intro lt1 ?_
      tbr_iter (set1); ktr_unf
      tbr_iter (cal_app at1); ktr_unf
      tbr_iter (lk_eq); ktr_unf
      tbr_iter (at1); ktr_unf
      refine And.intro lt3 ?_
      tbr_iter (set1); ktr_unf
      exact fin2 _ _ (congrArg (List.map AV.str) (if_pos hc0).symm)
    | false =>
      ktr_unf
      tbr_iter (cal_app at0); ktr_unf
      tbr_iter (at0); ktr_unf
      refine And.intro l2 ?_
      tbr_iter (set0); ktr_unf
      tbr_iter (cal_app at1); ktr_unf
      tbr_iter (lk_eq); ktr_unf
      tbr_iter (at1); ktr_unf
      refine And.intro lt1 ?_
      tbr_iter (set1); ktr_unf
      tbr_iter (cal_app at1); ktr_unf
      tbr_iter (lk_eq); ktr_unf
      tbr_iter (at1); ktr_unf
      refine And.intro lt3 ?_
      tbr_iter (set1); ktr_unf
      exact fin2 _ _ (by rw [show addN op ns = ns ++ [op] from if_neg (by rw [hc0]; decide), List.map_append]; rfl)
noncomputable def S_fuses (C : Calls) : Prop := ∀ t σ (k : KE) X, lowT t → sz t ≤ 5000 → k (.lst ((headsA t []).map AV.str)) σ → C 271 [.node t] σ k X
theorem b_fuses (C : Calls) {t} {σ : Sto} {r : KE} {X : KX} (lw : lowT t) (hS : sz t ≤ 5000) (h : r (.loc σ.length) (σ ++ [.list ((headsA t []).map AV.str), .list []])) : runF C ⟨[124], b_fold_uses, 0⟩ [.node t] σ r X := by
  show wpB C b_fold_uses _ _ _ _; ktr_unf
  have ex : σ ++ [AO.list []] ++ [AO.list [(124, AV.node t).snd]] = σ ++ [.list (([] : List Nat).map AV.str), .list ([t].map AV.node)] := by simp
  refine ⟨FI σ t, FM σ, ⟨[], [t], [], ex, by simp, by simpa using lw, rfl, by simp, ?_, .inl rfl⟩, ?_⟩
  · show [((124 : Nat), AV.node t), (149, .loc σ.length), (76, .loc (σ ++ [AO.list []]).length)] = _
    rw [app_len]
  rintro l s ⟨ns, ps, tl, rfl, hn, hp, hf, hz, rfl, htl⟩
  have a1 : (σ ++ [AO.list (ns.map AV.str), .list (ps.map AV.node)])[σ.length + 1]? = some (.list (ps.map AV.node)) := at1
  rcases List.eq_nil_or_concat ps with rfl | ⟨qs, p, rfl⟩
  · have hf : ns = headsA t [] := hf
    ktr_unf
    tbr_iter (len_loc a1); ktr_unf
    rw [hf]
    exact h
  · rw [List.concat_eq_append] at *
    have em : (qs ++ [p]).map AV.node = qs.map AV.node ++ [.node p] := by simp
    have hM : FM σ ((124, .node t) :: (149, .loc σ.length) :: (76, .loc (σ.length + 1)) :: tl) (σ ++ [.list (ns.map AV.str), .list ((qs ++ [p]).map AV.node)]) = ((qs ++ [p]).map sz).sum := FM_at
    rw [em] at a1 hM ⊢
    have hpl : lowT p := hp p (by simp)
    have hql : ∀ q ∈ qs, lowT q := fun q m => hp q (by simp [m])
    have hff : qs.reverse.foldl (fun acc t => headsA t acc) (headsA p ns) = headsA t [] := by simpa using hf
    have st : (σ ++ [AO.list (ns.map AV.str), .list (qs.map AV.node ++ [.node p])]).set (σ.length + 1) (.list (qs.map AV.node ++ [AV.node p]).dropLast) = σ ++ [.list (ns.map AV.str), .list (qs.map AV.node)] := by rw [set1, pop_rest]
    have gt : (((qs.map AV.node ++ [AV.node p]).length : Nat) : Int) > 0 := by rw [List.length_append]; exact Int.ofNat_lt.mpr (Nat.succ_pos _)
    have body := fun tl' R => fu_body C (σ := σ) (t := t) (R := R) (tl := tl') hM hS hn hpl hql hff hz
    rcases htl with rfl | ⟨x, y, rfl⟩
    · ktr_unf
      tbr_iter (len_loc a1); ktr_unf
      rotate_left
      · exact absurd (of_decide_eq_false hc) (not_not_intro gt)
      tbr_iter (cal_pop a1); ktr_unf
      tbr_iter (a1); ktr_unf; (all_goals try (conv => whnf))
      rw [pop_node]
      have b := body [] r
      rw [← st] at b
      exact b
    · ktr_unf
      tbr_iter (len_loc a1); ktr_unf
      rotate_left
      · exact absurd (of_decide_eq_false hc) (not_not_intro gt)
      tbr_iter (cal_pop a1); ktr_unf
      tbr_iter (a1); ktr_unf; (all_goals try (conv => whnf))
      rw [pop_node]
      have b := body y r
      rw [← st] at b
      exact b
theorem bnds_strs (n : Nat) : ∀ (ns : List Nat), bnds n (ns.map AV.str) = true
  | [] => rfl
  | _ :: ns => bnds_strs n ns
theorem o_fuses (n) : S_fuses (CM (n + 1)) := fun zz zz zz zz lw hS h => CM_fn rfl (b_fuses (CM n) lw hS (Ret.list (bnds_strs _ _) h))
noncomputable def heads (t : Tree) : List Nat := headsA t []
noncomputable def foldedV (t : Tree) : AV := match worth t with
  | .num k i => .tup [.lst ((heads t).map AV.str), numV k i]
  | .txt => .tup [.lst ((heads t).map AV.str), txtV]
  | _ => .none
noncomputable def S_folded (t : Tree) (C : Calls) : Prop := ∀ σ (k : KE) X, k (foldedV t) σ → C 133 [.node t] σ k X
theorem b_folded_ (C : Calls) (h1 : S_snames C) {t} (h2 : S_fold t C) (h3 : S_fuses C) {σ : Sto} {r : KE} {X : KX} (lw : lowT t) (hS : sz t ≤ 5000) (h : r (foldedV t) σ) : runF C ⟨[124], b_folded, 0⟩ [.node t] σ r X := by
  show wpB C b_folded _ _ _ _; ktr_unf
  refine h1 _ _ _ ?_; ktr_unf
  refine h2 _ _ _ ?_
  unfold foldedV at h
  cases hw : worth t with
  | no => rw [hw] at h; ktr_unf; exact h
  | odd => rw [hw] at h; ktr_unf; exact h
  | txt =>
    rw [hw] at h; ktr_unf
    refine h3 _ _ _ _ lw hS ?_; ktr_unf
    exact h
  | num k i =>
    rw [hw] at h; ktr_unf
    refine h3 _ _ _ _ lw hS ?_; ktr_unf
    exact h
theorem ht_good : ∀ {d : Nat} {t : Tree}, Good d t → ht t ≤ d
  | _, .lit _ _, _ => Nat.zero_le _
  | _, .txt, _ => Nat.zero_le _
  | _, .name _, _ => Nat.zero_le _
  | 0, .un _ _, g => g.elim
  | 0, .bin _ _ _, g => g.elim
  | d + 1, .un op a, g => Nat.succ_le_succ (ht_good g.2)
  | d + 1, .bin op a b, g => Nat.succ_le_succ (Nat.max_le.mpr ⟨ht_good g.2.1, ht_good g.2.2⟩)
theorem sz_good : ∀ {d : Nat} {t : Tree}, Good d t → sz t < 2 ^ (d + 1)
  | d, .lit _ _, _ => by have := Nat.one_le_two_pow (n := d); simp [sz, Nat.pow_succ]; lia
  | d, .txt, _ => by have := Nat.one_le_two_pow (n := d); simp [sz, Nat.pow_succ]; lia
  | d, .name _, _ => by have := Nat.one_le_two_pow (n := d); simp [sz, Nat.pow_succ]; lia
  | 0, .un _ _, g => g.elim
  | 0, .bin _ _ _, g => g.elim
  | d + 1, .un op a, g => by have := sz_good g.2; simp [sz, Nat.pow_succ] at *; lia
  | d + 1, .bin op a b, g => by have := sz_good g.2.1; have := sz_good g.2.2; simp [sz, Nat.pow_succ] at *; lia
theorem sz_small {d : Nat} {t : Tree} (hd : d ≤ 5) (g : Good d t) : sz t ≤ 5000 := by
  have := sz_good g
  have : 2 ^ (d + 1) ≤ 2 ^ 6 := Nat.pow_le_pow_right (by decide) (by lia)
  lia
theorem o_folded {t : Tree} {d : Nat} (n : Nat) (hd : d ≤ 5) (g : Good d t) (no : noOdd t) (hw : worth t ≠ .odd) : S_folded t (CM (n + 16)) := fun σ k X h =>
  CM_fn rfl (b_folded_ (CM (n + 15)) (o_snames (n + 13)) (o_fold t d (n + 5) hd g no hw (by have := ht_good g; lia)) (o_fuses (n + 14)) g.low (sz_small hd g) (Ret.same h))
end Mine
end
section
namespace Mine
inductive Rw where
  | const (c : Int) | var (s : Nat) | call (c : Int) | op (o : Nat) (n c : Int) | guard (s : Nat) (t : Int) | jump (t : Int) | vis | fin
noncomputable def rAV : Rw → AV
  | .const c => .tup [.str 55, .int c]
  | .var s => .tup [.str 56, .str s]
  | .call c => .tup [.str 16, .int c]
  | .op o n c => .tup [.str 64, .str o, .int n, .int c]
  | .guard s t => .tup [.str 50, .str s, .int t]
  | .jump t => .tup [.str 44, .int t]
  | .vis => .tup [.str 157]
  | .fin => .tup [.str 54]
noncomputable def rhc : Rw → Int
  | .const _ => 1 | .var _ => 1 | .call _ => 1 | .op _ n _ => 1 - n | _ => 0
noncomputable def tgt : Rw → List Int
  | .guard _ t => [t] | .jump t => [t] | _ => []
noncomputable def aimR (r : Rw) (t : Int) : Rw := match r with
  | .guard s _ => .guard s t | .jump _ => .jump t | r => r
noncomputable def gon : Rw → Bool
  | .jump _ => false | .fin => false | _ => true
theorem bnds_ints (n : Nat) : ∀ (xs : List Int), bnds n (xs.map AV.int) = true
  | [] => rfl
  | _ :: xs => bnds_ints n xs
theorem b_rt (C : Calls) {w : Rw} {σ : Sto} {r : KE} {X : KX} (h : r (.loc σ.length) (σ ++ [.list ((tgt w).map AV.int)])) : runF C ⟨[43], b_row_targets, 0⟩ [rAV w] σ r X := by
  cases w <;> (show wpB C b_row_targets _ _ _ _; ktr_unf; exact h)
noncomputable def S_rtF (C : Calls) : Prop := ∀ w σ (k : KE) X, k (.lst ((tgt w).map AV.int)) σ → C 70 [rAV w] σ k X
theorem o_rtF (n) : S_rtF (CM (n + 1)) := fun zz zz zz zz h => CM_fn rfl (b_rt (CM n) (Ret.list (bnds_ints _ _) h))
noncomputable def S_rtM (C : Calls) : Prop := ∀ w σ (k : KE) X, k (.loc σ.length) (σ ++ [.list ((tgt w).map AV.int)]) → C 70 [rAV w] σ k X
theorem o_rtM (n) : S_rtM (CM (n + 1)) := fun zz zz zz zz h => CM_fn rfl (b_rt (CM n) (Ret.stay h))
theorem item_locN {σ : Sto} {l i : Nat} {xs : List AV} {v : AV} (h : σ[l]? = some (.list xs)) (hx : xs[i]? = some v) : itemOf σ (.loc l) (.int i) = some v := by
  have hi : i < xs.length := (List.getElem?_eq_some_iff.mp hx).1
  unfold itemOf
  simp only [expo, h]
  unfold idxOf
  rw [if_pos (Int.natCast_nonneg i)]
  simp [hi, hx]
  exact (List.getElem?_eq_some_iff.mp hx).2
noncomputable def S_wt (C : Calls) : Prop := ∀ w t (l : Nat) (σ : Sto) (k : KE) X, σ[l]? = some (.list [.int t]) → tgt w ≠ [] → k (rAV (aimR w t)) σ → C 127 [rAV w, .loc l] σ k X
theorem b_wt (C : Calls) {w t} {l : Nat} {σ : Sto} {r : KE} {X : KX} (hl : σ[l]? = some (.list [.int t])) (hw : tgt w ≠ []) (h : r (rAV (aimR w t)) σ) : runF C ⟨[43, 52], b_with_targets, 0⟩ [rAV w, .loc l] σ r X := by
  have hi : itemOf σ (.loc l) (.int 0) = some (.int t) := item_locN (i := 0) hl rfl
  cases w <;> first | exact absurd rfl hw | (show wpB C b_with_targets _ _ _ _; ktr_unf; tbr_iter (hi); ktr_unf; exact h)
theorem o_wt (n) : S_wt (CM (n + 1)) := fun zz zz zz zz zz zz hl hw h => CM_fn rfl (b_wt (CM n) hl hw (Ret.same h))
noncomputable def S_gon (C : Calls) : Prop := ∀ w σ (k : KE) X, k (.bool (gon w)) σ → C 82 [rAV w] σ k X
theorem b_gon (C : Calls) {w : Rw} {σ : Sto} {r : KE} {X : KX} (h : r (.bool (gon w)) σ) : runF C ⟨[43], b_goes_on, 0⟩ [rAV w] σ r X := by
  cases w <;> (show wpB C b_goes_on _ _ _ _; ktr_unf; exact h)
theorem o_gon (n) : S_gon (CM (n + 1)) := fun zz zz zz zz h => CM_fn rfl (b_gon (CM n) (Ret.same h))
noncomputable def S_hc (C : Calls) : Prop := ∀ w σ (k : KE) X, k (.int (rhc w)) σ → C 81 [rAV w] σ k X
theorem b_hc (C : Calls) {w : Rw} {σ : Sto} {r : KE} {X : KX} (h : r (.int (rhc w)) σ) : runF C ⟨[43], b_height_change, 0⟩ [rAV w] σ r X := by
  cases w <;> (show wpB C b_height_change _ _ _ _; ktr_unf; exact h)
theorem o_hc (n) : S_hc (CM (n + 1)) := fun zz zz zz zz h => CM_fn rfl (b_hc (CM n) (Ret.same h))
noncomputable def S_lc (C : Calls) : Prop := ∀ w σ (k : KE) X, k (.int 0) σ → C 83 [rAV w] σ k X
theorem b_lc (C : Calls) {w : Rw} {σ : Sto} {r : KE} {X : KX} (h : r (.int 0) σ) : runF C ⟨[43], b_loop_change, 0⟩ [rAV w] σ r X := by
  cases w <;> (show wpB C b_loop_change _ _ _ _; ktr_unf; exact h)
theorem o_lc (n) : S_lc (CM (n + 1)) := fun zz zz zz zz h => CM_fn rfl (b_lc (CM n) (Ret.same h))
noncomputable def stAV (a b c : Int) : AV := .tup [.int a, .int b, .int c]
noncomputable def S_ts (C : Calls) : Prop := ∀ w b c σ (k : KE) X, k (.lst ((tgt w).map fun t => stAV t b c)) σ → C 79 [rAV w, .int b, .int c] σ k X
theorem b_ts (C : Calls) (h1 : S_rtF C) {w : Rw} {b c : Int} {σ : Sto} {r : KE} {X : KX} (h : r (.lst ((tgt w).map fun t => stAV t b c)) σ) : runF C ⟨[43, 72, 73], b_target_states, 0⟩ [rAV w, .int b, .int c] σ r X := by
  have h1w := h1 w
  cases w <;> (show wpB C b_target_states _ _ _ _; ktr_unf; refine h1w _ _ _ ?_; ktr_unf; exact h)
theorem o_ts (n) : S_ts (CM (n + 2)) := fun zz zz zz zz zz zz h => CM_fn rfl (b_ts (CM (n + 1)) (o_rtF n) (Ret.same h))
noncomputable def WFr (rows : List Rw) : Prop := 0 < rows.length ∧ rows.length < 4000 ∧ ∀ (i : Nat) r, rows[i]? = some r → (gon r = true → i + 1 < rows.length) ∧ ∀ t ∈ tgt r, 0 ≤ t ∧ t < rows.length
end Mine
end
section
namespace Mine
theorem lk4 {a b c d x : Nat} {p q r s : AV} {tl : Loc} (h : (Nat.beq a x || Nat.beq b x || Nat.beq c x || Nat.beq d x) = false) : nsLk ((a, p) :: (b, q) :: (c, r) :: (d, s) :: tl) x = nsLk tl x := by
  have n : ∀ {a x : Nat}, Nat.beq a x = false → ¬ a = x := fun h e => by subst e; simp at h
  simp only [Bool.or_eq_false_iff] at h
  show (if a = x then _ else if b = x then _ else if c = x then _ else if d = x then _ else _) = _
  rw [if_neg (n h.1.1.1), if_neg (n h.1.1.2), if_neg (n h.1.2), if_neg (n h.2)]
noncomputable def un : List Nat → List Int → Nat
  | [], _ => 0
  | j :: L, ks => (if ks.contains (j : Int) then 0 else 1) + un L ks
theorem un_le (i : Int) (ks : List Int) : ∀ (L : List Nat), un L (ks ++ [i]) ≤ un L ks
  | [] => Nat.le_refl _
  | j :: L => by
    have ih := un_le i ks L
    show (if (ks ++ [i]).contains (j : Int) then 0 else 1) + un L (ks ++ [i]) ≤ (if ks.contains (j : Int) then 0 else 1) + un L ks
    by_cases h : ks.contains (j : Int) = true
    · have : (ks ++ [i]).contains (j : Int) = true := by simp at h ⊢; exact .inl h
      rw [if_pos h, if_pos this]; lia
    · rw [if_neg h]; split <;> lia
theorem un_lt {i : Nat} {ks : List Int} (hk : ks.contains (i : Int) = false) : ∀ (L : List Nat), i ∈ L → un L (ks ++ [(i : Int)]) < un L ks
  | [], h => nomatch h
  | j :: L, h => by
    show (if (ks ++ [(i : Int)]).contains (j : Int) then 0 else 1) + un L (ks ++ [(i : Int)]) < (if ks.contains (j : Int) then 0 else 1) + un L ks
    by_cases e : i = j
    · subst e
      have : (ks ++ [(i : Int)]).contains (i : Int) = true := by simp
      have := un_le i ks L
      rw [if_pos ‹_›, if_neg (by rw [hk]; decide)]; lia
    · have ih := un_lt hk L (by cases h with | head => exact absurd rfl e | tail _ m => exact m)
      by_cases h2 : ks.contains (j : Int) = true
      · have : (ks ++ [(i : Int)]).contains (j : Int) = true := by simp at h2 ⊢; exact .inl h2
        rw [if_pos h2, if_pos this]; lia
      · rw [if_neg h2]; split <;> lia
theorem un_nil : ∀ (L : List Nat), un L [] = L.length
  | [] => rfl
  | j :: L => by show 1 + un L [] = _; rw [un_nil L]; simp; lia
noncomputable abbrev Pst := Nat × Int × Int
noncomputable def pst (p : Pst) : AV := stAV p.1 p.2.1 p.2.2
noncomputable def GI (σ : Sto) (lr R : Nat) : KS := fun l s => ∃ (ks : List Int) (ps : List Pst) (m : Int) (tl : Loc), s = σ ++ [.idict ks, .list (ps.map pst)] ∧ l = (40, .loc lr) :: (74, .int m) :: (75, .loc σ.length) :: (76, .loc (σ.length + 1)) :: tl ∧
  (∀ p ∈ ps, p.1 < R) ∧ ps.length ≤ ks.length + 1 ∧ un (List.range R) ks + ks.length ≤ R
noncomputable def GM (σ : Sto) (R : Nat) : Loc → Sto → Nat := fun zz s => match s[σ.length]?, s[σ.length + 1]? with
  | some (.idict ks), some (.list xs) => 2 * un (List.range R) ks + xs.length
  | _, _ => 0
theorem GM_at {σ : Sto} {l : Loc} {R ks xs} : GM σ R l (σ ++ [.idict ks, .list xs]) = 2 * un (List.range R) ks + xs.length := by unfold GM; rw [at0, at1]
theorem in_idict {σ : Sto} {l : Nat} {ks : List Int} {i : Int} (h : σ[l]? = some (.idict ks)) : cmpS σ 8 (.int i) (.loc l) = some (ks.contains i) := by
  show (match σ[l]? with | some (.idict ks) => some (ks.contains i) | _ => Option.none) = _
  rw [h]
theorem set_idict {σ : Sto} {l : Nat} {ks : List Int} {i : Int} (h : σ[l]? = some (.idict ks)) (h1 : ks.contains i = false) (h2 : ks.length < 10000) : setIV σ (.loc l) (.int i) (.bool true) = some (σ.set l (.idict (ks ++ [i]))) := by unfold setIV; simp only [h]; rw [if_pos ⟨h1, h2⟩]
theorem pop_pst {qs : List Pst} {p : Pst} : (qs.map pst ++ [pst p]).getLast? = some (pst p) := by simp
theorem pop_prest {qs : List Pst} {p : Pst} : (qs.map pst ++ [pst p]).dropLast = qs.map pst := by simp
theorem tgt_two (w : Rw) : tgt w = [] ∨ ∃ t, tgt w = [t] := by cases w <;> simp [tgt]
noncomputable def S_gh (C : Calls) : Prop := ∀ (rows : List Rw) (lr : Nat) (σ : Sto) (k : KE) X, WFr rows → σ[lr]? = some (.list (rows.map rAV)) → (∀ m, k (.int m) σ) → C 126 [.loc lr] σ k X
theorem gh_body (C : Calls) (h1 : S_ts C) (h2 : S_hc C) (h3 : S_gon C) (h4 : S_lc C) {rows : List Rw} {lr i : Nat} {b c m : Int} {σ : Sto} {tl : Loc} {ks : List Int} {qs : List Pst} {R : KE} {M : Nat} (wf : WFr rows) (hl : σ[lr]? = some (.list (rows.map rAV)))
    (hi : i < rows.length) (hq : ∀ p ∈ qs, p.1 < rows.length) (hlen : qs.length ≤ ks.length) (hu : un (List.range rows.length) ks + ks.length ≤ rows.length) (hM : M = 2 * un (List.range rows.length) ks + (qs.length + 1)) (e77 : nsLk tl 77 = some (.int i)) (e72 : nsLk tl 72 = some (.int b)) (e73 : nsLk tl 73 = some (.int c)) :
    wpB C [.ite (.cmp 8 (.nm 77) (.nm 75)) [.cont] [], .setI (.nm 75) (.nm 77) (.cB true), .asg 43 (.sub (.nm 40) (.nm 77)), .forr 78 (.call (.gl 79) [(.nm 43), (.nm 72), (.nm 73)]) [.ex (.meth (.nm 76) 29 [(.nm 78)])], .asg 80 (.bin 0 (.nm 72) (.call (.gl 81) [(.nm 43)])), .asg 74 (.call (.gl 26) [(.nm 74), (.nm 72), (.nm 80)]), .ite (.call (.gl 82) [(.nm 43)]) [.ex (.meth (.nm 76) 29 [(.tup [(.bin 0 (.nm 77) (.cI 1)), (.nm 80), (.bin 0 (.nm 73) (.call (.gl 83) [(.nm 43)]))])])] []]
      ((40, .loc lr) :: (74, .int m) :: (75, .loc σ.length) :: (76, .loc (σ.length + 1)) :: tl) (σ ++ [.idict ks, .list (qs.map pst)])
      ⟨fun l' σ' => GI σ lr rows.length l' σ' ∧ GM σ rows.length l' σ' < M, R, fun l' σ' => GI σ lr rows.length l' σ' ∧ GM σ rows.length l' σ' < M⟩ noX := by
  have r4 : rows.length < 4000 := wf.2.1
  ktr_unf
  apply opt_of ((lk4 rfl).trans e77); ktr_unf
  apply opt_of (in_idict at0)
  cases hc0 : ks.contains (i : Int) with
  | true =>
    ktr_unf
    exact ⟨⟨ks, qs, m, tl, rfl, rfl, hq, by lia, hu⟩, by rw [GM_at, hM, List.length_map]; lia⟩
  | false =>
    have lt := un_lt hc0 (List.range rows.length) (List.mem_range.mpr hi)
    ktr_unf
    apply opt_of ((lk4 rfl).trans e77); ktr_unf
    apply opt_of ((set_idict at0 hc0 (by lia)).trans (congrArg some set0)); ktr_unf
    apply opt_of ((lk4 rfl).trans e77); ktr_unf
    have hr : rows[i]? = some rows[i] := List.getElem?_eq_getElem hi
    have hlr : (σ ++ [AO.idict (ks ++ [(i : Int)]), .list (qs.map pst)])[lr]? = some (.list (rows.map rAV)) := app_lt hl
    apply opt_of (item_locN hlr (by rw [List.getElem?_map, hr]; rfl))
    obtain ⟨wg, wt⟩ := wf.2.2 i _ hr
    have h1 := h1 rows[i]
    have h2 := h2 rows[i]
    have h3 := h3 rows[i]
    have h4 := h4 rows[i]
    generalize rows[i] = w at *
    ktr_unf
    first | apply opt_of (lk_eq) | apply opt_of ((lk_ne rfl).trans lk_eq)
    ktr_unf
    first | apply opt_of ((lk_ne rfl).trans ((lk4 rfl).trans e72)) | apply opt_of ((lk_ne rfl).trans ((lk_ne rfl).trans ((lk4 rfl).trans e72)))
    ktr_unf
    first | apply opt_of ((lk_ne rfl).trans ((lk4 rfl).trans e73)) | apply opt_of ((lk_ne rfl).trans ((lk_ne rfl).trans ((lk4 rfl).trans e73)))
    ktr_unf
    refine h1 _ _ _ _ _ ?_
    have rest : ∀ (tl' : Loc) (qs' : List Pst) (xs : List AV), xs = qs'.map pst → nsLk tl' 43 = some (rAV w) → nsLk tl' 77 = some (.int i) → nsLk tl' 72 = some (.int b) → nsLk tl' 73 = some (.int c) → (∀ p ∈ qs', p.1 < rows.length) → qs'.length ≤ qs.length + 1 →
      wpB C [.asg 80 (.bin 0 (.nm 72) (.call (.gl 81) [(.nm 43)])), .asg 74 (.call (.gl 26) [(.nm 74), (.nm 72), (.nm 80)]), .ite (.call (.gl 82) [(.nm 43)]) [.ex (.meth (.nm 76) 29 [(.tup [(.bin 0 (.nm 77) (.cI 1)), (.nm 80), (.bin 0 (.nm 73) (.call (.gl 83) [(.nm 43)]))])])] []]
        ((40, .loc lr) :: (74, .int m) :: (75, .loc σ.length) :: (76, .loc (σ.length + 1)) :: tl') (σ ++ [.idict (ks ++ [(i : Int)]), .list xs])
        ⟨fun l' σ' => GI σ lr rows.length l' σ' ∧ GM σ rows.length l' σ' < M, R, fun l' σ' => GI σ lr rows.length l' σ' ∧ GM σ rows.length l' σ' < M⟩ noX := by
      intro tl' qs' xs hx f43 f77 f72 f73 hq' hlen'
      subst hx
      ktr_unf
      apply opt_of ((lk4 rfl).trans f72); ktr_unf
      apply opt_of ((lk4 rfl).trans f43); ktr_unf
      refine h2 _ _ _ ?_; ktr_unf
      first | apply opt_of ((lk_ne rfl).trans ((lk4 rfl).trans f72)) | apply opt_of ((lk_ne rfl).trans ((lk_ne rfl).trans ((lk4 rfl).trans f72)))
      ktr_unf
      first | apply opt_of (lk_eq) | apply opt_of ((lk_ne rfl).trans lk_eq)
      ktr_unf
      first | apply opt_of ((lk_ne rfl).trans ((lk4 rfl).trans f43)) | apply opt_of ((lk_ne rfl).trans ((lk_ne rfl).trans ((lk4 rfl).trans f43)))
      ktr_unf
      refine h3 _ _ _ ?_
      have fin : ∀ (tl2 : Loc) (m2 : Int) (ps : List Pst) (ys : List AV), ys = ps.map pst → (∀ p ∈ ps, p.1 < rows.length) → ps.length ≤ qs.length + 2 → (GI σ lr rows.length ((40, .loc lr) :: (74, .int m2) :: (75, .loc σ.length) :: (76, .loc (σ.length + 1)) :: tl2) (σ ++ [.idict (ks ++ [(i : Int)]), .list ys]) ∧ GM σ rows.length ((40, .loc lr) :: (74, .int m2) :: (75, .loc σ.length) :: (76, .loc (σ.length + 1)) :: tl2) (σ ++ [.idict (ks ++ [(i : Int)]), .list ys]) < M) := by
        intro tl2 m2 ps ys hy hp hpl
        subst hy
        refine ⟨⟨_, ps, m2, tl2, rfl, rfl, hp, by simp; lia, by simp; lia⟩, ?_⟩
        rw [GM_at, hM, List.length_map]; lia
      cases hg : gon w with
      | false =>
        ktr_unf
        exact fin _ _ qs' _ rfl hq' (by lia)
      | true =>
        ktr_unf
        tbr_iter (cal_app at1); ktr_unf
        first | apply opt_of ((lk_ne rfl).trans ((lk4 rfl).trans f77)) | apply opt_of ((lk_ne rfl).trans ((lk_ne rfl).trans ((lk4 rfl).trans f77)))
        first | apply opt_of (lk_eq) | apply opt_of ((lk_ne rfl).trans lk_eq)
        first | apply opt_of ((lk_ne rfl).trans ((lk4 rfl).trans f73)) | apply opt_of ((lk_ne rfl).trans ((lk_ne rfl).trans ((lk4 rfl).trans f73)))
        first | apply opt_of ((lk_ne rfl).trans ((lk4 rfl).trans f43)) | apply opt_of ((lk_ne rfl).trans ((lk_ne rfl).trans ((lk4 rfl).trans f43)))
        ktr_unf
        refine h4 _ _ _ ?_; ktr_unf
        tbr_iter (at1); ktr_unf
        refine And.intro (by simp; lia) ?_
        tbr_iter (set1); ktr_unf
        refine fin _ _ (qs' ++ [(i + 1, b + rhc w, c)]) _ (by simp [pst, stAV]) (fun p hp => ?_) (by simp; lia)
        rcases List.mem_append.mp hp with hp | hp
        · exact hq' p hp
        · simp at hp; subst hp; exact wg hg
    rcases tgt_two w with ht | ⟨t, ht⟩
    · tbr_iter (ht); ktr_unf
      exact rest _ qs _ rfl lk_eq ((lk_ne rfl).trans e77) ((lk_ne rfl).trans e72) ((lk_ne rfl).trans e73) hq (by lia)
    · rw [ht] at wt ⊢
      ktr_unf
      tbr_iter (cal_app at1); ktr_unf
      first | apply opt_of (lk_eq) | apply opt_of ((lk_ne rfl).trans lk_eq)
      ktr_unf
      tbr_iter (at1); ktr_unf
      refine And.intro (by simp; lia) ?_
      tbr_iter (set1); ktr_unf
      obtain ⟨t0, t1⟩ := wt t (.head _)
      have et : (t.toNat : Int) = t := Int.toNat_of_nonneg t0
      refine rest _ (qs ++ [(t.toNat, b, c)]) _ (by simp [pst, et]) ((lk_ne rfl).trans lk_eq) ((lk_ne rfl).trans ((lk_ne rfl).trans e77)) ((lk_ne rfl).trans ((lk_ne rfl).trans e72)) ((lk_ne rfl).trans ((lk_ne rfl).trans e73)) (fun p hp => ?_) (by simp)
      rcases List.mem_append.mp hp with hp | hp
      · exact hq p hp
      · simp at hp; subst hp; show t.toNat < _; lia
theorem b_gh (C : Calls) (h1 : S_ts C) (h2 : S_hc C) (h3 : S_gon C) (h4 : S_lc C) {rows : List Rw} {lr : Nat} {σ : Sto} {r : KE} {X : KX} (wf : WFr rows) (hl : σ[lr]? = some (.list (rows.map rAV))) (h : ∀ m e, r (.int m) (σ ++ e)) : runF C ⟨[40], b_greatest_height, 0⟩ [.loc lr] σ r X := by
  show wpB C b_greatest_height _ _ _ _; ktr_unf
  have ex : σ ++ [AO.idict []] ++ [AO.list [.tup [.int 0, .int 0, .int 0]]] = σ ++ [.idict [], .list ([((0 : Nat), (0 : Int), (0 : Int))].map pst)] := by simp [pst, stAV]
  refine ⟨GI σ lr rows.length, GM σ rows.length, ⟨[], [(0, 0, 0)], 0, [], ex, ?_, by simpa using wf.1, by simp, by rw [un_nil]; simp⟩, ?_⟩
  · show [((40 : Nat), AV.loc lr), (74, .int 0), (75, .loc σ.length), (76, .loc (σ ++ [AO.idict []]).length)] = _
    rw [app_len]
  rintro l s ⟨ks, ps, m, tl, rfl, rfl, hp, hlen, hu⟩
  have a1 : (σ ++ [AO.idict ks, .list (ps.map pst)])[σ.length + 1]? = some (.list (ps.map pst)) := at1
  rcases List.eq_nil_or_concat ps with rfl | ⟨qs, p, rfl⟩
  · ktr_unf
    tbr_iter (len_loc a1); ktr_unf
    exact h _ _
  · rw [List.concat_eq_append] at *
    have em : (qs ++ [p]).map pst = qs.map pst ++ [pst p] := by simp
    have hM : GM σ rows.length ((40, .loc lr) :: (74, .int m) :: (75, .loc σ.length) :: (76, .loc (σ.length + 1)) :: tl) (σ ++ [.idict ks, .list ((qs ++ [p]).map pst)]) = 2 * un (List.range rows.length) ks + (qs.length + 1) := by rw [GM_at, List.length_map, List.length_append]; rfl
    rw [em] at a1 hM ⊢
    have st : (σ ++ [AO.idict ks, .list (qs.map pst ++ [pst p])]).set (σ.length + 1) (.list (qs.map pst ++ [pst p]).dropLast) = σ ++ [.idict ks, .list (qs.map pst)] := by rw [set1, pop_prest]
    have gt : (((qs.map pst ++ [pst p]).length : Nat) : Int) > 0 := by rw [List.length_append]; exact Int.ofNat_lt.mpr (Nat.succ_pos _)
    obtain ⟨i, b, c⟩ := p
    ktr_unf
    tbr_iter (len_loc a1); ktr_unf
    rotate_left
    · exact absurd (of_decide_eq_false hc) (not_not_intro gt)
    tbr_iter (cal_pop a1); ktr_unf
    tbr_iter (a1); ktr_unf
    tbr_iter (pop_pst); ktr_unf
    have bd := gh_body C h1 h2 h3 h4 (σ := σ) (tl := nsPut (nsPut (nsPut tl 77 (.int i)) 72 (.int b)) 73 (.int c)) (R := r) (m := m) wf hl (hp (i, b, c) (by simp)) (fun q m => hp q (by simp [m])) (by simpa using hlen) hu hM (by rw [lk_ne rfl, lk_ne rfl, lk_eq]) (by rw [lk_ne rfl, lk_eq]) lk_eq
    rw [← st] at bd
    exact bd
theorem o_gh (n) : S_gh (CM (n + 3)) := fun zz zz zz zz zz wf hl h => CM_fn rfl (b_gh (CM (n + 2)) (o_ts n) (o_hc (n + 1)) (o_gon (n + 1)) (o_lc (n + 1)) wf hl fun m e => Ret.cut rfl (h m))
end Mine
end
section
namespace Mine
noncomputable def cns (n : Nat) (h : Int) : List (Nat × AV) := [(123, .glob 133), (40, .loc (n + 2)), (41, .loc (n + 3)), (72, .int h), (73, .loc (n + 4))]
@[irreducible] noncomputable def CSt (σ : Sto) (rows : List Rw) (K : List AV) (h : Int) : Sto := σ ++ [.ns (cns σ.length h), .inst 6 σ.length, .list (rows.map rAV), .list K, .list []]
theorem cst (σ : Sto) (rows : List Rw) (K : List AV) (h : Int) : CSt σ rows K h = σ ++ [.ns (cns σ.length h), .inst 6 σ.length, .list (rows.map rAV), .list K, .list []] := by unfold CSt; rfl
theorem at2 {σ : Sto} {a b c : AO} {e : Sto} : (σ ++ a :: b :: c :: e)[σ.length + 2]? = some c := by simp
theorem at3 {σ : Sto} {a b c d : AO} {e : Sto} : (σ ++ a :: b :: c :: d :: e)[σ.length + 3]? = some d := by simp
theorem set2 {σ e : Sto} {a b c d : AO} : (σ ++ a :: b :: c :: e).set (σ.length + 2) d = σ ++ a :: b :: d :: e := by rw [List.set_append_right _ _ (by lia)]; simp
theorem set3 {σ e : Sto} {a b c d f : AO} : (σ ++ a :: b :: c :: d :: e).set (σ.length + 3) f = σ ++ a :: b :: c :: f :: e := by rw [List.set_append_right _ _ (by lia)]; simp
section
variable {σ : Sto} {rows : List Rw} {K : List AV} {h : Int}
theorem cst_len : (CSt σ rows K h).length = σ.length + 5 := by rw [cst]; simp
theorem cst_attr {f : Nat} {v : AV} (e : nsLk (cns σ.length h) f = some v) (hf : Nat.beq f 39 = false) : attrOf (CSt σ rows K h) (.loc (σ.length + 1)) f = some v := by
  rw [cst]; unfold attrOf; simp only [expo, at1, at0]; rw [if_neg, e]
  intro q; rw [q.2] at hf; exact absurd hf (by decide)
theorem cst_cal {m g : Nat} (e : nsLk (cns σ.length h) m = Option.none) (hg : ME 6 m = some g) : calOf (CSt σ rows K h) (.loc (σ.length + 1)) m = some (.fn g [.loc (σ.length + 1)]) := by
  rw [cst]; unfold calOf; simp only [at1, at0]; rw [e]; simp only [hg]; rfl
theorem cst_folder : calOf (CSt σ rows K h) (.loc (σ.length + 1)) 123 = some (.fn 133 []) := by
  rw [cst]; unfold calOf; simp only [at1, at0]; rfl
theorem cst_rows : (CSt σ rows K h)[σ.length + 2]? = some (.list (rows.map rAV)) := by rw [cst]; exact at2
theorem cst_cons : (CSt σ rows K h)[σ.length + 3]? = some (.list K) := by rw [cst]; exact at3
theorem cst_setr (rows' : List Rw) : (CSt σ rows K h).set (σ.length + 2) (.list (rows'.map rAV)) = CSt σ rows' K h := by rw [cst, cst]; exact set2
theorem cst_setc (K' : List AV) : (CSt σ rows K h).set (σ.length + 3) (.list K') = CSt σ rows K' h := by rw [cst, cst]; exact set3
theorem cst_seth (h' : Int) : setAV (CSt σ rows K h) (.loc (σ.length + 1)) 72 (.int h') = some (CSt σ rows K h') := by
  rw [cst, cst]; unfold setAV; simp only [expo, at1, at0]; rw [if_pos (Nat.blt_eq.mp rfl), set0]; rfl
end
theorem attr_app {σ e : Sto} {i f : Nat} {v : AV} (q : attrOf σ (.loc i) f = some v) : attrOf (σ ++ e) (.loc i) f = some v := by
  unfold attrOf at q ⊢
  simp only [expo] at q ⊢
  cases h1 : σ[i]? with
  | none => rw [h1] at q; cases q
  | some o =>
    rw [app_lt h1]; rw [h1] at q
    cases o with
    | inst c d =>
      cases h2 : σ[d]? with
      | none => simp only [h2] at q; cases q
      | some o2 => simp only [h2] at q; simp only [app_lt h2]; exact q
    | _ => cases q
theorem Cut.set {σ e : Sto} {i : Nat} {a : AO} (h : bndO σ.length a = true) : Cut σ (σ.set i a ++ e) (σ.set i a) := by
  refine ⟨by simp, fun j hj => ⟨List.getElem?_append_left (by simpa using hj), ?_⟩⟩
  by_cases ej : i = j
  · subst ej
    exact .inr ⟨a, by simp [hj], h⟩
  · exact .inl (List.getElem?_set_ne ej)
theorem bnd_rAV (n : Nat) (w : Rw) : bnd n (rAV w) = true := by cases w <;> rfl
theorem bnds_rAV (n : Nat) : ∀ (rows : List Rw), bnds n (rows.map rAV) = true
  | [] => rfl
  | w :: rows => by show (bnd n (rAV w) && bnds n (rows.map rAV)) = true; rw [bnd_rAV, bnds_rAV n rows]; rfl
noncomputable def S_emit (C : Calls) : Prop := ∀ w σ rows K h (k : KE) X, rows.length < 9000 → k (.int rows.length) (CSt σ (rows ++ [w]) K (h + rhc w)) → C 304 [.loc (σ.length + 1), rAV w] (CSt σ rows K h) k X
theorem b_emit (C : Calls) (h1 : S_hc C) {w σ rows K h} {r : KE} {X} (hr : rows.length < 9000) (q : r (.int rows.length) (CSt σ (rows ++ [w]) K (h + rhc w))) : runF C ⟨[38, 43], b_Compiler_emit, 0⟩ [.loc (σ.length + 1), rAV w] (CSt σ rows K h) r X := by
  show wpB C b_Compiler_emit _ _ _ _; ktr_unf
  tbr_iter (cst_attr rfl rfl); ktr_unf
  tbr_iter (cal_app cst_rows); ktr_unf; (all_goals try (conv => whnf))
  rw [cst_rows]
  refine And.intro (by simp; lia) ?_
  rw [show rows.map rAV ++ [rAV w] = (rows ++ [w]).map rAV by simp, cst_setr]; ktr_unf
  tbr_iter (cst_attr rfl rfl); ktr_unf
  refine h1 _ _ _ _ ?_; ktr_unf
  tbr_iter (cst_seth); ktr_unf
  tbr_iter (cst_attr rfl rfl); ktr_unf
  tbr_iter (len_loc cst_rows); ktr_unf; (all_goals try (conv => whnf))
  rw [show (((rows ++ [w]).map rAV).length : Int) - 1 = rows.length by simp]
  exact q
theorem o_emit (n) : S_emit (CM (n + 2)) := fun zz zz zz zz zz zz zz hr h => CM_fn rfl (b_emit (CM (n + 1)) (o_hc n) hr (Ret.stay h))
noncomputable def S_aim (C : Calls) : Prop := ∀ (i : Nat) w σ rows K h (k : KE) X, rows[i]? = some w → tgt w ≠ [] → k .none (CSt σ (rows.set i (aimR w rows.length)) K h) → C 305 [.loc (σ.length + 1), .int i] (CSt σ rows K h) k X
theorem setIV_loc {σ : Sto} {l i : Nat} {xs : List AV} {x : AV} (h : σ[l]? = some (.list xs)) (hi : i < xs.length) : setIV σ (.loc l) (.int i) x = some (σ.set l (.list (xs.set i x))) := by
  unfold setIV; simp only [h]; rw [if_pos ⟨Int.natCast_nonneg i, by simpa using hi⟩]; simp
theorem at0c {σ : Sto} {rows : List Rw} {K : List AV} {h : Int} {a : AO} : (CSt σ rows K h ++ [a])[σ.length + 5]? = some a := by rw [← cst_len (σ := σ) (rows := rows) (K := K) (h := h)]; exact at0
theorem b_aim (C : Calls) (h1 : S_rtM C) (h2 : S_wt C) {i : Nat} {w σ rows K h} {r : KE} {X} (hi : rows[i]? = some w) (hw : tgt w ≠ []) (q : ∀ e, r .none ((CSt σ rows K h).set (σ.length + 2) (.list ((rows.set i (aimR w rows.length)).map rAV)) ++ e)) : runF C ⟨[38, 77], b_Compiler_aim, 0⟩ [.loc (σ.length + 1), .int i] (CSt σ rows K h) r X := by
  have li : i < rows.length := (List.getElem?_eq_some_iff.mp hi).1
  obtain ⟨t, ht⟩ := (tgt_two w).resolve_left hw
  show wpB C b_Compiler_aim _ _ _ _; ktr_unf
  tbr_iter (cst_attr rfl rfl); ktr_unf; (all_goals try (conv => whnf))
  rw [item_locN cst_rows (by rw [List.getElem?_map, hi]; rfl)]; ktr_unf; (all_goals try (conv => whnf))
  refine h1 _ _ _ _ ?_
  tbr_iter (cst_len); ktr_unf
  tbr_iter (attr_app (cst_attr rfl rfl)); ktr_unf; (all_goals try (conv => whnf))
  rw [len_loc (app_lt cst_rows), List.length_map]; ktr_unf; (all_goals try (conv => whnf))
  rw [ht, show setIV (CSt σ rows K h ++ [.list ([t].map AV.int)]) (.loc (σ.length + 5)) (.int 0) (.int rows.length) = some (CSt σ rows K h ++ [.list [.int rows.length]]) by
    refine (setIV_loc (i := 0) at0c (by simp)).trans ?_
    rw [← cst_len (σ := σ) (rows := rows) (K := K) (h := h), set0]; rfl]; ktr_unf
  refine h2 _ _ _ _ _ _ at0c hw ?_; ktr_unf
  tbr_iter (attr_app (cst_attr rfl rfl)); ktr_unf
  tbr_iter (setIV_loc (app_lt cst_rows) (by simpa using li)); ktr_unf
  have := q [.list [.int rows.length]]
  rw [List.map_set] at this
  rw [List.set_append_left _ _ (by rw [cst_len]; lia)]
  exact this
theorem o_aim (n) : S_aim (CM (n + 2)) := fun i w σ rows K h k X hi hw q => CM_fn rfl (b_aim (CM (n + 1)) (o_rtM n) (o_wt n) hi hw fun e => .inr ⟨.none, .none, _, .refl _, rfl, .refl _, Cut.set (bnds_rAV _ _), by rw [cst_setr]; exact q⟩)
noncomputable def S_addc (C : Calls) : Prop := ∀ v σ rows K h (k : KE) X, K.length < 9000 → k (.int K.length) (CSt σ rows (K ++ [v]) h) → C 306 [.loc (σ.length + 1), v] (CSt σ rows K h) k X
theorem b_addc (C : Calls) {v σ rows K h} {r : KE} {X} (hr : K.length < 9000) (q : r (.int K.length) (CSt σ rows (K ++ [v]) h)) : runF C ⟨[38, 128], b_Compiler_add_const, 0⟩ [.loc (σ.length + 1), v] (CSt σ rows K h) r X := by
  show wpB C b_Compiler_add_const _ _ _ _; ktr_unf
  tbr_iter (cst_attr rfl rfl); ktr_unf
  tbr_iter (cal_app cst_cons); ktr_unf; (all_goals try (conv => whnf))
  rw [cst_cons]
  refine And.intro (by lia) ?_
  tbr_iter (cst_setc); ktr_unf
  tbr_iter (cst_attr rfl rfl); ktr_unf
  tbr_iter (len_loc cst_cons); ktr_unf; (all_goals try (conv => whnf))
  rw [show ((K ++ [v]).length : Int) - 1 = K.length by simp]
  exact q
theorem o_addc (n) : S_addc (CM (n + 1)) := fun zz zz zz zz zz zz zz hr h => CM_fn rfl (b_addc (CM n) hr (Ret.stay h))
noncomputable def Shr (C : Calls) (v : AV) : Prop := ∀ σ (k : KE) X, k v σ → C 129 [v] σ k X
theorem shr_vec (n) (kd x) : Shr (CM (n + 1)) (.vec kd x) := fun zz zz zz h => o_share n _ _ _ _ _ h
theorem shr_leaf (n) {t : Tree} (hl : leaf t = true) : Shr (CM (n + 1)) (.node t) := fun σ k X h => CM_fn (f := ⟨[84], b_share, 0⟩) rfl (by
  cases t with
  | lit kk i => show wpB _ b_share _ _ _ _; ktr_unf; exact Ret.same h
  | txt => show wpB _ b_share _ _ _ _; ktr_unf; exact Ret.same h
  | _ => cases hl)
noncomputable def S_push (C : Calls) : Prop := ∀ v σ rows K h (k : KE) X, (∀ n, Shr (CM (n + 1)) v) → rows.length < 9000 → K.length < 9000 → k .none (CSt σ (rows ++ [.const K.length]) (K ++ [v]) (h + 1)) → C 307 [.loc (σ.length + 1), v] (CSt σ rows K h) k X
theorem b_push (C : Calls) {v} (h1 : Shr C v) (h2 : S_addc C) (h3 : S_emit C) {σ rows K h} {r : KE} {X} (hr : rows.length < 9000) (hk : K.length < 9000) (q : r .none (CSt σ (rows ++ [.const K.length]) (K ++ [v]) (h + 1))) : runF C ⟨[38, 128], b_Compiler_push_const, 0⟩ [.loc (σ.length + 1), v] (CSt σ rows K h) r X := by
  show wpB C b_Compiler_push_const _ _ _ _; ktr_unf
  tbr_iter (cst_cal rfl rfl); ktr_unf
  tbr_iter (cst_cal rfl rfl); ktr_unf
  refine h1 _ _ _ ?_; ktr_unf
  refine h2 _ _ _ _ _ _ _ hk ?_; ktr_unf
  refine h3 (.const K.length) _ _ _ _ _ _ hr ?_; ktr_unf
  exact q
theorem o_push (n) : S_push (CM (n + 3)) := fun zz zz zz zz zz zz zz hv hr hk h => CM_fn rfl (b_push (CM (n + 2)) (hv (n + 1)) (o_addc (n + 1)) (o_emit n) hr hk (Ret.stay h))
end Mine
end
section
namespace Mine
noncomputable def grd (ns : List Nat) (T : Int) : List Rw := ns.map fun s => .guard s T
noncomputable def pos (p : Nat) : Nat → List AV
  | 0 => []
  | m + 1 => .int p :: pos (p + 1) m
theorem grd_len (ns : List Nat) (T : Int) : (grd ns T).length = ns.length := List.length_map _
theorem comp_guards (C : Calls) (h1 : S_emit C) {σ : Sto} {K : List AV} {h : Int} {l : Loc} {v : AV} {xs0 : List AV} {k : KE} (hv : ∀ σ, itemsOf σ v = some xs0) (hl : nsLk l 38 = some (.loc (σ.length + 1))) : ∀ (ns : List Nat) (rows : List Rw) (acc : List AV), rows.length + ns.length < 9000 →
    k (.lst (acc ++ pos rows.length ns.length)) (CSt σ (rows ++ grd ns (-1)) K h) →
    compV (fun l σ k => (wp2 C (.meth (.nm 38) 125 [(.tup [(.cS 50), .nm 5, (.neg (.cI 1))])])).v l σ k noX) 5 v xs0 l k (ns.map AV.str) acc (CSt σ rows K h)
  | [], rows, acc, hr, q => ⟨hv _, by simpa [pos, grd] using q⟩
  | s :: ns, rows, acc, hr, q => by
    refine ⟨hv _, ?_⟩
    have e38 : nsLk ((5, AV.str s) :: l) 38 = some (.loc (σ.length + 1)) := hl
    ktr_unf
    tbr_iter (e38); ktr_unf
    tbr_iter (cst_cal rfl rfl); ktr_unf
    refine h1 (.guard s (-1)) _ _ _ _ _ _ (by lia) ?_
    rw [show h + rhc (.guard s (-1)) = h from Int.add_zero h]
    refine comp_guards C h1 hv hl ns _ _ (by simp at hr ⊢; lia) ?_
    have e1 : rows ++ [Rw.guard s (-1)] ++ grd ns (-1) = rows ++ grd (s :: ns) (-1) := by simp [grd]
    have e2 : acc ++ [AV.int rows.length] ++ pos (rows ++ [Rw.guard s (-1)]).length ns.length = acc ++ pos rows.length (s :: ns).length := by simp [pos]
    rw [e1, e2]; exact q
theorem mid_get {A B : List Rw} {w : Rw} : (A ++ w :: B)[A.length]? = some w := by simp
theorem mid_set {A B : List Rw} {w v : Rw} : (A ++ w :: B).set A.length v = A ++ v :: B := by rw [List.set_append_right _ _ (Nat.le_refl _)]; simp
theorem for_aims (C : Calls) (h1 : S_aim C) {σ : Sto} {K : List AV} {h : Int} {v : AV} {xs0 : List AV} {F : Fl} {T : Int} {e a b c : AV} {N : Nat} (hv : ∀ σ, itemsOf σ v = some xs0) {B : List Rw} : ∀ (ns : List Nat) (A : List Rw) (tl : Loc), A.length + ns.length + B.length = N → (tl = [] ∨ ∃ x, tl = [(77, x)]) →
    (∀ tl, F.N ((38, .loc (σ.length + 1)) :: (124, e) :: (148, a) :: (147, b) :: (154, c) :: tl) (CSt σ (A ++ grd ns N ++ B) K h)) →
    forV (fun l σ F => wpB C [.ex (.meth (.nm 38) 155 [.nm 77])] l σ F noX) 77 v xs0 F (pos A.length ns.length) ((38, .loc (σ.length + 1)) :: (124, e) :: (148, a) :: (147, b) :: (154, c) :: tl) (CSt σ (A ++ grd ns (-1) ++ B) K h)
:= by
  intro ns
  induction ns with
  | nil => exact fun A tl hn htl q => ⟨hv _, q tl⟩
  | cons s ns ih =>
    intro A tl hn htl q
    refine ⟨hv _, ?_⟩
    have e0 : A ++ grd (s :: ns) (-1) ++ B = A ++ Rw.guard s (-1) :: (grd ns (-1) ++ B) := by simp [grd]
    have len : (A ++ grd (s :: ns) (-1) ++ B).length = N := by simp [grd_len] at hn ⊢; lia
    have st : (A ++ grd (s :: ns) (-1) ++ B).set A.length (aimR (.guard s (-1)) (A ++ grd (s :: ns) (-1) ++ B).length) = A ++ [.guard s N] ++ grd ns (-1) ++ B := by
      rw [len, e0, mid_set]; simp [aimR]
    have next := ih (A ++ [.guard s N]) [(77, .int A.length)] (by simp at hn ⊢; lia) (.inr ⟨_, rfl⟩) (fun tl => by
      have := q tl
      rwa [show A ++ grd (s :: ns) N ++ B = A ++ [.guard s N] ++ grd ns N ++ B by simp [grd]] at this)
    rw [show (A ++ [Rw.guard s N]).length = A.length + 1 by simp] at next
    rcases htl with rfl | ⟨x, rfl⟩ <;>
    · ktr_unf
      tbr_iter (cst_cal rfl rfl); ktr_unf
      refine h1 _ _ _ _ _ _ _ _ (by rw [e0]; exact mid_get) (by simp [tgt]) ?_
      rw [st]
      exact next
noncomputable def after (ns : List Nat) (p : Nat) (B : List Rw) (c : Nat) : List Rw := grd ns ((p + ns.length + B.length + 1 : Nat) : Int) ++ B ++ [.jump ((p + ns.length + B.length + 2 : Nat) : Int), .call c]
noncomputable def S_pway (C : Calls) : Prop := ∀ ns B rows σ K t (h h0 : Int) (k : KE) X, rows.length + ns.length + B.length < 8000 → K.length < 9000 → k .none (CSt σ (rows ++ after ns rows.length B K.length) (K ++ [t]) (h0 + 1)) →
  C 311 [.loc (σ.length + 1), t, .lst (pos rows.length ns.length), .int h0] (CSt σ (rows ++ (grd ns (-1) ++ B)) K h) k X
theorem b_pway (C : Calls) (h1 : S_emit C) (h2 : S_aim C) (h3 : S_addc C) {ns B rows σ K t} {h h0 : Int} {r : KE} {X} (hr : rows.length + ns.length + B.length < 8000) (hk : K.length < 9000) (q : r .none (CSt σ (rows ++ after ns rows.length B K.length) (K ++ [t]) (h0 + 1))) :
    runF C ⟨[38, 124, 148, 147], b_Compiler_plain_way, 0⟩ [.loc (σ.length + 1), t, .lst (pos rows.length ns.length), .int h0] (CSt σ (rows ++ (grd ns (-1) ++ B)) K h) r X := by
  have len : (rows ++ (grd ns (-1) ++ B)).length = rows.length + ns.length + B.length := by simp [grd_len]; lia
  show wpB C b_Compiler_plain_way _ _ _ _; ktr_unf
  tbr_iter (cst_cal rfl rfl); ktr_unf
  refine h1 (.jump (-1)) _ _ _ _ _ _ (by lia) ?_
  tbr_iter (show h + rhc (.jump (-1)) = h from Int.add_zero h); ktr_unf
  rw [show rows ++ (grd ns (-1) ++ B) ++ [Rw.jump (-1)] = rows ++ grd ns (-1) ++ (B ++ [.jump (-1)]) by simp]
  refine for_aims C h2 (N := rows.length + ns.length + B.length + 1) (T := 0) (fun zz => rfl) ns rows [] (by simp; lia) (.inl rfl) fun tl => ?_
  ktr_unf
  tbr_iter (cst_seth); ktr_unf
  tbr_iter (cst_cal rfl rfl); ktr_unf
  tbr_iter (cst_cal rfl rfl); ktr_unf
  refine h3 _ _ _ _ _ _ _ hk ?_; ktr_unf
  refine h1 (.call K.length) _ _ _ _ _ _ (by simp [grd_len]; lia) ?_; ktr_unf
  tbr_iter (cst_cal rfl rfl); ktr_unf
  rw [len]
  have e1 : rows ++ grd ns ((rows.length + ns.length + B.length + 1 : Nat) : Int) ++ (B ++ [Rw.jump (-1)]) ++ [.call K.length] = (rows ++ grd ns ((rows.length + ns.length + B.length + 1 : Nat) : Int) ++ B) ++ .jump (-1) :: [.call K.length] := by simp
  have e2 : (rows ++ grd ns ((rows.length + ns.length + B.length + 1 : Nat) : Int) ++ B).length = rows.length + ns.length + B.length := by simp [grd_len]; lia
  have e3 : ∀ (N : Nat), rows ++ grd ns ((rows.length + ns.length + B.length + 1 : Nat) : Int) ++ B ++ Rw.jump ((rows.length + ns.length + B.length + 2 : Nat) : Int) :: [.call K.length] = rows ++ after ns rows.length B K.length := fun zz => by simp [after]
  rw [e1]
  have e3 := e3 0
  generalize rows ++ grd ns ((rows.length + ns.length + B.length + 1 : Nat) : Int) ++ B = R at e2 e3 ⊢
  refine h2 (rows.length + ns.length + B.length) (.jump (-1)) _ _ _ _ _ _ (by rw [← e2]; exact mid_get) (by simp [tgt]) ?_
  rw [show (R ++ Rw.jump (-1) :: [.call K.length]).set (rows.length + ns.length + B.length) (aimR (.jump (-1)) (R ++ Rw.jump (-1) :: [.call K.length]).length) = rows ++ after ns rows.length B K.length by
    rw [← e3, ← e2, mid_set]; simp [aimR]]
  ktr_unf
  exact q
theorem o_pway (n) : S_pway (CM (n + 3)) := fun zz zz zz zz zz zz zz zz zz zz hr hk h => CM_fn rfl (b_pway (CM (n + 2)) (o_emit n) (o_aim n) (o_addc (n + 1)) hr hk (Ret.stay h))
end Mine
end
section
namespace Mine
noncomputable def isV : Wv → Bool
  | .num _ _ => true
  | .txt => true
  | _ => false
noncomputable def kons : Tree → List AV
  | .lit k i => [.node (.lit k i)]
  | .txt => [.node .txt]
  | .name _ => []
  | .un op a => if isV (worth (.un op a)) = true then [vecW (worth (.un op a)), .node (.un op a)] else if op = 19 then [.node (.un op a)] else if op = 115 then kons a ++ [.node (.un op a)] else kons a ++ [.node (.un op a), .node (.un op a)]
  | .bin op a b => if isV (worth (.bin op a b)) = true then [vecW (worth (.bin op a b)), .node (.bin op a b)] else kons a ++ kons b ++ [.node (.bin op a b), .node (.bin op a b)]
noncomputable def code : Tree → Nat → Nat → List Rw
  | .lit _ _, _, q => [.const q]
  | .txt, _, q => [.const q]
  | .name y, _, _ => [.var (if y then 18 else 17)]
  | .un op a, p, q => if isV (worth (.un op a)) = true then after (heads (.un op a)) p [.const q] (q + 1) else if op = 19 then [.call q] else if op = 115 then after [115] p (code a (p + 1) q ++ [.vis]) (q + (kons a).length)
      else after [op] p (code a (p + 1) q ++ [.op op 1 (q + (kons a).length : Nat)]) (q + (kons a).length + 1)
  | .bin op a b, p, q => if isV (worth (.bin op a b)) = true then after (heads (.bin op a b)) p [.const q] (q + 1)
      else after [op] p (code a (p + 1) q ++ code b (p + 1 + (code a (p + 1) q).length) (q + (kons a).length) ++ [.op op 2 (q + (kons a).length + (kons b).length : Nat)]) (q + (kons a).length + (kons b).length + 1)
noncomputable abbrev ITE : S := .ite (.cmp 0 (.nm 150) (.cS 55)) [.ex (.meth (.nm 38) 132 [(.nm 128)])] [.ite (.cmp 0 (.nm 150) (.cS 137)) [.ex (.meth (.nm 38) 137 [(.nm 124), (.sub (.nm 149) (.cI 0))])] [.ite (.cmp 0 (.nm 150) (.cS 151)) [.ex .wild] [.ex (.meth (.nm 38) 146 [(.nm 124), (.sub (.nm 149) (.cI 0))])]]]
noncomputable abbrev gloc (σ : Sto) (t : AV) (ns : List Nat) (mn v : AV) (h : Int) (p : Nat) : Loc := [(38, .loc (σ.length + 1)), (124, t), (149, .lst (ns.map AV.str)), (150, mn), (128, v), (147, .int h), (148, .lst (pos p ns.length))]
theorem b_guard (C : Calls) (h1 : S_emit C) (h2 : S_pway C) {σ t ns mn v rows K KB B} {h h' : Int} {r : KE} {X : KX} (hr : rows.length + ns.length + B.length < 8000) (hk : (K ++ KB).length < 9000)
    (inner : ∀ F : Fl, F.N (gloc σ t ns mn v h rows.length) (CSt σ (rows ++ (grd ns (-1) ++ B)) (K ++ KB) h') → wpS C ITE (gloc σ t ns mn v h rows.length) (CSt σ (rows ++ grd ns (-1)) K h) F X)
    (q : r .none (CSt σ (rows ++ after ns rows.length B (K ++ KB).length) (K ++ KB ++ [t]) (h + 1))) : runF C ⟨[38, 124, 149, 150, 128], b_Compiler_guarded, 0⟩ [.loc (σ.length + 1), t, .lst (ns.map AV.str), mn, v] (CSt σ rows K h) r X := by
  show wpB C b_Compiler_guarded _ _ _ _; ktr_unf
  tbr_iter (cst_attr rfl rfl); ktr_unf
  refine comp_guards C h1 (fun zz => rfl) rfl ns rows [] (by lia) ?_
  show wpS C ITE (gloc σ t ns mn v h rows.length) (CSt σ (rows ++ grd ns (-1)) K h) _ X
  refine inner _ ?_
  ktr_unf
  tbr_iter (cst_cal rfl rfl); ktr_unf
  refine h2 _ _ _ _ _ _ _ _ _ _ hr hk ?_
  ktr_unf
  exact q
noncomputable def S_gconst (C : Calls) : Prop := ∀ ns v t σ rows K h (k : KE) X, (∀ n, Shr (CM (n + 1)) v) → rows.length + ns.length + 1 < 8000 → K.length + 1 < 9000 → k .none (CSt σ (rows ++ after ns rows.length [.const K.length] (K.length + 1)) (K ++ [v, t]) (h + 1)) → C 310 [.loc (σ.length + 1), t, .lst (ns.map AV.str), .str 55, v] (CSt σ rows K h) k X
theorem b_gconst (C : Calls) (h1 : S_emit C) (h2 : S_pway C) (h3 : S_push C) {ns v t σ rows K h} {r : KE} {X : KX} (hv : ∀ n, Shr (CM (n + 1)) v) (hr : rows.length + ns.length + 1 < 8000) (hk : K.length + 1 < 9000) (q : r .none (CSt σ (rows ++ after ns rows.length [.const K.length] (K.length + 1)) (K ++ [v, t]) (h + 1))) :
    runF C ⟨[38, 124, 149, 150, 128], b_Compiler_guarded, 0⟩ [.loc (σ.length + 1), t, .lst (ns.map AV.str), .str 55, v] (CSt σ rows K h) r X := by
  refine b_guard C h1 h2 (B := [.const K.length]) (KB := [v]) (h' := h + 1) (by simpa using hr) (by simpa using hk) (fun F f => ?_) (by simpa using q)
  ktr_unf
  tbr_iter (cst_cal rfl rfl); ktr_unf
  refine h3 _ _ _ _ _ _ _ hv (by simp [grd_len]; lia) (by lia) ?_
  ktr_unf
  rw [List.append_assoc]
  exact f
theorem o_gconst (n) : S_gconst (CM (n + 4)) := fun zz zz zz zz zz zz zz zz zz hv hr hk h => CM_fn rfl (b_gconst (CM (n + 3)) (o_emit (n + 1)) (o_pway n) (o_push n) hv hr hk (Ret.stay h))
noncomputable def S_inner (g op : Nat) (t : AV) (B : Nat → Nat → List Rw) (KB : List AV) (M : Nat) (C : Calls) : Prop := ∀ σ rows K h (k : KE) X, rows.length + M < 8000 → K.length + M < 8000 → k .none (CSt σ (rows ++ B rows.length K.length) (K ++ KB) (h + 1)) → C g [.loc (σ.length + 1), t, .str op] (CSt σ rows K h) k X
noncomputable def S_ginner (mn op : Nat) (t : AV) (B : Nat → Nat → List Rw) (KB : List AV) (M : Nat) (C : Calls) : Prop := ∀ σ rows K h (k : KE) X, rows.length + 1 + M < 8000 → K.length + M < 8000 →
  k .none (CSt σ (rows ++ after [op] rows.length (B (rows.length + 1) K.length) (K.length + KB.length)) (K ++ KB ++ [t]) (h + 1)) → C 310 [.loc (σ.length + 1), t, .lst [.str op], .str mn, .none] (CSt σ rows K h) k X
theorem b_gin (C : Calls) (h1 : S_emit C) (h2 : S_pway C) {mn g op t B KB M σ rows K h} {r : KE} {X : KX} (hg : mn = 137 ∧ g = 312 ∨ mn = 146 ∧ g = 313) (hB : ∀ p q, (B p q).length ≤ M) (hKB : KB.length ≤ M) (h3 : S_inner g op t B KB M C) (hr : rows.length + 1 + M < 8000) (hk : K.length + M < 8000)
    (q : r .none (CSt σ (rows ++ after [op] rows.length (B (rows.length + 1) K.length) (K.length + KB.length)) (K ++ KB ++ [t]) (h + 1))) : runF C ⟨[38, 124, 149, 150, 128], b_Compiler_guarded, 0⟩ [.loc (σ.length + 1), t, .lst [.str op], .str mn, .none] (CSt σ rows K h) r X := by
  have l1 : (rows ++ grd [op] (-1)).length = rows.length + 1 := by simp [grd_len]
  refine b_guard C h1 h2 (ns := [op]) (B := B (rows.length + 1) K.length) (KB := KB) (h' := h + 1) (by have := hB (rows.length + 1) K.length; simp; lia) (by simp; lia) (fun F f => ?_) (by simpa using q)
  have h3 := h3 σ (rows ++ grd [op] (-1)) K h (fun zz s => F.N (gloc σ t [op] (.str mn) .none h rows.length) s) X (by rw [l1]; exact hr) hk (by rw [l1, List.append_assoc]; exact f)
  rcases hg with ⟨rfl, rfl⟩ | ⟨rfl, rfl⟩ <;>
  · ktr_unf
    tbr_iter (cst_cal rfl rfl); ktr_unf
    exact h3
theorem o_gin (n) {mn g op t B KB M} (hg : mn = 137 ∧ g = 312 ∨ mn = 146 ∧ g = 313) (hB : ∀ p q, (B p q).length ≤ M) (hKB : KB.length ≤ M) (h : S_inner g op t B KB M (CM (n + 3))) : S_ginner mn op t B KB M (CM (n + 4)) := fun zz zz zz zz zz zz hr hk q => CM_fn rfl (b_gin (CM (n + 3)) (o_emit (n + 1)) (o_pway n) hg hB hKB h hr hk (Ret.stay q))
noncomputable abbrev OPS : AV := .tup [.str 90, .str 91, .str 92, .str 93, .str 94, .str 95, .str 96, .str 97, .str 98, .str 99, .str 100, .str 101, .str 102, .str 103, .str 104, .str 105, .str 106, .str 107]
noncomputable def S_opn (C : Calls) : Prop := ∀ σ (k : KE) X, k OPS σ → C 135 [] σ k X
theorem o_opn (n) : S_opn (CM (n + 1)) := fun zz zz zz h => CM_fn (f := ⟨[], b_operator_names, 0⟩) rfl (by show wpB _ b_operator_names _ _ _ _; ktr_unf; exact Ret.same h)
noncomputable def IsP (op : Nat) : Prop := op = 90 ∨ op = 91 ∨ op = 92 ∨ op = 99 ∨ op = 103
noncomputable def S_isi (C : Calls) : Prop := ∀ op σ (k : KE) X, IsP op → k (.bool false) σ → C 110 [.str op] σ k X
theorem idx_no {σ : Sto} {op : Nat} (h : IsP op) : cmpS σ 0 (.str op) (.str 106) = some false ∧ cmpS σ 0 (.str op) (.str 107) = some false := by rcases h with rfl | rfl | rfl | rfl | rfl <;> exact ⟨rfl, rfl⟩
theorem b_isi (C : Calls) {op σ} {r : KE} {X} (ho : IsP op) (h : r (.bool false) σ) : runF C ⟨[5], b_is_index, 0⟩ [.str op] σ r X := by
  show wpB C b_is_index _ _ _ _; ktr_unf
  tbr_iter ((idx_no ho).1); ktr_unf
  tbr_iter ((idx_no ho).2); ktr_unf
  exact h
theorem o_isi (n) : S_isi (CM (n + 1)) := fun zz zz zz zz ho h => CM_fn rfl (b_isi (CM n) ho (Ret.same h))
noncomputable def kd : Tree → Nat
  | .lit k _ => k
  | .txt => 11
  | .name _ => 14
  | _ => 15
theorem attr_kd {σ : Sto} (a : Tree) : attrOf σ (.node a) 0 = some (.str (kd a)) := by cases a <;> rfl
theorem kd_14 {σ : Sto} {a : Tree} (hl : lowT a) : ∃ b, cmpS σ 0 (.str (kd a)) (.str 14) = some b ∧ (b = true → ∃ s, attrOf σ (.node a) 5 = some (.str s) ∧ cmpS σ 0 (.str s) (.str 112) = some false) := by
  cases a with
  | lit k i => rcases (show k = 8 ∨ k = 9 ∨ k = 10 from hl) with rfl | rfl | rfl <;> exact ⟨false, rfl, fun h => nomatch h⟩
  | name y => cases y <;> exact ⟨true, rfl, fun zz => ⟨_, rfl, rfl⟩⟩
  | _ => exact ⟨false, rfl, fun h => nomatch h⟩
theorem kd_113 {σ : Sto} {a : Tree} (hl : lowT a) : cmpS σ 0 (.str (kd a)) (.str 113) = some false := by
  cases a with
  | lit k i => rcases (show k = 8 ∨ k = 9 ∨ k = 10 from hl) with rfl | rfl | rfl <;> rfl
  | _ => rfl
noncomputable def S_plain (t : Tree) (C : Calls) : Prop := ∀ σ (k : KE) X, k (.bool true) σ → C 136 [.node t] σ k X
theorem b_plain1 (C : Calls) (h1 : S_isi C) {op a σ} {r : KE} {X} (ho : IsP op) (hl : lowT a) (h : r (.bool true) σ) : runF C ⟨[16], b_plain_arguments, 0⟩ [.node (.un op a)] σ r X := by
  obtain ⟨b1, ha, hn⟩ := kd_14 (σ := σ) hl
  show wpB C b_plain_arguments _ _ _ _; ktr_unf
  refine h1 _ _ _ _ ho ?_; ktr_unf
  tbr_iter (attr_kd); ktr_unf; (all_goals try (conv => whnf))
  rw [ha]
  cases b1 with
  | false =>
    ktr_unf
    tbr_iter (attr_kd); ktr_unf
    tbr_iter (kd_113 hl); ktr_unf
    exact h
  | true =>
    obtain ⟨s, hs, hs2⟩ := hn rfl
    ktr_unf
    tbr_iter (hs); ktr_unf
    tbr_iter (hs2); ktr_unf
    tbr_iter (attr_kd); ktr_unf
    tbr_iter (kd_113 hl); ktr_unf
    exact h
theorem b_plain2 (C : Calls) (h1 : S_isi C) {op a b σ} {r : KE} {X} (ho : IsP op) (hl : lowT a) (hb : lowT b) (h : r (.bool true) σ) : runF C ⟨[16], b_plain_arguments, 0⟩ [.node (.bin op a b)] σ r X := by
  obtain ⟨b1, ha, hn⟩ := kd_14 (σ := σ) hl
  obtain ⟨b2, hb2, hn2⟩ := kd_14 (σ := σ) hb
  show wpB C b_plain_arguments _ _ _ _; ktr_unf
  refine h1 _ _ _ _ ho ?_; ktr_unf
  tbr_iter (attr_kd); ktr_unf; (all_goals try (conv => whnf))
  rw [ha]
  cases b1 with
  | false =>
    ktr_unf
    tbr_iter (attr_kd); ktr_unf
    tbr_iter (kd_113 hl); ktr_unf
    tbr_iter (attr_kd); ktr_unf; (all_goals try (conv => whnf))
    rw [hb2]
    cases b2 with
    | false =>
      ktr_unf
      tbr_iter (attr_kd); ktr_unf
      tbr_iter (kd_113 hb); ktr_unf
      exact h
    | true =>
      obtain ⟨s, hs, hs2⟩ := hn2 rfl
      ktr_unf
      tbr_iter (hs); ktr_unf
      tbr_iter (hs2); ktr_unf
      tbr_iter (attr_kd); ktr_unf
      tbr_iter (kd_113 hb); ktr_unf
      exact h
  | true =>
    obtain ⟨s, hs, hs2⟩ := hn rfl
    ktr_unf
    tbr_iter (hs); ktr_unf
    tbr_iter (hs2); ktr_unf
    tbr_iter (attr_kd); ktr_unf
    tbr_iter (kd_113 hl); ktr_unf
    tbr_iter (attr_kd); ktr_unf; (all_goals try (conv => whnf))
    rw [hb2]
    cases b2 with
    | false =>
      ktr_unf
      tbr_iter (attr_kd); ktr_unf
      tbr_iter (kd_113 hb); ktr_unf
      exact h
    | true =>
      obtain ⟨s, hs, hs2⟩ := hn2 rfl
      ktr_unf
      tbr_iter (hs); ktr_unf
      tbr_iter (hs2); ktr_unf
      tbr_iter (attr_kd); ktr_unf
      tbr_iter (kd_113 hb); ktr_unf
      exact h
theorem o_plain1 (n) {op a} (ho : IsP op) (hl : lowT a) : S_plain (.un op a) (CM (n + 2)) := fun zz zz zz h => CM_fn rfl (b_plain1 (CM (n + 1)) (o_isi n) ho hl (Ret.same h))
theorem o_plain2 (n) {op a b} (ho : IsP op) (hl : lowT a) (hb : lowT b) : S_plain (.bin op a b) (CM (n + 2)) := fun zz zz zz h => CM_fn rfl (b_plain2 (CM (n + 1)) (o_isi n) ho hl hb (Ret.same h))
noncomputable def S_right (C : Calls) : Prop := ∀ op a σ (k : KE) X, (op = 115 ∨ op = 19) → k (.bool (Nat.beq op 115)) σ → C 145 [.str op, .node (.un op a)] σ k X
theorem b_right (C : Calls) {op a σ} {r : KE} {X} (ho : op = 115 ∨ op = 19) (h : r (.bool (Nat.beq op 115)) σ) : runF C ⟨[5, 16], b_right_count, 0⟩ [.str op, .node (.un op a)] σ r X := by
  rcases ho with rfl | rfl <;> (show wpB C b_right_count _ _ _ _; ktr_unf; exact h)
theorem o_right (n) : S_right (CM (n + 1)) := fun zz zz zz zz zz ho h => CM_fn rfl (b_right (CM n) ho (Ret.same h))
end Mine
end
section
namespace Mine
noncomputable def S_expr (t : Tree) (C : Calls) : Prop := ∀ σ rows K h (k : KE) X, rows.length + 4 * sz t < 8000 → K.length + 4 * sz t < 8000 → k .none (CSt σ (rows ++ code t rows.length K.length) (K ++ kons t) (h + 1)) → C 308 [.loc (σ.length + 1), .node t] (CSt σ rows K h) k X
noncomputable def S_call (t : Tree) (op : Nat) (C : Calls) : Prop := ∀ σ rows K h (k : KE) X, rows.length + 4 * sz t < 8000 → K.length + 4 * sz t < 8000 → k .none (CSt σ (rows ++ code t rows.length K.length) (K ++ kons t) (h + 1)) → C 309 [.loc (σ.length + 1), .node t, .str op] (CSt σ rows K h) k X
theorem code_un (op a p q) : code (.un op a) p q = if isV (worth (.un op a)) = true then after (heads (.un op a)) p [.const q] (q + 1) else if op = 19 then [.call q] else if op = 115 then after [115] p (code a (p + 1) q ++ [.vis]) (q + (kons a).length)
      else after [op] p (code a (p + 1) q ++ [.op op 1 (q + (kons a).length : Nat)]) (q + (kons a).length + 1) := rfl
theorem code_bin (op a b p q) : code (.bin op a b) p q = if isV (worth (.bin op a b)) = true then after (heads (.bin op a b)) p [.const q] (q + 1)
      else after [op] p (code a (p + 1) q ++ code b (p + 1 + (code a (p + 1) q).length) (q + (kons a).length) ++ [.op op 2 (q + (kons a).length + (kons b).length : Nat)]) (q + (kons a).length + (kons b).length + 1) := rfl
theorem kons_un (op a) : kons (.un op a) = if isV (worth (.un op a)) = true then [vecW (worth (.un op a)), .node (.un op a)] else if op = 19 then [.node (.un op a)] else if op = 115 then kons a ++ [.node (.un op a)] else kons a ++ [.node (.un op a), .node (.un op a)] := rfl
theorem kons_bin (op a b) : kons (.bin op a b) = if isV (worth (.bin op a b)) = true then [vecW (worth (.bin op a b)), .node (.bin op a b)] else kons a ++ kons b ++ [.node (.bin op a b), .node (.bin op a b)] := rfl
theorem heads_len (t : Tree) : ∀ acc, (headsA t acc).length ≤ acc.length + (sz t - 1) := by
  induction t with
  | un op a ih => intro acc; have := ih (addN op acc); have := addN_len op acc; have := sz_pos a; simp [headsA, sz]; lia
  | bin op a b ia ib => intro acc; have := ia (addN op acc); have := ib (headsA a (addN op acc)); have := addN_len op acc; have := sz_pos a; have := sz_pos b; simp [headsA, sz]; lia
  | _ => intro acc; simp [headsA]
theorem after_len (ns : List Nat) (p : Nat) (B : List Rw) (c : Nat) : (after ns p B c).length = ns.length + B.length + 2 := by simp [after, grd_len]; lia
theorem code_len : ∀ (t : Tree) (p q : Nat), (code t p q).length ≤ 4 * sz t
  | .lit _ _, _, _ => by simp [code, sz]
  | .txt, _, _ => by simp [code, sz]
  | .name _, _, _ => by simp [code, sz]
  | .un op a, p, q => by
    have ih := code_len a (p + 1) q
    have hl := heads_len (.un op a) []
    have := sz_pos a
    unfold code
    split
    · rw [after_len]; simp [sz, heads] at hl ⊢; lia
    · split
      · simp [sz]; lia
      · split <;> (rw [after_len]; simp [sz]; lia)
  | .bin op a b, p, q => by
    have ia := code_len a (p + 1) q
    have ib := code_len b (p + 1 + (code a (p + 1) q).length) (q + (kons a).length)
    have hl := heads_len (.bin op a b) []
    have := sz_pos a
    have := sz_pos b
    unfold code
    split
    · rw [after_len]; simp [sz, heads] at hl ⊢; lia
    · rw [after_len]; simp [sz]; lia
theorem kons_len : ∀ (t : Tree), (kons t).length ≤ 2 * sz t
  | .lit _ _ => by simp [kons, sz]
  | .txt => by simp [kons, sz]
  | .name _ => by simp [kons, sz]
  | .un op a => by
    have ih := kons_len a
    have := sz_pos a
    unfold kons
    split
    · simp [sz]; lia
    · split
      · simp [sz]; lia
      · split <;> (simp [sz]; lia)
  | .bin op a b => by
    have ia := kons_len a
    have ib := kons_len b
    unfold kons
    split
    · simp [sz]; lia
    · simp [sz]; lia
theorem b_oper1 (C : Calls) (h1 : S_isi C) (h2 : S_emit C) (h3 : S_addc C) {op a} (h4 : S_expr a C) {σ rows K h} {r : KE} {X} (ho : IsP op) (hr : rows.length + 4 * sz a < 7999) (hk : K.length + 4 * sz a < 7999)
    (q : r .none (CSt σ (rows ++ (code a rows.length K.length ++ [.op op 1 (K.length + (kons a).length : Nat)])) (K ++ (kons a ++ [.node (.un op a)])) (h + 1))) : runF C ⟨[38, 124, 5], b_Compiler_operator, 0⟩ [.loc (σ.length + 1), .node (.un op a), .str op] (CSt σ rows K h) r X := by
  have hc := code_len a rows.length K.length
  have hq := kons_len a
  show wpB C b_Compiler_operator _ _ _ _; ktr_unf
  refine h1 _ _ _ _ ho ?_; ktr_unf
  tbr_iter (cst_cal rfl rfl); ktr_unf
  refine h4 _ _ _ _ _ _ (by lia) (by lia) ?_; ktr_unf
  tbr_iter (cst_cal rfl rfl); ktr_unf
  tbr_iter (cst_cal rfl rfl); ktr_unf
  refine h3 _ _ _ _ _ _ _ (by simp; lia) ?_; ktr_unf
  refine h2 (.op op 1 (K ++ kons a).length) _ _ _ _ _ _ (by simp; lia) ?_; ktr_unf
  rw [show h + 1 + rhc (Rw.op op 1 (K ++ kons a).length) = h + 1 by simp [rhc], List.append_assoc, List.append_assoc, List.length_append]
  exact q
theorem b_oper2 (C : Calls) (h1 : S_isi C) (h2 : S_emit C) (h3 : S_addc C) {op a b} (h4 : S_expr a C) (h5 : S_expr b C) {σ rows K h} {r : KE} {X} (ho : IsP op) (hr : rows.length + 4 * sz a + 4 * sz b < 7999) (hk : K.length + 4 * sz a + 4 * sz b < 7999)
    (q : r .none (CSt σ (rows ++ (code a rows.length K.length ++ code b (rows.length + (code a rows.length K.length).length) (K.length + (kons a).length) ++ [.op op 2 (K.length + (kons a).length + (kons b).length : Nat)])) (K ++ (kons a ++ kons b ++ [.node (.bin op a b)])) (h + 1))) : runF C ⟨[38, 124, 5], b_Compiler_operator, 0⟩ [.loc (σ.length + 1), .node (.bin op a b), .str op] (CSt σ rows K h) r X := by
  have hc := code_len a rows.length K.length
  have hq := kons_len a
  have hc2 := code_len b (rows.length + (code a rows.length K.length).length) (K.length + (kons a).length)
  have hq2 := kons_len b
  show wpB C b_Compiler_operator _ _ _ _; ktr_unf
  refine h1 _ _ _ _ ho ?_; ktr_unf
  tbr_iter (cst_cal rfl rfl); ktr_unf
  refine h4 _ _ _ _ _ _ (by lia) (by lia) ?_; ktr_unf
  refine h1 _ _ _ _ ho ?_; ktr_unf
  tbr_iter (cst_cal rfl rfl); ktr_unf
  refine h5 _ _ _ _ _ _ (by simp; lia) (by simp; lia) ?_; ktr_unf
  rw [List.length_append, List.length_append]
  tbr_iter (cst_cal rfl rfl); ktr_unf
  tbr_iter (cst_cal rfl rfl); ktr_unf
  refine h3 _ _ _ _ _ _ _ (by simp; lia) ?_; ktr_unf
  refine h2 (.op op 2 (K ++ kons a ++ kons b).length) _ _ _ _ _ _ (by simp; lia) ?_; ktr_unf
  rw [show h + 1 + 1 + rhc (Rw.op op 2 (K ++ kons a ++ kons b).length) = h + 1 by simp [rhc]; lia, List.length_append, List.length_append]
  simp only [List.append_assoc] at q ⊢
  exact q
theorem b_ctl (C : Calls) (h2 : S_emit C) {a} (h4 : S_expr a C) {σ rows K h} {r : KE} {X} (hr : rows.length + 4 * sz a < 7999) (hk : K.length + 4 * sz a < 7999)
    (q : r .none (CSt σ (rows ++ (code a rows.length K.length ++ [.vis])) (K ++ kons a) (h + 1))) : runF C ⟨[38, 124, 5], b_Compiler_control, 0⟩ [.loc (σ.length + 1), .node (.un 115 a), .str 115] (CSt σ rows K h) r X := by
  have hc := code_len a rows.length K.length
  show wpB C b_Compiler_control _ _ _ _; ktr_unf
  tbr_iter (cst_cal rfl rfl); ktr_unf
  refine h4 _ _ _ _ _ _ (by lia) (by lia) ?_; ktr_unf
  tbr_iter (cst_cal rfl rfl); ktr_unf
  refine h2 .vis _ _ _ _ _ _ (by simp; lia) ?_; ktr_unf
  rw [show h + 1 + rhc .vis = h + 1 from Int.add_zero _, List.append_assoc]
  exact q
theorem folded_val {t : Tree} (h : isV (worth t) = true) : foldedV t = .tup [.lst ((heads t).map AV.str), vecW (worth t)] := by
  unfold foldedV; cases hw : worth t with
  | num k i => rfl
  | txt => rfl
  | _ => rw [hw] at h; cases h
theorem folded_no {t : Tree} (h : isV (worth t) = false) : foldedV t = .none := by
  unfold foldedV; cases hw : worth t with
  | num k i => rw [hw] at h; cases h
  | txt => rw [hw] at h; cases h
  | _ => rfl
theorem shr_vecW {w : Wv} (h : isV w = true) (n) : Shr (CM (n + 1)) (vecW w) := by
  cases w with
  | num k i => exact shr_vec n _ _
  | txt => exact shr_vec n _ _
  | _ => cases h
theorem b_call_val (C : Calls) {t op} (h1 : S_folded t C) (h2 : S_gconst C) {σ rows K h} {r : KE} {X} (hv : isV (worth t) = true) (hr : rows.length + (heads t).length + 1 < 8000) (hk : K.length + 1 < 9000)
    (q : r .none (CSt σ (rows ++ after (heads t) rows.length [.const K.length] (K.length + 1)) (K ++ [vecW (worth t), .node t]) (h + 1))) : runF C ⟨[38, 124, 5], b_Compiler_call, 0⟩ [.loc (σ.length + 1), .node t, .str op] (CSt σ rows K h) r X := by
  show wpB C b_Compiler_call _ _ _ _; ktr_unf
  tbr_iter (cst_attr rfl rfl); ktr_unf
  tbr_iter (cst_folder); ktr_unf
  refine h1 _ _ _ ?_
  tbr_iter (folded_val hv); ktr_unf
  tbr_iter (cst_cal rfl rfl); ktr_unf
  refine h2 _ _ _ _ _ _ _ _ _ (shr_vecW hv) hr hk ?_; ktr_unf
  exact q
theorem ops_in {σ : Sto} {op : Nat} (h : IsP op) : cmpS σ 8 (.str op) OPS = some true := by rcases h with rfl | rfl | rfl | rfl | rfl <;> rfl
theorem b_call_op (C : Calls) {t op B KB M} (h1 : S_folded t C) (h2 : S_opn C) (h3 : S_plain t C) (h4 : S_ginner 137 op (.node t) B KB M C) {σ rows K h} {r : KE} {X} (hv : isV (worth t) = false) (ho : IsP op) (hr : rows.length + 1 + M < 8000) (hk : K.length + M < 8000)
    (q : r .none (CSt σ (rows ++ after [op] rows.length (B (rows.length + 1) K.length) (K.length + KB.length)) (K ++ KB ++ [.node t]) (h + 1))) : runF C ⟨[38, 124, 5], b_Compiler_call, 0⟩ [.loc (σ.length + 1), .node t, .str op] (CSt σ rows K h) r X := by
  show wpB C b_Compiler_call _ _ _ _; ktr_unf
  tbr_iter (cst_attr rfl rfl); ktr_unf
  tbr_iter (cst_folder); ktr_unf
  refine h1 _ _ _ ?_
  tbr_iter (folded_no hv); ktr_unf
  refine h2 _ _ _ ?_; ktr_unf
  tbr_iter (show cmpS _ 8 (.str op) OPS = some true from ops_in ho); ktr_unf
  refine h3 _ _ _ ?_; ktr_unf
  tbr_iter (cst_cal rfl rfl); ktr_unf
  refine h4 _ _ _ _ _ _ hr hk ?_; ktr_unf
  exact q
theorem b_call_ctl (C : Calls) {a B KB M} (h1 : S_folded (.un 115 a) C) (h2 : S_opn C) (h3 : S_right C) (h4 : S_ginner 146 115 (.node (.un 115 a)) B KB M C) {σ rows K h} {r : KE} {X} (hv : isV (worth (.un 115 a)) = false) (hr : rows.length + 1 + M < 8000) (hk : K.length + M < 8000)
    (q : r .none (CSt σ (rows ++ after [115] rows.length (B (rows.length + 1) K.length) (K.length + KB.length)) (K ++ KB ++ [.node (.un 115 a)]) (h + 1))) : runF C ⟨[38, 124, 5], b_Compiler_call, 0⟩ [.loc (σ.length + 1), .node (.un 115 a), .str 115] (CSt σ rows K h) r X := by
  show wpB C b_Compiler_call _ _ _ _; ktr_unf
  tbr_iter (cst_attr rfl rfl); ktr_unf
  tbr_iter (cst_folder); ktr_unf
  refine h1 _ _ _ ?_
  tbr_iter (folded_no hv); ktr_unf
  refine h2 _ _ _ ?_; ktr_unf
  refine h3 _ _ _ _ _ (.inl rfl) ?_; ktr_unf
  tbr_iter (cst_cal rfl rfl); ktr_unf
  refine h4 _ _ _ _ _ _ hr hk ?_; ktr_unf
  exact q
theorem b_call_f (C : Calls) {a} (h1 : S_folded (.un 19 a) C) (h2 : S_opn C) (h3 : S_right C) (h4 : S_addc C) (h5 : S_emit C) {σ rows K h} {r : KE} {X} (hr : rows.length < 8000) (hk : K.length < 8000)
    (q : r .none (CSt σ (rows ++ [.call K.length]) (K ++ [.node (.un 19 a)]) (h + 1))) : runF C ⟨[38, 124, 5], b_Compiler_call, 0⟩ [.loc (σ.length + 1), .node (.un 19 a), .str 19] (CSt σ rows K h) r X := by
  show wpB C b_Compiler_call _ _ _ _; ktr_unf
  tbr_iter (cst_attr rfl rfl); ktr_unf
  tbr_iter (cst_folder); ktr_unf
  refine h1 _ _ _ ?_
  rw [folded_no (show isV (worth (.un 19 a)) = false by simp [worth, isV])]; ktr_unf
  refine h2 _ _ _ ?_; ktr_unf
  refine h3 _ _ _ _ _ (.inr rfl) ?_; ktr_unf
  tbr_iter (cst_cal rfl rfl); ktr_unf
  tbr_iter (cst_cal rfl rfl); ktr_unf
  refine h4 _ _ _ _ _ _ _ (by lia) ?_; ktr_unf
  refine h5 (.call K.length) _ _ _ _ _ _ (by lia) ?_; ktr_unf
  exact q
theorem b_expr_leaf (C : Calls) (h1 : S_push C) {t σ rows K h} {r : KE} {X} (hl : lowT t) (lf : leaf t = true) (hr : rows.length < 8000) (hk : K.length < 8000) (q : r .none (CSt σ (rows ++ [.const K.length]) (K ++ [.node t]) (h + 1))) :
    runF C ⟨[38, 124], b_Compiler_expr, 0⟩ [.loc (σ.length + 1), .node t] (CSt σ rows K h) r X := by
  have h1 := fun k X => h1 (.node t) σ rows K h k X (fun n => shr_leaf n lf) (by lia) (by lia)
  cases t with
  | lit k i =>
    rcases (show k = 8 ∨ k = 9 ∨ k = 10 from hl) with rfl | rfl | rfl <;>
    · show wpB C b_Compiler_expr _ _ _ _; ktr_unf
      tbr_iter (cst_cal rfl rfl); ktr_unf
      exact h1 _ _ q
  | txt =>
    show wpB C b_Compiler_expr _ _ _ _; ktr_unf
    tbr_iter (cst_cal rfl rfl); ktr_unf
    exact h1 _ _ q
  | _ => cases lf
theorem b_expr_name (C : Calls) (h1 : S_emit C) {y σ rows K h} {r : KE} {X} (hr : rows.length < 8000) (q : r .none (CSt σ (rows ++ [.var (if y then 18 else 17)]) K (h + 1))) :
    runF C ⟨[38, 124], b_Compiler_expr, 0⟩ [.loc (σ.length + 1), .node (.name y)] (CSt σ rows K h) r X := by
  show wpB C b_Compiler_expr _ _ _ _; ktr_unf
  tbr_iter (cst_cal rfl rfl); ktr_unf
  exact h1 (.var (if y then 18 else 17)) _ _ _ _ _ _ (by lia) q
theorem b_expr1 (C : Calls) {op a} (h1 : S_call (.un op a) op C) {σ rows K h} {r : KE} {X} (hr : rows.length + 4 * sz (.un op a) < 8000) (hk : K.length + 4 * sz (.un op a) < 8000) (q : r .none (CSt σ (rows ++ code (.un op a) rows.length K.length) (K ++ kons (.un op a)) (h + 1))) :
    runF C ⟨[38, 124], b_Compiler_expr, 0⟩ [.loc (σ.length + 1), .node (.un op a)] (CSt σ rows K h) r X := by
  show wpB C b_Compiler_expr _ _ _ _; ktr_unf
  tbr_iter (cst_cal rfl rfl); ktr_unf
  exact h1 _ _ _ _ _ _ hr hk q
theorem b_expr2 (C : Calls) {op a b} (h1 : S_call (.bin op a b) op C) {σ rows K h} {r : KE} {X} (hr : rows.length + 4 * sz (.bin op a b) < 8000) (hk : K.length + 4 * sz (.bin op a b) < 8000) (q : r .none (CSt σ (rows ++ code (.bin op a b) rows.length K.length) (K ++ kons (.bin op a b)) (h + 1))) :
    runF C ⟨[38, 124], b_Compiler_expr, 0⟩ [.loc (σ.length + 1), .node (.bin op a b)] (CSt σ rows K h) r X := by
  show wpB C b_Compiler_expr _ _ _ _; ktr_unf
  tbr_iter (cst_cal rfl rfl); ktr_unf
  exact h1 _ _ _ _ _ _ hr hk q
end Mine
end
section
namespace Mine
theorem o_oper1 (N) {op a} (ho : IsP op) (h4 : S_expr a (CM (N + 2))) : S_inner 312 op (.node (.un op a)) (fun p q => code a p q ++ [.op op 1 (q + (kons a).length : Nat)]) (kons a ++ [.node (.un op a)]) (4 * sz a + 1) (CM (N + 3)) :=
  fun σ rows K h k X hr hk q => CM_fn rfl (b_oper1 (CM (N + 2)) (o_isi (N + 1)) (o_emit N) (o_addc (N + 1)) h4 ho (by lia) (by lia) (Ret.stay q))
theorem o_oper2 (N) {op a b} (ho : IsP op) (h4 : S_expr a (CM (N + 2))) (h5 : S_expr b (CM (N + 2))) : S_inner 312 op (.node (.bin op a b)) (fun p q => code a p q ++ code b (p + (code a p q).length) (q + (kons a).length) ++ [.op op 2 (q + (kons a).length + (kons b).length : Nat)]) (kons a ++ kons b ++ [.node (.bin op a b)]) (4 * sz a + 4 * sz b + 1) (CM (N + 3)) :=
  fun σ rows K h k X hr hk q => CM_fn rfl (b_oper2 (CM (N + 2)) (o_isi (N + 1)) (o_emit N) (o_addc (N + 1)) h4 h5 ho (by lia) (by lia) (Ret.stay q))
theorem o_ctl (N) {a} (h4 : S_expr a (CM (N + 2))) : S_inner 313 115 (.node (.un 115 a)) (fun p q => code a p q ++ [.vis]) (kons a) (4 * sz a + 1) (CM (N + 3)) :=
  fun σ rows K h k X hr hk q => CM_fn rfl (b_ctl (CM (N + 2)) (o_emit N) h4 (by lia) (by lia) (Ret.stay q))
theorem IsU.p {op : Nat} (h : IsU op) (h5 : op ≠ 115) : IsP op := by rcases h with rfl | rfl | rfl; (· exact absurd rfl h5); (· exact .inr (.inl rfl)); exact .inr (.inr (.inr (.inr rfl)))
theorem IsB.p {op : Nat} (h : IsB op) : IsP op := by rcases h with rfl | rfl | rfl | rfl; (· exact .inl rfl); (· exact .inr (.inl rfl)); (· exact .inr (.inr (.inl rfl))); exact .inr (.inr (.inr (.inl rfl)))
theorem o_call1 (N) {d op a} (hd : d ≤ 4) (g : Good (d + 1) (.un op a)) (no : noOdd (.un op a)) (h : S_expr a (CM (N + 20))) : S_call (.un op a) op (CM (N + 23)) := fun σ rows K hh k X hr hk q => by
  have hf : S_folded (.un op a) (CM (N + 22)) := o_folded (N + 6) (by lia) g no no.1
  have hs : sz (.un op a) = sz a + 1 := rfl
  have hl := heads_len (.un op a) []
  have hc := code_len a
  have hq := kons_len a
  rw [hs] at hr hk
  rw [code_un, kons_un] at q
  by_cases hv : isV (worth (.un op a)) = true
  · rw [if_pos hv, if_pos hv] at q
    exact CM_fn rfl (b_call_val (CM (N + 22)) hf (o_gconst (N + 18)) hv (by simp [heads, sz] at hl ⊢; lia) (by lia) (Ret.stay q))
  · rw [if_neg hv, if_neg hv] at q
    have hv := Bool.eq_false_iff.mpr hv
    by_cases h19 : op = 19
    · subst h19
      exact CM_fn rfl (b_call_f (CM (N + 22)) hf (o_opn (N + 21)) (o_right (N + 21)) (o_addc (N + 21)) (o_emit (N + 20)) (by lia) (by lia) (Ret.stay q))
    · rw [if_neg h19, if_neg h19] at q
      have hu := g.1.resolve_right h19
      by_cases h5 : op = 115
      · subst h5
        rw [if_pos rfl, if_pos rfl] at q
        rw [← List.append_assoc] at q
        exact CM_fn rfl (b_call_ctl (CM (N + 22)) hf (o_opn (N + 21)) (o_right (N + 21)) (o_gin (N + 18) (.inr ⟨rfl, rfl⟩) (fun p q => by have := hc p q; simp; lia) (by lia) (o_ctl (N + 18) h)) hv (by lia) (by lia) (Ret.stay q))
      · rw [if_neg h5, if_neg h5] at q
        have ho := hu.p h5
        refine CM_fn rfl (b_call_op (CM (N + 22)) hf (o_opn (N + 21)) (o_plain1 (N + 20) ho g.2.low) (o_gin (N + 18) (.inl ⟨rfl, rfl⟩) (fun p q => by have := hc p q; simp; lia) (by have := sz_pos a; simp; lia) (o_oper1 (N + 18) ho h)) hv ho (by lia) (by lia) (Ret.stay ?_))
        rw [show K ++ (kons a ++ [AV.node (.un op a)]) ++ [.node (.un op a)] = K ++ (kons a ++ [.node (.un op a), .node (.un op a)]) by simp, List.length_append]
        exact q
theorem o_call2 (N) {d op a b} (hd : d ≤ 4) (g : Good (d + 1) (.bin op a b)) (no : noOdd (.bin op a b)) (h : S_expr a (CM (N + 20))) (h2 : S_expr b (CM (N + 20))) : S_call (.bin op a b) op (CM (N + 23)) := fun σ rows K hh k X hr hk q => by
  have hf : S_folded (.bin op a b) (CM (N + 22)) := o_folded (N + 6) (by lia) g no no.1
  have hs : sz (.bin op a b) = sz a + sz b + 1 := rfl
  have hl := heads_len (.bin op a b) []
  have hc := code_len a
  have hq := kons_len a
  have hc2 := code_len b
  have hq2 := kons_len b
  rw [hs] at hr hk
  rw [code_bin, kons_bin] at q
  by_cases hv : isV (worth (.bin op a b)) = true
  · rw [if_pos hv, if_pos hv] at q
    exact CM_fn rfl (b_call_val (CM (N + 22)) hf (o_gconst (N + 18)) hv (by simp [heads, sz] at hl ⊢; lia) (by lia) (Ret.stay q))
  · rw [if_neg hv, if_neg hv] at q
    have hv := Bool.eq_false_iff.mpr hv
    have ho := g.1.p
    refine CM_fn rfl (b_call_op (CM (N + 22)) hf (o_opn (N + 21)) (o_plain2 (N + 20) ho g.2.1.low g.2.2.low) (o_gin (N + 18) (.inl ⟨rfl, rfl⟩) (fun p q => by have := hc p q; have := hc2 (p + (code a p q).length) (q + (kons a).length); simp; lia) (by have := sz_pos a; have := sz_pos b; simp; lia) (o_oper2 (N + 18) ho h h2)) hv ho (by lia) (by lia) (Ret.stay ?_))
    rw [show K ++ (kons a ++ kons b ++ [AV.node (.bin op a b)]) ++ [.node (.bin op a b)] = K ++ (kons a ++ kons b ++ [.node (.bin op a b), .node (.bin op a b)]) by simp, List.length_append, List.length_append]
    simp only [← Nat.add_assoc]
    exact q
theorem o_expr : ∀ (t : Tree) (d n : Nat), d ≤ 5 → Good d t → noOdd t → 4 * ht t ≤ n → S_expr t (CM (n + 24))
  | .lit k i, d, n, hd, g, no, hn => fun σ rows K h κ X hr hk q => CM_fn rfl (b_expr_leaf (CM (n + 23)) (o_push (n + 20)) g.low rfl (by lia) (by lia) (Ret.stay q))
  | .txt, d, n, hd, g, no, hn => fun σ rows K h κ X hr hk q => CM_fn rfl (b_expr_leaf (CM (n + 23)) (o_push (n + 20)) g.low rfl (by lia) (by lia) (Ret.stay q))
  | .name y, d, n, hd, g, no, hn => fun σ rows K h κ X hr hk q => CM_fn rfl (b_expr_name (CM (n + 23)) (o_emit (n + 21)) (by lia) (by rw [show kons (.name y) = [] from rfl, List.append_nil] at q; exact Ret.stay q))
  | .un op a, 0, n, hd, g, no, hn => g.elim
  | .bin op a b, 0, n, hd, g, no, hn => g.elim
  | .un op a, d + 1, n, hd, g, no, hn => fun σ rows K h κ X hr hk q => by
    obtain ⟨m, rfl⟩ : ∃ m, n = m + 4 := ⟨n - 4, by simp [ht] at hn; lia⟩
    exact CM_fn rfl (b_expr1 (CM (m + 4 + 23)) (o_call1 (m + 4) (by lia) g no (o_expr a d m (by lia) g.2 no.2 (by simp [ht] at hn; lia))) hr hk (Ret.stay q))
  | .bin op a b, d + 1, n, hd, g, no, hn => fun σ rows K h κ X hr hk q => by
    obtain ⟨m, rfl⟩ : ∃ m, n = m + 4 := ⟨n - 4, by simp [ht] at hn; lia⟩
    exact CM_fn rfl (b_expr2 (CM (m + 4 + 23)) (o_call2 (m + 4) (by lia) g no (o_expr a d m (by lia) g.2.1 no.2.1 (by simp [ht] at hn; lia)) (o_expr b d m (by lia) g.2.2 no.2.2 (by simp [ht] at hn; lia))) hr hk (Ret.stay q))
end Mine
end
section
namespace Mine
theorem after_tgt {ns : List Nat} {p : Nat} {B : List Rw} {c : Nat} (hB : ∀ r ∈ B, ∀ x ∈ tgt r, 0 ≤ x ∧ x ≤ ((p + ns.length + B.length : Nat) : Int)) : ∀ r ∈ after ns p B c, ∀ x ∈ tgt r, 0 ≤ x ∧ x ≤ ((p + (after ns p B c).length : Nat) : Int) := by
  intro r hr x hx
  rw [after_len]
  unfold after grd at hr
  simp only [List.mem_append, List.mem_map, List.mem_cons, List.not_mem_nil, or_false] at hr
  rcases hr with (⟨s, _, rfl⟩ | hr) | rfl | rfl
  · simp only [tgt, List.mem_singleton] at hx; subst hx; lia
  · have := hB r hr x hx; lia
  · simp only [tgt, List.mem_singleton] at hx; subst hx; lia
  · cases hx
theorem code_tgt (t : Tree) (p q : Nat) : ∀ r ∈ code t p q, ∀ x ∈ tgt r, 0 ≤ x ∧ x ≤ ((p + (code t p q).length : Nat) : Int) := by
  induction t generalizing p q with
  | lit => intro r hr x hx; simp [code] at hr; subst hr; cases hx
  | txt => intro r hr x hx; simp [code] at hr; subst hr; cases hx
  | name => intro r hr x hx; simp [code] at hr; subst hr; cases hx
  | un op a ih =>
    replace ih := ih (p + 1) q
    rw [code_un]
    split
    · exact after_tgt (by intro r hr x hx; simp at hr; subst hr; cases hx)
    · split
      · intro r hr x hx; simp at hr; subst hr; cases hx
      · split <;>
        · refine after_tgt fun r hr x hx => ?_
          rcases List.mem_append.mp hr with hr | hr
          · have := ih r hr x hx; simp at this ⊢; lia
          · simp at hr; subst hr; cases hx
  | bin op a b ia ib =>
    replace ia := ia (p + 1) q
    replace ib := ib (p + 1 + (code a (p + 1) q).length) (q + (kons a).length)
    rw [code_bin]
    split
    · exact after_tgt (by intro r hr x hx; simp at hr; subst hr; cases hx)
    · refine after_tgt fun r hr x hx => ?_
      rcases List.mem_append.mp hr with hr | hr
      · rcases List.mem_append.mp hr with hr | hr
        · have := ia r hr x hx; simp at this ⊢; lia
        · have := ib r hr x hx; simp at this ⊢; lia
      · simp at hr; subst hr; cases hx
theorem code_wf {t : Tree} (h : sz t < 900) : WFr (code t 0 0 ++ [Rw.fin]) := by
  have hl := code_len t 0 0
  refine ⟨by simp, by simp; lia, fun i r hr => ?_⟩
  by_cases hi : i < (code t 0 0).length
  · rw [List.getElem?_append_left hi] at hr
    refine ⟨fun zz => by simp; lia, fun x hx => ?_⟩
    have := code_tgt t 0 0 r (List.mem_of_getElem? hr) x hx
    simp at this ⊢; lia
  · rw [List.getElem?_append_right (by lia)] at hr
    have : i - (code t 0 0).length < 1 := by
      have := (List.getElem?_eq_some_iff.mp hr).1
      simpa using this
    rw [show i - (code t 0 0).length = 0 by lia] at hr
    simp at hr; subst hr
    exact ⟨fun h => (nomatch h), fun x hx => (nomatch hx)⟩
theorem setAV_newE {σ e : Sto} {kvs : List (Nat × AV)} {c f : Nat} {x : AV} (h : Nat.blt kvs.length 20 = true) : setAV (σ ++ .ns kvs :: .inst c σ.length :: e) (.loc (σ.length + 1)) f x = some (σ ++ .ns (nsPut kvs f x) :: .inst c σ.length :: e) := by
  unfold setAV
  simp only [expo, at1, at0]
  rw [if_pos (Nat.blt_eq.mp h), set0]
theorem app1 {σ : Sto} {a b c : AO} : σ ++ [a, b] ++ [c] = σ ++ [a, b, c] := by simp
theorem app2 {σ : Sto} {a b c d : AO} : σ ++ [a, b, c] ++ [d] = σ ++ [a, b, c, d] := by simp
theorem app3 {σ : Sto} {a b c d f : AO} : σ ++ [a, b, c, d] ++ [f] = σ ++ [a, b, c, d, f] := by simp
theorem len1 {σ : Sto} {a b : AO} : (σ ++ [a, b]).length = σ.length + 2 := by simp
theorem len2 {σ : Sto} {a b c : AO} : (σ ++ [a, b, c]).length = σ.length + 3 := by simp
theorem len3 {σ : Sto} {a b c d : AO} : (σ ++ [a, b, c, d]).length = σ.length + 4 := by simp
noncomputable def S_newc (C : Calls) : Prop := ∀ σ (k : KE) X, k (.loc (σ.length + 1)) (CSt σ [] [] 0) → C 36 [.glob 133] σ k X
theorem b_newc (C : Calls) {σ : Sto} {r : KE} {X} (h : r .none (CSt σ [] [] 0)) : runF C ⟨[38, 123], b_Compiler___init__, 1⟩ [.loc (σ.length + 1), .glob 133] (σ ++ [.ns [], .inst 6 σ.length]) r X := by
  rw [cst] at h
  show wpB C b_Compiler___init__ _ _ _ _; ktr_unf
  tbr_iter (setAV_newE rfl); ktr_unf; (all_goals try (conv => whnf))
  rw [app1, len1, setAV_newE rfl]; ktr_unf; (all_goals try (conv => whnf))
  rw [app2, len2, setAV_newE rfl]; ktr_unf
  tbr_iter (setAV_newE rfl); ktr_unf; (all_goals try (conv => whnf))
  rw [app3, len3, setAV_newE rfl]; ktr_unf; (all_goals try (conv => whnf))
  exact h
theorem o_newc (n) : S_newc (CM (n + 1)) := fun zz zz zz h => CM_cls rfl rfl rfl (b_newc (CM n) ⟨rfl, Ret.stay h⟩)
noncomputable def S_newd (C : Calls) : Prop := ∀ v σ (k : KE) X, k (.loc (σ.length + 1)) (σ ++ [.ns [(39, v), (40, .loc (σ.length + 2)), (41, .loc (σ.length + 3)), (42, .int 0)], .inst 0 σ.length, .list [], .list []]) → C 35 [v] σ k X
theorem b_newd (C : Calls) {v} {σ : Sto} {r : KE} {X} (h : r .none (σ ++ [.ns [(39, v), (40, .loc (σ.length + 2)), (41, .loc (σ.length + 3)), (42, .int 0)], .inst 0 σ.length, .list [], .list []])) : runF C ⟨[38, 39], b_Code___init__, 0⟩ [.loc (σ.length + 1), v] (σ ++ [.ns [], .inst 0 σ.length]) r X := by
  show wpB C b_Code___init__ _ _ _ _; ktr_unf
  tbr_iter (setAV_newE rfl); ktr_unf; (all_goals try (conv => whnf))
  rw [app1, len1, setAV_newE rfl]; ktr_unf; (all_goals try (conv => whnf))
  rw [app2, len2, setAV_newE rfl]; ktr_unf
  tbr_iter (setAV_newE rfl); ktr_unf
  exact h
theorem o_newd (n) : S_newd (CM (n + 1)) := fun zz zz zz zz h => CM_cls rfl rfl rfl (b_newd (CM n) ⟨rfl, Ret.stay h⟩)
@[irreducible] noncomputable def COD (σ : Sto) (t : Tree) (dep : Int) : Sto := CSt σ (code t 0 0 ++ [Rw.fin]) (kons t) 1 ++ [.ns [(39, .node t), (40, .loc (σ.length + 2)), (41, .loc (σ.length + 3)), (42, .int dep)], .inst 0 (σ.length + 5), .list [], .list []]
theorem cod (σ : Sto) (t : Tree) (dep : Int) : COD σ t dep = CSt σ (code t 0 0 ++ [Rw.fin]) (kons t) 1 ++ [.ns [(39, .node t), (40, .loc (σ.length + 2)), (41, .loc (σ.length + 3)), (42, .int dep)], .inst 0 (σ.length + 5), .list [], .list []] := by unfold COD; rfl
theorem cod_rows {σ t dep} : (COD σ t dep)[σ.length + 2]? = some (.list ((code t 0 0 ++ [Rw.fin]).map rAV)) := by rw [cod]; exact app_lt cst_rows
theorem cod_cons {σ t dep} : (COD σ t dep)[σ.length + 3]? = some (.list (kons t)) := by rw [cod]; exact app_lt cst_cons
theorem attr_new {σ e : Sto} {kvs : List (Nat × AV)} {c f : Nat} {v : AV} (hc : c ≠ 6) (h : nsLk kvs f = some v) : attrOf (σ ++ .ns kvs :: .inst c σ.length :: e) (.loc (σ.length + 1)) f = some v := by
  unfold attrOf; simp only [expo, at1, at0]; rw [if_neg (fun q => hc q.1), h]
theorem attr_newC {σ e : Sto} {rows K h} {kvs : List (Nat × AV)} {c f : Nat} {v : AV} (hc : c ≠ 6) (q : nsLk kvs f = some v) : attrOf (CSt σ rows K h ++ .ns kvs :: .inst c (σ.length + 5) :: e) (.loc (σ.length + 6)) f = some v := by
  have := attr_new (σ := CSt σ rows K h) (e := e) hc q
  rwa [cst_len] at this
theorem setAV_newC {σ e : Sto} {rows K h} {kvs : List (Nat × AV)} {c f : Nat} {x : AV} (q : Nat.blt kvs.length 20 = true) : setAV (CSt σ rows K h ++ .ns kvs :: .inst c (σ.length + 5) :: e) (.loc (σ.length + 6)) f x = some (CSt σ rows K h ++ .ns (nsPut kvs f x) :: .inst c (σ.length + 5) :: e) := by
  have := setAV_newE (σ := CSt σ rows K h) (e := e) (c := c) (f := f) (x := x) q
  rwa [cst_len] at this
theorem cod_at40 {σ t dep} : attrOf (COD σ t dep) (.loc (σ.length + 6)) 40 = some (.loc (σ.length + 2)) := by rw [cod]; exact attr_newC (by decide) rfl
theorem cod_at41 {σ t dep} : attrOf (COD σ t dep) (.loc (σ.length + 6)) 41 = some (.loc (σ.length + 3)) := by rw [cod]; exact attr_newC (by decide) rfl
noncomputable def S_cm (t : Tree) (C : Calls) : Prop := ∀ σ (k : KE) X, (∀ dep, k (.loc (σ.length + 6)) (COD σ t dep)) → C 303 [.loc (σ.length + 1), .node t] (CSt σ [] [] 0) k X
theorem b_cm (C : Calls) {t} (h1 : S_expr t C) (h2 : S_emit C) (h3 : S_newd C) (h4 : S_gh C) (hs : sz t < 900) {σ : Sto} {r : KE} {X} (h : ∀ dep, r (.loc (σ.length + 6)) (COD σ t dep)) : runF C ⟨[38, 124], b_Compiler_compile_expr, 0⟩ [.loc (σ.length + 1), .node t] (CSt σ [] [] 0) r X := by
  have hl := code_len t 0 0
  show wpB C b_Compiler_compile_expr _ _ _ _; ktr_unf
  tbr_iter (cst_cal rfl rfl); ktr_unf
  refine h1 _ _ _ _ _ _ (by simp; lia) (by simp; lia) ?_; ktr_unf
  tbr_iter (cst_cal rfl rfl); ktr_unf
  refine h2 Rw.fin _ _ _ _ _ _ (by simp; lia) ?_
  rw [List.nil_append, List.nil_append, show (0 : Int) + 1 + rhc Rw.fin = 1 from rfl]; ktr_unf
  refine h3 _ _ _ _ ?_
  tbr_iter (cst_len); ktr_unf
  tbr_iter (attr_app (cst_attr rfl rfl)); ktr_unf
  tbr_iter (setAV_newC rfl); ktr_unf
  tbr_iter (attr_app (cst_attr rfl rfl)); ktr_unf
  tbr_iter (setAV_newC rfl); ktr_unf
  tbr_iter (attr_newC (by decide) rfl); ktr_unf
  refine h4 _ _ _ _ _ (code_wf hs) (app_lt cst_rows) fun m => ?_
  ktr_unf
  tbr_iter (setAV_newC rfl); ktr_unf
  have := h m
  rw [cod] at this
  exact this
theorem o_cm (N) {t : Tree} {d : Nat} (hd : d ≤ 5) (g : Good d t) (no : noOdd t) (hn : 4 * ht t ≤ N) : S_cm t (CM (N + 25)) := fun zz zz zz h => CM_fn rfl (b_cm (CM (N + 24)) (o_expr t d N hd g no hn) (o_emit (N + 22)) (o_newd (N + 23)) (o_gh (N + 21)) (by
  have := sz_good g
  have : 2 ^ (d + 1) ≤ 2 ^ 6 := Nat.pow_le_pow_right (by decide) (by lia)
  lia) fun dep => Ret.stay (h dep))
noncomputable def S_ce (t : Tree) (C : Calls) : Prop := ∀ σ (k : KE) X, (∀ dep, k (.loc (σ.length + 6)) (COD σ t dep)) → C 163 [.node t, .glob 133] σ k X
theorem b_ce (C : Calls) {t} (h1 : S_newc C) (h2 : S_cm t C) {σ : Sto} {r : KE} {X} (h : ∀ dep, r (.loc (σ.length + 6)) (COD σ t dep)) : runF C ⟨[124, 123], b_compile_expr, 1⟩ [.node t, .glob 133] σ r X := by
  show wpB C b_compile_expr _ _ _ _; ktr_unf
  refine h1 _ _ _ ?_; ktr_unf
  tbr_iter (cst_cal rfl rfl); ktr_unf
  exact h2 _ _ _ h
theorem o_ce (N) {t : Tree} {d : Nat} (hd : d ≤ 5) (g : Good d t) (no : noOdd t) (hn : 4 * ht t ≤ N) : S_ce t (CM (N + 26)) := fun zz zz zz h => CM_fn rfl (b_ce (CM (N + 25)) (o_newc (N + 24)) (o_cm N hd g no hn) fun dep => Ret.stay (h dep))
end Mine
end
section
namespace Mine
noncomputable def rd (n : Nat) (at' mix sp : Int) : List (Nat × AV) := [(273, .loc n), (272, .int at'), (274, .int mix), (275, .int sp)]
@[irreducible] noncomputable def RS (σ : Sto) (cells : List Int) (p m s : Int) : Sto := σ ++ [.list (cells.map AV.int), .dict (rd σ.length p m s)]
theorem rst (σ : Sto) (cells : List Int) (p m s : Int) : RS σ cells p m s = σ ++ [.list (cells.map AV.int), .dict (rd σ.length p m s)] := by unfold RS; rfl
section
variable {σ : Sto} {cells : List Int} {p m s : Int}
theorem rs_len : (RS σ cells p m s).length = σ.length + 2 := by rw [rst]; simp
theorem rs_cells : (RS σ cells p m s)[σ.length]? = some (.list (cells.map AV.int)) := by rw [rst]; exact at0
theorem rs_item {k : Nat} {v : AV} (h : nsLk (rd σ.length p m s) k = some v) : itemOf (RS σ cells p m s) (.loc (σ.length + 1)) (.str k) = some v := by rw [rst]; unfold itemOf; simp only [expo, at1]; exact h
theorem rs_c : itemOf (RS σ cells p m s) (.loc (σ.length + 1)) (.str 273) = some (.loc σ.length) := rs_item rfl
theorem rs_p : itemOf (RS σ cells p m s) (.loc (σ.length + 1)) (.str 272) = some (.int p) := rs_item rfl
theorem rs_m : itemOf (RS σ cells p m s) (.loc (σ.length + 1)) (.str 274) = some (.int m) := rs_item rfl
theorem rs_s : itemOf (RS σ cells p m s) (.loc (σ.length + 1)) (.str 275) = some (.int s) := rs_item rfl
theorem rs_set {k : Nat} {v x : AV} {p' m' s' : Int} (h : nsLk (rd σ.length p m s) k = some v) (e : nsPut (rd σ.length p m s) k x = rd σ.length p' m' s') : setIV (RS σ cells p m s) (.loc (σ.length + 1)) (.str k) x = some (RS σ cells p' m' s') := by
  rw [rst, rst]; unfold setIV; simp only [at1]; rw [if_pos (by rw [h]; rfl), set1, e]
end
structure Inv (p m : Int) : Prop where
  p : 0 ≤ p
  m0 : 0 ≤ m
  m1 : m < 983
theorem fmod_ok {x y : Int} (h : 0 < y) : binOf 4 (.int x) (.int y) = some (.int (x.fmod y)) := if_pos (by lia)
theorem small_lt {x : Int} (h0 : 0 ≤ x) (h : x < 983) : Small x := by
  have : (983 : Nat) ≤ 2 ^ 2000 := by decide +kernel
  unfold Small; lia
theorem mul_ok {x y : Int} (h : Small x) (h2 : Small y) : binOf 2 (.int x) (.int y) = some (.int (x * y)) := if_pos ⟨h, h2⟩
theorem small_nat {n : Nat} (h : n < 4000) : Small (n : Int) := by
  have : (4000 : Nat) ≤ 2 ^ 2000 := by decide +kernel
  unfold Small; lia
theorem small31 : Small 31 := by have := small_nat (n := 31) (by decide); exact this
noncomputable def S_take (C : Calls) : Prop := ∀ σ cells p m s most (k : KE) X, Inv p m → 0 < most → (∀ v p' m', 0 ≤ v → v < most → Inv p' m' → k (.int v) (RS σ cells p' m' s)) → C 277 [.loc (σ.length + 1), .int most] (RS σ cells p m s) k X
theorem b_take (C : Calls) {σ cells p m s most} {r : KE} {X} (iv : Inv p m) (hm : 0 < most) (h : ∀ v p' m', 0 ≤ v → v < most → Inv p' m' → r (.int v) (RS σ cells p' m' s)) : runF C ⟨[43, 74], b_law_take, 0⟩ [.loc (σ.length + 1), .int most] (RS σ cells p m s) r X := by
  show wpB C b_law_take _ _ _ _; ktr_unf
  tbr_iter (rs_p); ktr_unf
  tbr_iter (rs_c); ktr_unf
  tbr_iter (len_loc rs_cells); ktr_unf
  · have hc := of_decide_eq_true hc
    rw [List.length_map] at hc
    tbr_iter (rs_p); ktr_unf
    tbr_iter (rs_set (p' := p + 1) (m' := m) (s' := s) rfl rfl); ktr_unf
    tbr_iter (rs_c); ktr_unf
    tbr_iter (rs_p); ktr_unf; (all_goals try (conv => whnf))
    have hp := iv.p
    have hi : p.toNat < cells.length := by lia
    rw [show itemOf (RS σ cells (p + 1) m s) (.loc σ.length) (.int (p + 1 - 1)) = some (.int cells[p.toNat]) by
      rw [show p + 1 - 1 = ((p.toNat : Nat) : Int) by lia]
      exact item_locN rs_cells (by simp [hi])]; ktr_unf
    tbr_iter (fmod_ok hm); ktr_unf
    exact h _ _ _ (Int.fmod_nonneg_of_pos _ hm) (Int.fmod_lt_of_pos _ hm) ⟨by lia, iv.m0, iv.m1⟩
  · tbr_iter (rs_m); ktr_unf
    tbr_iter (mul_ok (small_lt iv.m0 iv.m1) small31); ktr_unf; (all_goals try (conv => whnf))
    have iv' : Inv p ((m * 31 + 19).fmod 983) := ⟨iv.p, Int.fmod_nonneg_of_pos _ (by decide), Int.fmod_lt_of_pos _ (by decide)⟩
    generalize (m * 31 + 19).fmod 983 = m' at iv'
    tbr_iter (rs_set (p' := p) (m' := m') (s' := s) rfl rfl); ktr_unf; (all_goals try (conv => whnf))
    tbr_iter (rs_p); ktr_unf
    · tbr_iter (rs_m); ktr_unf
      tbr_iter (fmod_ok hm); ktr_unf
      exact h _ _ _ (Int.fmod_nonneg_of_pos _ hm) (Int.fmod_lt_of_pos _ hm) iv'
    · exact h 0 _ _ (Int.le_refl _) hm iv'
theorem o_take (n) : S_take (CM (n + 1)) := fun zz zz zz zz zz zz zz zz iv hm h => CM_fn rfl (b_take (CM n) iv hm fun v p' m' a b c => Ret.stay (h v p' m' a b c))
noncomputable def S_tree (d : Nat) (C : Calls) : Prop := ∀ σ cells p m s (k : KE) X, Inv p m → (∀ t p' m' s', Good d t → Inv p' m' → k (.tree t) (RS σ cells p' m' s')) → C 279 [.loc (σ.length + 1), .int (4 - d : Int)] (RS σ cells p m s) k X
theorem lit_item {d : Nat} {σ : Sto} {w : Int} (h0 : 0 ≤ w) (h6 : w < 6) : ∃ t, itemOf σ (.lst [.tup [.str 8, .int 3], .tup [.str 9, .int 2147483647], .tup [.str 9, .int 2], .tup [.str 10, .int 1], .tup [.str 8, .int 8], .tup [.str 12, .str 13]]) (.int w) = some (treeAV t) ∧ Good d t := by
  have good : ∀ k i, IsN k → i.natAbs < 2 ^ 32 → Good d (.lit k i) := fun k i a b => by cases d <;> exact ⟨a, b⟩
  rcases (show w = 0 ∨ w = 1 ∨ w = 2 ∨ w = 3 ∨ w = 4 ∨ w = 5 by lia) with rfl | rfl | rfl | rfl | rfl | rfl
  · exact ⟨.lit 8 3, rfl, good _ _ (.inl rfl) (by decide)⟩
  · exact ⟨.lit 9 2147483647, rfl, good _ _ (.inr (.inl rfl)) (by decide)⟩
  · exact ⟨.lit 9 2, rfl, good _ _ (.inr (.inl rfl)) (by decide)⟩
  · exact ⟨.lit 10 1, rfl, good _ _ (.inr (.inr rfl)) (by decide)⟩
  · exact ⟨.lit 8 8, rfl, good _ _ (.inl rfl) (by decide)⟩
  · exact ⟨.txt, rfl, by cases d <;> trivial⟩
theorem bop_item {σ : Sto} {w : Int} (h0 : 3 ≤ w) (h6 : w < 7) : ∃ op, itemOf σ (.lst [.str 90, .str 91, .str 92, .str 99]) (.int (w - 3)) = some (.str op) ∧ IsB op := by
  rcases (show w = 3 ∨ w = 4 ∨ w = 5 ∨ w = 6 by lia) with rfl | rfl | rfl | rfl
  · exact ⟨90, rfl, .inl rfl⟩
  · exact ⟨91, rfl, .inr (.inl rfl)⟩
  · exact ⟨92, rfl, .inr (.inr (.inl rfl))⟩
  · exact ⟨99, rfl, .inr (.inr (.inr rfl))⟩
theorem uop_item {σ : Sto} {w : Int} (h0 : 0 ≤ w) (h6 : w < 4) : ∃ op, itemOf σ (.lst [.str 103, .str 91, .str 115, .str 19]) (.int w) = some (.str op) ∧ (IsU op ∨ op = 19) := by
  rcases (show w = 0 ∨ w = 1 ∨ w = 2 ∨ w = 3 by lia) with rfl | rfl | rfl | rfl
  · exact ⟨103, rfl, .inl (.inr (.inr rfl))⟩
  · exact ⟨91, rfl, .inl (.inr (.inl rfl))⟩
  · exact ⟨115, rfl, .inl (.inl rfl)⟩
  · exact ⟨19, rfl, .inr rfl⟩
theorem xy_item {σ : Sto} {v : Int} (h0 : 0 < v) (h : v < 3) : ∃ y : Bool, itemOf σ (.str 278) (.int (v - 1)) = some (.str (if y then 18 else 17)) := by
  rcases (show v = 1 ∨ v = 2 by lia) with rfl | rfl
  · exact ⟨false, rfl⟩
  · exact ⟨true, rfl⟩
theorem tree_rest (C : Calls) {d : Nat} (h1 : S_take C) (h2 : ∀ e, d = e + 1 → S_tree e C) {σ cells p m s} {v : Int} {r : KE} {F : KS} {G : KS} {X} (iv : Inv p m) (hv : 0 ≤ v) (hv9 : v < 9) (hd : v < 3 ∨ ∃ e, d = e + 1) (h : ∀ t p' m' s', Good d t → Inv p' m' → r (treeAV t) (RS σ cells p' m' s')) :
    wpB C (b_law_tree.drop 2) [(43, .loc (σ.length + 1)), (276, .int (4 - d : Int)), (0, .int v)] (RS σ cells p m s) ⟨F, r, G⟩ X := by
  ktr_unf
  · refine h1 _ _ _ _ _ _ _ _ iv (by decide) fun w p' m' h0 h6 iv' => ?_
    obtain ⟨t, e, g⟩ := lit_item (d := d) (σ := RS σ cells p' m' s) h0 h6
    ktr_unf
    tbr_iter (e); ktr_unf
    exact h _ _ _ _ g iv'
  · rename_i hc0
    have v3 := of_decide_eq_true hc
    have v0 := of_decide_eq_false hc0
    tbr_iter (rs_s); ktr_unf
    · exact h (.lit 8 v) _ _ _ (by cases d <;> exact ⟨.inl rfl, by lia⟩) iv
    · obtain ⟨y, e⟩ := xy_item (σ := RS σ cells p m s) (v := v) (by lia) v3
      tbr_iter (e); ktr_unf
      exact h (.name y) _ _ _ (by cases d <;> trivial) iv
  · rename_i hc0 hc1
    have v7 := of_decide_eq_true hc
    have v3 := of_decide_eq_false hc1
    obtain ⟨e, rfl⟩ := hd.resolve_left v3
    have h2 := h2 e rfl
    obtain ⟨op, eo, ho⟩ := bop_item (σ := RS σ cells p m s) (w := v) (by lia) v7
    tbr_iter (eo); ktr_unf; (all_goals try (conv => whnf))
    rw [show (4 : Int) - ((e + 1 : Nat) : Int) + 1 = 4 - e by lia]
    refine h2 _ _ _ _ _ _ _ iv fun t p' m' s' g iv' => ?_
    ktr_unf; (all_goals try (conv => whnf))
    rw [show (4 : Int) - ((e + 1 : Nat) : Int) + 1 = 4 - e by lia]
    refine h2 _ _ _ _ _ _ _ iv' fun t2 p2 m2 s2 g2 iv2 => ?_
    ktr_unf
    exact h (.bin op t t2) _ _ _ ⟨ho, g, g2⟩ iv2
  · rename_i hc0 hc1
    have v3 := of_decide_eq_false hc1
    obtain ⟨e, rfl⟩ := hd.resolve_left v3
    have h2 := h2 e rfl
    refine h1 _ _ _ _ _ _ _ _ iv (by decide) fun w p' m' h0 h6 iv' => ?_
    obtain ⟨op, eo, ho⟩ := uop_item (σ := RS σ cells p' m' s) h0 h6
    ktr_unf
    tbr_iter (eo); ktr_unf; (all_goals try (conv => whnf))
    rw [show (4 : Int) - ((e + 1 : Nat) : Int) + 1 = 4 - e by lia]
    refine h2 _ _ _ _ _ _ _ iv' fun t p2 m2 s2 g2 iv2 => ?_
    ktr_unf
    exact h (.un op t) _ _ _ ⟨ho, g2⟩ iv2
theorem b_tree (C : Calls) {d : Nat} (h1 : S_take C) (h2 : ∀ e, d = e + 1 → S_tree e C) {σ cells p m s} {r : KE} {X} (iv : Inv p m) (h : ∀ t p' m' s', Good d t → Inv p' m' → r (treeAV t) (RS σ cells p' m' s')) : runF C ⟨[43, 276], b_law_tree, 0⟩ [.loc (σ.length + 1), .int (4 - d : Int)] (RS σ cells p m s) r X := by
  show wpB C b_law_tree _ _ _ _; ktr_unf
  tbr_iter (rs_s); ktr_unf
  tbr_iter (rs_set (p' := p) (m' := m) (s' := s - 1) rfl rfl); ktr_unf
  · have hd := of_decide_eq_true hc
    tbr_iter (rs_s); ktr_unf
    · exact h1 _ _ _ _ _ _ _ _ iv (by decide) fun v p' m' h0 h9 iv' => tree_rest C h1 h2 iv' h0 h9 (.inr ⟨d - 1, by lia⟩) h
    · exact h1 _ _ _ _ _ _ _ _ iv (by decide) fun v p' m' h0 h9 iv' => tree_rest C h1 h2 iv' h0 (by lia) (.inl h9) h
  · exact h1 _ _ _ _ _ _ _ _ iv (by decide) fun v p' m' h0 h9 iv' => tree_rest C h1 h2 iv' h0 (by lia) (.inl h9) h
theorem o_tree (n) : ∀ d, S_tree d (CM (n + d + 2))
  | 0 => fun σ cells p m s k X iv h => CM_fn rfl (b_tree (CM (n + 1)) (o_take n) (fun e he => absurd he (by lia)) iv fun t p' m' s' g iv' => .inl ⟨_, .tree t, h t p' m' s' g iv'⟩)
  | d + 1 => fun σ cells p m s k X iv h => CM_fn rfl (b_tree (CM (n + d + 2)) (o_take (n + d + 1)) (fun e he => by cases he; exact o_tree n d) iv fun t p' m' s' g iv' => .inl ⟨_, .tree t, h t p' m' s' g iv'⟩)
end Mine
end
section
namespace Mine
noncomputable def S_sym (C : Calls) : Prop := ∀ s σ (k : KE) X, k (symAV s) σ → C 33 [.str s] σ k X
theorem Ret.fin {σ e : Sto} {c : Nat} {kvs : List (Nat × AV)} {k : KE} (hc : c = 2 ∨ c = 3) (hk : (Nat.ble 5 kvs.length && Nat.beq ((kvs.map (·.1)).getD 3 0) 3) = false) (hb : bnds σ.length (kvs.map (·.2)) = true) (h : k (.fin c (kvs.map (·.1)) (kvs.map (·.2))) σ) : Ret σ (σ ++ .ns kvs :: .inst c σ.length :: e) (.loc (σ.length + 1)) k :=
  .inr ⟨_, _, σ, .fin _ c σ.length kvs (Nat.le_succ _) (Nat.le_refl _) at1 at0 hc hk, hb, .refl _, Cut.app, h⟩
theorem b_sym (C : Calls) {s} {σ : Sto} {r : KE} {X} (h : r .none (σ ++ [.ns [(0, .str 14), (5, .str s), (2, .none)], .inst 2 σ.length])) : runF C ⟨[38, 5], b_Symbol___init__, 0⟩ [.loc (σ.length + 1), .str s] (σ ++ [.ns [], .inst 2 σ.length]) r X := by
  show wpB C b_Symbol___init__ _ _ _ _; ktr_unf
  tbr_iter (setAV_newE rfl); ktr_unf
  tbr_iter (setAV_newE rfl); ktr_unf
  tbr_iter (setAV_newE rfl); ktr_unf
  exact h
theorem o_sym (n) : S_sym (CM (n + 1)) := fun zz zz zz zz h => CM_cls rfl rfl rfl (b_sym (CM n) ⟨rfl, Ret.fin (.inl rfl) rfl rfl h⟩)
noncomputable def S_callc (C : Calls) : Prop := ∀ xs ys σ (k : KE) X, bnds σ.length xs = true → bnds σ.length ys = true → k (.fin 3 [0, 1, 6, 2, 7] [.str 15, .lst xs, .lst ys, .none, .none]) σ → C 34 [.lst xs, .lst ys] σ k X
theorem b_callc (C : Calls) {xs ys} {σ : Sto} {r : KE} {X} (h : r .none (σ ++ [.ns [(0, .str 15), (1, .lst xs), (6, .lst ys), (2, .none), (7, .none)], .inst 3 σ.length])) : runF C ⟨[38, 1, 6, 2], b_Call___init__, 1⟩ [.loc (σ.length + 1), .lst xs, .lst ys] (σ ++ [.ns [], .inst 3 σ.length]) r X := by
  show wpB C b_Call___init__ _ _ _ _; ktr_unf
  tbr_iter (setAV_newE rfl); ktr_unf
  tbr_iter (setAV_newE rfl); ktr_unf
  tbr_iter (setAV_newE rfl); ktr_unf
  tbr_iter (setAV_newE rfl); ktr_unf
  tbr_iter (setAV_newE rfl); ktr_unf
  exact h
theorem o_callc (n) : S_callc (CM (n + 1)) := fun xs ys σ zz zz hx hy h => CM_cls rfl rfl rfl (b_callc (CM n) ⟨rfl, Ret.fin (.inr rfl) rfl (by
  show (true && (bnds σ.length xs && (bnds σ.length ys && _))) = true
  rw [hx, hy]; rfl) h⟩)
noncomputable def S_made (t : Tree) (C : Calls) : Prop := ∀ σ (k : KE) X, k (.node t) σ → C 282 [.tree t] σ k X
theorem b_made (C : Calls) {t} (h1 : S_sym C) (h2 : S_callc C) (h3 : S_vec C) (hl : lowT t) (ih : match t with | .un _ a => S_made a C | .bin _ a b => S_made a C ∧ S_made b C | _ => True) {σ : Sto} {r : KE} {X} (h : r (nodeAV t) σ) : runF C ⟨[280], b_law_made, 0⟩ [.tree t] σ r X := by
  cases t with
  | lit k i =>
    rcases (show k = 8 ∨ k = 9 ∨ k = 10 from hl) with rfl | rfl | rfl <;>
    · show wpB C b_law_made _ _ _ _; ktr_unf
      refine h3 _ _ _ _ _ rfl ?_; ktr_unf
      exact h
  | txt =>
    show wpB C b_law_made _ _ _ _; ktr_unf
    refine h3 _ _ _ _ _ rfl ?_; ktr_unf
    exact h
  | name y =>
    show wpB C b_law_made _ _ _ _; ktr_unf
    refine h1 _ _ _ _ ?_; ktr_unf
    exact h
  | un op a =>
    show wpB C b_law_made _ _ _ _; ktr_unf
    refine h1 _ _ _ _ ?_; ktr_unf
    refine ih _ _ _ ?_; ktr_unf
    exact h2 _ _ _ _ _ rfl rfl h
  | bin op a b =>
    show wpB C b_law_made _ _ _ _; ktr_unf
    refine h1 _ _ _ _ ?_; ktr_unf
    refine ih.1 _ _ _ ?_; ktr_unf
    refine ih.2 _ _ _ ?_; ktr_unf
    exact h2 _ _ _ _ _ rfl rfl h
theorem o_made : ∀ (t : Tree) (n : Nat), lowT t → ht t ≤ n → S_made t (CM (n + 2))
  | .lit k i, n, hl, hn => fun σ κ X h => CM_fn rfl (b_made (CM (n + 1)) (o_sym n) (o_callc n) (o_vec n) hl trivial (.inl ⟨_, .node _, h⟩))
  | .txt, n, hl, hn => fun σ κ X h => CM_fn rfl (b_made (CM (n + 1)) (o_sym n) (o_callc n) (o_vec n) hl trivial (.inl ⟨_, .node _, h⟩))
  | .name y, n, hl, hn => fun σ κ X h => CM_fn rfl (b_made (CM (n + 1)) (o_sym n) (o_callc n) (o_vec n) hl trivial (.inl ⟨_, .node _, h⟩))
  | .un op a, 0, hl, hn => absurd hn (by simp [ht])
  | .bin op a b, 0, hl, hn => absurd hn (by simp [ht])
  | .un op a, n + 1, hl, hn => fun σ κ X h => CM_fn rfl (b_made (CM (n + 2)) (o_sym (n + 1)) (o_callc (n + 1)) (o_vec (n + 1)) hl (o_made a n hl.2 (by simp [ht] at hn; lia)) (.inl ⟨_, .node _, h⟩))
  | .bin op a b, n + 1, hl, hn => fun σ κ X h => CM_fn rfl (b_made (CM (n + 2)) (o_sym (n + 1)) (o_callc (n + 1)) (o_vec (n + 1)) hl ⟨o_made a n hl.2.1 (by simp [ht] at hn; lia), o_made b n hl.2.2 (by simp [ht] at hn; lia)⟩ (.inl ⟨_, .node _, h⟩))
noncomputable def S_heads (t : Tree) (C : Calls) : Prop := ∀ (σ : Sto) l acc (k : KE) X, σ[l]? = some (.list (acc.map AV.str)) → (∀ n ∈ acc, n < 316) → acc.length + sz t < 9000 → k (.loc l) (σ.set l (.list ((headsA t acc).map AV.str))) → C 287 [.tree t, .loc l] σ k X
theorem get_set {σ : Sto} {l : Nat} {a b : AO} (h : σ[l]? = some a) : (σ.set l b)[l]? = some b := by simp [(List.getElem?_eq_some_iff.mp h).1]
theorem set_same {σ : Sto} {l : Nat} {a : AO} (h : σ[l]? = some a) : σ.set l a = σ := by
  have := (List.getElem?_eq_some_iff.mp h)
  obtain ⟨i, e⟩ := this
  rw [← e]; simp
theorem b_heads_leaf (C : Calls) {t} {σ : Sto} {l} {acc : List Nat} {r : KE} {X} (ht : ht t = 0) (hl : lowT t) (hσ : σ[l]? = some (.list (acc.map AV.str))) (h : r (.loc l) (σ.set l (.list ((headsA t acc).map AV.str)))) : runF C ⟨[280, 200], b_law_heads, 0⟩ [.tree t, .loc l] σ r X := by
  cases t with
  | lit k i =>
    rw [show headsA (.lit k i) acc = acc from rfl, set_same hσ] at h
    rcases (show k = 8 ∨ k = 9 ∨ k = 10 from hl) with rfl | rfl | rfl <;>
    · show wpB C b_law_heads _ _ _ _; ktr_unf; exact h
  | txt =>
    rw [show headsA .txt acc = acc from rfl, set_same hσ] at h
    show wpB C b_law_heads _ _ _ _; ktr_unf; exact h
  | name y =>
    rw [show headsA (.name y) acc = acc from rfl, set_same hσ] at h
    show wpB C b_law_heads _ _ _ _; ktr_unf; exact h
  | un op a => simp [Mine.ht] at ht
  | bin op a b => simp [Mine.ht] at ht
theorem addN_fact {σ : Sto} {l op : Nat} {acc : List Nat} (hσ : σ[l]? = some (.list (acc.map AV.str))) : (acc.contains op = true ∧ σ.set l (.list ((addN op acc).map AV.str)) = σ) ∨ (acc.contains op = false ∧ σ.set l (.list ((addN op acc).map AV.str)) = σ.set l (.list (acc.map AV.str ++ [.str op]))) := by
  unfold addN
  cases h : acc.contains op with
  | true => exact .inl ⟨rfl, set_same hσ⟩
  | false => exact .inr ⟨rfl, by simp⟩
theorem b_heads1 (C : Calls) {op a} (h1 : S_heads a C) {σ : Sto} {l} {acc : List Nat} {r : KE} {X} (ho : op < 316) (hσ : σ[l]? = some (.list (acc.map AV.str))) (hn : ∀ n ∈ acc, n < 316) (hs : acc.length + sz (.un op a) < 9000) (h : r (.loc l) (σ.set l (.list ((headsA (.un op a) acc).map AV.str)))) : runF C ⟨[280, 200], b_law_heads, 0⟩ [.tree (.un op a), .loc l] σ r X := by
  have ha := addN_len op acc
  have h1 := fun k X => h1 (σ.set l (.list ((addN op acc).map AV.str))) l (addN op acc) k X (get_set hσ) (addN_low ho hn) (by simp [sz] at hs; lia)
  rw [List.set_set] at h1
  rcases addN_fact (op := op) hσ with ⟨hc0, e⟩ | ⟨hc0, e⟩ <;> rw [e] at h1
  · show wpB C b_law_heads _ _ _ _; ktr_unf; (all_goals try (conv => whnf))
    rw [nin_loc hσ ho hn, hc0]; ktr_unf; (all_goals try (conv => whnf))
    refine h1 _ _ ?_; ktr_unf
    exact h
  · show wpB C b_law_heads _ _ _ _; ktr_unf; (all_goals try (conv => whnf))
    rw [nin_loc hσ ho hn, hc0]; ktr_unf; (all_goals try (conv => whnf))
    tbr_iter (cal_app hσ); ktr_unf; (all_goals try (conv => whnf))
    rw [hσ]
    refine And.intro (by simp [sz] at hs ⊢; lia) ?_; ktr_unf
    refine h1 _ _ ?_; ktr_unf
    exact h
theorem b_heads2 (C : Calls) {op a b} (h1 : S_heads a C) (h2 : S_heads b C) {σ : Sto} {l} {acc : List Nat} {r : KE} {X} (ho : op < 316) (hla : lowT a) (hσ : σ[l]? = some (.list (acc.map AV.str))) (hn : ∀ n ∈ acc, n < 316) (hs : acc.length + sz (.bin op a b) < 9000) (h : r (.loc l) (σ.set l (.list ((headsA (.bin op a b) acc).map AV.str)))) : runF C ⟨[280, 200], b_law_heads, 0⟩ [.tree (.bin op a b), .loc l] σ r X := by
  have ha := addN_len op acc
  have hb := heads_len a (addN op acc)
  have h1 := fun k X => h1 (σ.set l (.list ((addN op acc).map AV.str))) l (addN op acc) k X (get_set hσ) (addN_low ho hn) (by simp [sz] at hs; lia)
  have low : ∀ (t : Tree) (acc : List Nat), lowT t → (∀ n ∈ acc, n < 316) → ∀ n ∈ headsA t acc, n < 316 := by
    intro t
    induction t with
    | un op a ih => exact fun acc hl hn => ih _ hl.2 (addN_low hl.1 hn)
    | bin op a b ia ib => exact fun acc hl hn => ib _ hl.2.2 (ia _ hl.2.1 (addN_low hl.1 hn))
    | _ => exact fun acc hl hn => hn
  have h2 := fun k X => h2 (σ.set l (.list ((headsA a (addN op acc)).map AV.str))) l (headsA a (addN op acc)) k X (get_set hσ) (low a _ hla (addN_low ho hn)) (by have := sz_pos a; simp [sz] at hs; lia)
  rw [List.set_set] at h1 h2
  rcases addN_fact (op := op) hσ with ⟨hc0, e⟩ | ⟨hc0, e⟩ <;> rw [e] at h1
  · show wpB C b_law_heads _ _ _ _; ktr_unf; (all_goals try (conv => whnf))
    rw [nin_loc hσ ho hn, hc0]; ktr_unf; (all_goals try (conv => whnf))
    refine h1 _ _ ?_; ktr_unf
    refine h2 _ _ ?_; ktr_unf
    exact h
  · show wpB C b_law_heads _ _ _ _; ktr_unf; (all_goals try (conv => whnf))
    rw [nin_loc hσ ho hn, hc0]; ktr_unf; (all_goals try (conv => whnf))
    tbr_iter (cal_app hσ); ktr_unf; (all_goals try (conv => whnf))
    rw [hσ]
    refine And.intro (by simp [sz] at hs ⊢; lia) ?_; ktr_unf
    refine h1 _ _ ?_; ktr_unf
    refine h2 _ _ ?_; ktr_unf
    exact h
theorem o_heads : ∀ (t : Tree) (n : Nat), lowT t → ht t ≤ n → S_heads t (CM (n + 1))
  | .lit k i, n, hl, hn => fun σ l acc κ X hσ zz zz h => CM_fn rfl (b_heads_leaf (CM n) rfl hl hσ (Ret.stay h))
  | .txt, n, hl, hn => fun σ l acc κ X hσ zz zz h => CM_fn rfl (b_heads_leaf (CM n) rfl hl hσ (Ret.stay h))
  | .name y, n, hl, hn => fun σ l acc κ X hσ zz zz h => CM_fn rfl (b_heads_leaf (CM n) rfl hl hσ (Ret.stay h))
  | .un op a, 0, hl, hn => absurd hn (by simp [ht])
  | .bin op a b, 0, hl, hn => absurd hn (by simp [ht])
  | .un op a, n + 1, hl, hn => fun σ l acc κ X hσ hc hs h => CM_fn rfl (b_heads1 (CM (n + 1)) (o_heads a n hl.2 (by simp [ht] at hn; lia)) hl.1 hσ hc hs (Ret.stay h))
  | .bin op a b, n + 1, hl, hn => fun σ l acc κ X hσ hc hs h => CM_fn rfl (b_heads2 (CM (n + 1)) (o_heads a n hl.2.1 (by simp [ht] at hn; lia)) (o_heads b n hl.2.2 (by simp [ht] at hn; lia)) hl.1 hl.2.1 hσ hc hs (Ret.stay h))
end Mine
end
section
namespace Mine
noncomputable def wAV : Wv → AV
  | .no => .none
  | .odd => .tup [.str 20]
  | .num k i => .tup [.str k, .int i]
  | .txt => .tup [.str 12, .str 13]
noncomputable def isNo : Wv → Bool
  | .no => true
  | _ => false
noncomputable def isOdd : Wv → Bool
  | .odd => true
  | _ => false
noncomputable def okW : Wv → Prop
  | .num k i => IsN k
  | _ => True
section
variable {σ : Sto} {a b : Wv}
theorem dat_w (h : okW a) : dat 7 (wAV a) = true ∧ dat 8 (wAV a) = true ∧ veq (wAV a) .none = isNo a ∧ veq (wAV a) (.tup [.str 20]) = isOdd a ∧ expo (wAV a) = wAV a := by
  cases a with
  | num k i => rcases (show k = 8 ∨ k = 9 ∨ k = 10 from h) with rfl | rfl | rfl <;> exact ⟨rfl, rfl, rfl, rfl, rfl⟩
  | _ => exact ⟨rfl, rfl, rfl, rfl, rfl⟩
theorem mem_one {x : AV} {c : Wv → Bool} (hx : dat 8 x = true) (hv : ∀ {a}, okW a → veq (wAV a) x = c a) (h : okW a) : memAV x [wAV a] = some (c a) := by
  obtain ⟨d7, _, _, _, e⟩ := dat_w h
  unfold memAV
  rw [show [wAV a].map expo = [expo (wAV a)] from rfl, e, show dats 7 [wAV a] = (dat 7 (wAV a) && true) from rfl, d7, hx, show ([wAV a].any fun y => veq y x) = (veq (wAV a) x || false) from rfl, hv h]
  simp
theorem mem_two {x : AV} {c : Wv → Bool} (hx : dat 8 x = true) (hv : ∀ {a}, okW a → veq (wAV a) x = c a) (h : okW a) (h2 : okW b) : memAV x [wAV a, wAV b] = some (c a || c b) := by
  obtain ⟨d7, _, _, _, e⟩ := dat_w h
  obtain ⟨d72, _, _, _, e2⟩ := dat_w h2
  unfold memAV
  rw [show [wAV a, wAV b].map expo = [expo (wAV a), expo (wAV b)] from rfl, e, e2, show dats 7 [wAV a, wAV b] = (dat 7 (wAV a) && (dat 7 (wAV b) && true)) from rfl, d7, d72, hx, show ([wAV a, wAV b].any fun y => veq y x) = (veq (wAV a) x || (veq (wAV b) x || false)) from rfl, hv h, hv h2]
  simp
theorem no1 (h : okW a) : cmpS σ 8 .none (.lst [wAV a]) = some (isNo a) := mem_one (x := .none) rfl (fun h => (dat_w h).2.2.1) h
theorem no2 (h : okW a) (h2 : okW b) : cmpS σ 8 .none (.lst [wAV a, wAV b]) = some (isNo a || isNo b) := mem_two (x := .none) rfl (fun h => (dat_w h).2.2.1) h h2
theorem od1 (h : okW a) : cmpS σ 8 (.tup [.str 20]) (.lst [wAV a]) = some (isOdd a) := mem_one (x := .tup [.str 20]) rfl (fun h => (dat_w h).2.2.2.1) h
theorem od2 (h : okW a) (h2 : okW b) : cmpS σ 8 (.tup [.str 20]) (.lst [wAV a, wAV b]) = some (isOdd a || isOdd b) := mem_two (x := .tup [.str 20]) rfl (fun h => (dat_w h).2.2.2.1) h h2
end
theorem mem_s {σ : Sto} {x : Nat} (ns : List Nat) (hx : x < 316) (h : ∀ n ∈ ns, n < 316) : cmpS σ 8 (.str x) (.lst (ns.map AV.str)) = some (ns.contains x) := mem_strs hx h
theorem isN_lt {k : Nat} (h : IsN k) : k < 316 := by rcases h with rfl | rfl | rfl <;> decide
theorem isN_12 {k : Nat} (h : IsN k) : k ≠ 12 := by rcases h with rfl | rfl | rfl <;> decide
theorem cmp_s {σ : Sto} {a b : Nat} (ha : a < 316) (hb : b < 316) : cmpS σ 0 (.str a) (.str b) = some (Nat.beq a b) := by
  show eqAV (.str a) (.str b) = _
  unfold eqAV
  rw [if_pos]; rfl
  show (Nat.blt a 316 && Nat.blt b 316) = true
  rw [Nat.blt_eq.mpr ha, Nat.blt_eq.mpr hb]; rfl
noncomputable def S_worth (t : Tree) (C : Calls) : Prop := ∀ σ (k : KE) X, k (wAV (worth t)) σ → C 284 [.tree t] σ k X
theorem b_worth_leaf (C : Calls) {t} {σ : Sto} {r : KE} {X} (hl : lowT t) (lf : leaf t = true) (h : r (.tree t) σ) : runF C ⟨[280], b_law_worth, 0⟩ [.tree t] σ r X := by
  cases t with
  | lit k i =>
    rcases (show k = 8 ∨ k = 9 ∨ k = 10 from hl) with rfl | rfl | rfl <;>
    · show wpB C b_law_worth _ _ _ _; ktr_unf; exact h
  | txt => show wpB C b_law_worth _ _ _ _; ktr_unf; exact h
  | _ => cases lf
theorem b_worth_none (C : Calls) {t} {σ : Sto} {r : KE} {X} (ht : (∃ y, t = .name y) ∨ ∃ a, t = .un 19 a) (h : r .none σ) : runF C ⟨[280], b_law_worth, 0⟩ [.tree t] σ r X := by
  rcases ht with ⟨y, rfl⟩ | ⟨a, rfl⟩ <;> (show wpB C b_law_worth _ _ _ _; ktr_unf; exact h)
theorem b_worth1 (C : Calls) {op a} (h1 : S_worth a C) {σ : Sto} {r : KE} {X} (ho : IsU op) (hk : okW (worth a)) (h : r (wAV (unW op (worth a))) σ) : runF C ⟨[280], b_law_worth, 0⟩ [.tree (.un op a)] σ r X := by
  unfold S_worth at h1
  generalize worth a = A at *
  rcases ho with rfl | rfl | rfl
  · show wpB C b_law_worth _ _ _ _; ktr_unf
    refine h1 _ _ _ ?_; ktr_unf
    refine opt_of (no1 hk) ?_
    cases A with
    | no => ktr_unf; exact h
    | odd => ktr_unf; exact h
    | txt => ktr_unf; exact h
    | num k i =>
      have e : unW 115 (.num k i) = .num k i := by rw [unW_num, if_pos rfl]
      rw [e] at h
      ktr_unf
      refine opt_of (v := false) (od1 (a := .num k i) hk) ?_; ktr_unf
      exact h
  · show wpB C b_law_worth _ _ _ _; ktr_unf
    refine h1 _ _ _ ?_; ktr_unf
    refine opt_of (no1 hk) ?_
    cases A with
    | no => ktr_unf; exact h
    | odd => ktr_unf; exact h
    | txt => ktr_unf; exact h
    | num k i =>
      have e : unW 91 (.num k i) = .num (if k = 8 then 8 else 9) (-i) := by rw [unW_num, if_neg (by decide), if_neg (by decide)]
      rw [e] at h
      ktr_unf
      refine opt_of (v := false) (od1 (a := .num k i) hk) ?_; ktr_unf
      rcases (show k = 8 ∨ k = 9 ∨ k = 10 from hk) with rfl | rfl | rfl <;> (ktr_unf; exact h)
  · show wpB C b_law_worth _ _ _ _; ktr_unf
    refine h1 _ _ _ ?_; ktr_unf
    refine opt_of (no1 hk) ?_
    cases A with
    | no => ktr_unf; exact h
    | odd => ktr_unf; exact h
    | txt => ktr_unf; exact h
    | num k i =>
      have e : unW 103 (.num k i) = .num 10 (if i = 0 then 1 else 0) := by rw [unW_num, if_neg (by decide), if_pos rfl]
      rw [e] at h
      ktr_unf
      refine opt_of (v := false) (od1 (a := .num k i) hk) ?_; ktr_unf
      refine opt_of (v := false) ((mem_s [k] (by decide) (by simpa using isN_lt hk)).trans (by have := isN_12 hk; simp; lia)) ?_; ktr_unf
      · rw [if_pos (of_decide_eq_true hc)] at h; exact h
      · rw [if_neg (of_decide_eq_false hc)] at h; exact h
theorem biW_isNo {op : Nat} {a b : Wv} (h : (isNo a || isNo b) = true) : biW op a b = .no := by
  cases a with
  | no => rfl
  | _ => cases b with
    | no => rfl
    | _ => cases h
theorem biW_isOdd {op : Nat} {a b : Wv} (h : (isNo a || isNo b) = false) (h2 : (isOdd a || isOdd b) = true) : biW op a b = .odd := by
  cases a <;> cases b <;> first | rfl | (cases h; done) | (cases h2; done)
theorem bop_facts {σ : Sto} {op : Nat} (h : IsB op) : cmpS σ 0 (.str op) (.str 19) = some false ∧ cmpS σ 0 (.str op) (.str 115) = some false ∧ cmpS σ 0 (.str op) (.str 103) = some false ∧ cmpS σ 0 (.str op) (.str 99) = some (Nat.beq op 99) := by
  rcases h with rfl | rfl | rfl | rfl <;> exact ⟨rfl, rfl, rfl, rfl⟩
theorem dct_item {σ e : Sto} {op : Nat} {x y : Int} (h : IsB op) (h9 : op ≠ 99) : itemOf (σ ++ [.dict ([90, 91, 92].zip [.int (x + y), .int (x - y), .int (x * y)])]) (.loc σ.length) (.str op) = some (.int (figOf op x y)) := by
  unfold itemOf
  simp only [expo, at0]
  rcases h with rfl | rfl | rfl | rfl
  · rfl
  · rfl
  · rfl
  · exact absurd rfl h9
theorem abs_nat {i : Int} : decide ((if i < 0 then -i else i) ≤ 2147483647) = decide (i.natAbs ≤ 2147483647) := by
  congr 1
  apply propext
  split <;> lia
theorem b_worth2 (C : Calls) {op a b} (h1 : S_worth a C) (h2 : S_worth b C) {σ : Sto} {r : KE} {X} (ho : IsB op) (hk : okW (worth a)) (hk2 : okW (worth b)) (sm : ∀ i j ka kb, worth a = .num ka i → worth b = .num kb j → Sm2 i j) (h : ∀ e, r (wAV (biW op (worth a) (worth b))) (σ ++ e)) : runF C ⟨[280], b_law_worth, 0⟩ [.tree (.bin op a b)] σ r X := by
  unfold S_worth at h1 h2
  generalize worth a = A at *
  generalize worth b = B at *
  obtain ⟨f19, f115, f103, f99⟩ := bop_facts (σ := σ) ho
  have h0 := h []
  rw [List.append_nil] at h0
  show wpB C b_law_worth _ _ _ _; ktr_unf
  refine opt_of f19 ?_; ktr_unf
  refine h1 _ _ _ ?_; ktr_unf
  refine h2 _ _ _ ?_; ktr_unf
  refine opt_of (no2 hk hk2) ?_
  cases hno : (isNo A || isNo B) with
  | true =>
    rw [biW_isNo hno] at h0
    ktr_unf; exact h0
  | false =>
    ktr_unf
    refine opt_of f115 ?_; ktr_unf
    refine opt_of (od2 hk hk2) ?_
    cases hod : (isOdd A || isOdd B) with
    | true =>
      rw [biW_isOdd hno hod] at h0
      ktr_unf
      refine opt_of (od2 hk hk2) ?_
      tbr_iter (hod); ktr_unf
      exact h0
    | false =>
      ktr_unf
      have txt : (∃ x y, itemOf σ (wAV A) (.int 0) = some x ∧ itemOf σ (wAV B) (.int 0) = some y ∧ cmpS σ 8 (.str 12) (.lst [x, y]) = some true) ∧ biW op A B = (if op = 99 then .odd else .no) ∨ ∃ ka kb i j, A = .num ka i ∧ B = .num kb j := by
        cases A with
        | no => cases hno
        | odd => cases hod
        | txt =>
          refine .inl ⟨?_, by cases B <;> first | rfl | (cases hno; done) | (cases hod; done)⟩
          cases B with
          | no => cases hno
          | odd => cases hod
          | txt => exact ⟨_, _, rfl, rfl, rfl⟩
          | num kb j => exact ⟨_, _, rfl, rfl, (mem_s [12, kb] (by decide) (by have := isN_lt hk2; simpa using this)).trans (by simp)⟩
        | num ka i =>
          cases B with
          | no => cases hno
          | odd => cases hod
          | txt => exact .inl ⟨⟨_, _, rfl, rfl, (mem_s [ka, 12] (by decide) (by have := isN_lt hk; simpa using this)).trans (by simp)⟩, rfl⟩
          | num kb j => exact .inr ⟨_, _, _, _, rfl, rfl⟩
      rcases txt with ⟨⟨x, y, e1, e2, e⟩, eb⟩ | ⟨ka, kb, i, j, rfl, rfl⟩
      · rw [eb] at h0
        refine opt_of e1 ?_; ktr_unf
        refine opt_of e2 ?_; ktr_unf
        refine opt_of e ?_; ktr_unf
        refine opt_of f99 ?_
        by_cases h9 : op = 99
        · subst h9; ktr_unf; exact h0
        · rw [if_neg h9] at h0
          rw [show Nat.beq op 99 = false by cases q : Nat.beq op 99 with | true => exact absurd (Nat.eq_of_beq_eq_true q) h9 | false => rfl]
          ktr_unf; exact h0
      · have sm := sm i j ka kb rfl rfl
        ktr_unf
        refine opt_of (v := false) ((mem_s [ka, kb] (by decide) (by have := isN_lt hk; have := isN_lt hk2; simp; lia)).trans (by have := isN_12 hk; have := isN_12 hk2; simp; lia)) ?_; ktr_unf
        refine opt_of f103 ?_; ktr_unf
        refine opt_of (mem_s [ka, kb] (by decide) (by have := isN_lt hk; have := isN_lt hk2; simp; lia)) ?_
        have last : ∀ kk, (kk = 8 ∨ kk = 9) → (kk = 8 ↔ (ka = 8 ∨ kb = 8)) → wpB C (b_law_worth.drop 8) [(280, .tree (.bin op a b)), (283, .lst [wAV (.num ka i), wAV (.num kb j)]), (0, .str kk)] σ ⟨fun zz σ' => r .none σ', fun v σ' => r v σ', fun zz zz => False⟩ X := by
          intro kk hkk heq
          rw [biW_num] at h h0
          ktr_unf
          refine opt_of f99 ?_
          by_cases h9 : op = 99
          · subst h9
            rw [if_pos rfl] at h0
            unfold lss at h0
            ktr_unf
            · rw [if_pos (of_decide_eq_true hc)] at h0; exact h0
            · rw [if_neg (of_decide_eq_false hc)] at h0; exact h0
          · rw [if_neg h9] at h0
            have h := fun e => (congrArg (fun w => r (wAV w) (σ ++ e)) (if_neg h9)).mp (h e)
            rw [show Nat.beq op 99 = false by cases q : Nat.beq op 99 with | true => exact absurd (Nat.eq_of_beq_eq_true q) h9 | false => rfl]
            ktr_unf
            refine opt_of (mul_ok sm.1 sm.2.1) ?_; ktr_unf
            refine opt_of (dct_item (e := []) ho h9) ?_; ktr_unf
            rcases hkk with rfl | rfl
            · have h := h [.dict ([90, 91, 92].zip [.int (i + j), .int (i - j), .int (i * j)])]
              rw [if_pos (heq.mp rfl)] at h
              ktr_unf; exact h
            · have h := h [.dict ([90, 91, 92].zip [.int (i + j), .int (i - j), .int (i * j)])]
              rw [if_neg fun q => absurd (heq.mpr q) (by decide)] at h
              ktr_unf
              · rw [abs_nat] at hc
                rw [if_pos (of_decide_eq_true hc)] at h; exact h
              · rw [abs_nat] at hc
                rw [if_neg (of_decide_eq_false hc)] at h; exact h
        exact br_of (fun hc => last 8 (.inl rfl) ⟨fun zz => by simp at hc; lia, fun zz => rfl⟩) fun hc => last 9 (.inr rfl) ⟨fun q => absurd q (by decide), fun q => by simp at hc; lia⟩
end Mine
end
section
namespace Mine
theorem bnd_wAV (n : Nat) (w : Wv) : bnd n (wAV w) = true := by cases w <;> rfl
theorem okW_of {d : Nat} {t : Tree} (g : Good d t) : okW (worth t) := by
  cases h : worth t with
  | num k i => exact (worth_bound g h).1
  | _ => trivial
theorem o_worth : ∀ (t : Tree) (d n : Nat), d ≤ 5 → Good d t → ht t ≤ n → S_worth t (CM (n + 1))
  | .lit k i, d, n, hd, g, hn => fun σ κ X h => CM_fn rfl (b_worth_leaf (CM n) g.low rfl (.inl ⟨_, .untree (.lit k i), h⟩))
  | .txt, d, n, hd, g, hn => fun σ κ X h => CM_fn rfl (b_worth_leaf (CM n) g.low rfl (.inl ⟨_, .untree .txt, h⟩))
  | .name y, d, n, hd, g, hn => fun σ κ X h => CM_fn rfl (b_worth_none (CM n) (.inl ⟨_, rfl⟩) (Ret.same h))
  | .un op a, 0, n, hd, g, hn => g.elim
  | .bin op a b, 0, n, hd, g, hn => g.elim
  | .un op a, d + 1, 0, hd, g, hn => absurd hn (by simp [ht])
  | .bin op a b, d + 1, 0, hd, g, hn => absurd hn (by simp [ht])
  | .un op a, d + 1, n + 1, hd, g, hn => fun σ κ X h => by
    by_cases h19 : op = 19
    · subst h19
      rw [show worth (.un 19 a) = .no from if_pos rfl] at h
      exact CM_fn rfl (b_worth_none (CM (n + 1)) (.inr ⟨_, rfl⟩) (Ret.same h))
    · rw [show worth (.un op a) = unW op (worth a) from if_neg h19] at h
      exact CM_fn rfl (b_worth1 (CM (n + 1)) (o_worth a d n (by lia) g.2 (by simp [ht] at hn; lia)) (g.1.resolve_right h19) (okW_of g.2) (Ret.same h))
  | .bin op a b, d + 1, n + 1, hd, g, hn => fun σ κ X h =>
    CM_fn rfl (b_worth2 (CM (n + 1)) (o_worth a d n (by lia) g.2.1 (by simp [ht] at hn; lia)) (o_worth b d n (by lia) g.2.2 (by simp [ht] at hn; lia)) g.1 (okW_of g.2.1) (okW_of g.2.2)
      (fun i j ka kb ha hb => sm2_of (by lia) (worth_bound g.2.1 ha).2 (worth_bound g.2.2 hb).2) fun e => Ret.cut (bnd_wAV _ _) h)
noncomputable def oddB : Tree → Bool
  | .un op a => isOdd (worth (.un op a)) || oddB a
  | .bin op a b => isOdd (worth (.bin op a b)) || (oddB a || oddB b)
  | _ => false
theorem isOdd_ne {w : Wv} (h : isOdd w = false) : w ≠ .odd := by intro e; subst e; cases h
theorem oddB_no : ∀ (t : Tree), oddB t = false → noOdd t
  | .lit _ _, _ => trivial
  | .txt, _ => trivial
  | .name _, _ => trivial
  | .un op a, h => by
    have h : (isOdd (worth (.un op a)) || oddB a) = false := h
    simp only [Bool.or_eq_false_iff] at h
    exact ⟨isOdd_ne h.1, oddB_no a h.2⟩
  | .bin op a b, h => by
    have h : (isOdd (worth (.bin op a b)) || (oddB a || oddB b)) = false := h
    simp only [Bool.or_eq_false_iff] at h
    exact ⟨isOdd_ne h.1, oddB_no a h.2.1, oddB_no b h.2.2⟩
noncomputable def S_odd (t : Tree) (C : Calls) : Prop := ∀ σ (k : KE) X, k (.bool (oddB t)) σ → C 291 [.tree t] σ k X
theorem odd_eq {σ : Sto} {w : Wv} (h : okW w) : cmpS σ 0 (wAV w) (.tup [.str 20]) = some (isOdd w) := by
  obtain ⟨_, d8, _, o, e⟩ := dat_w h
  have : cmpS σ 0 (wAV w) (.tup [.str 20]) = eqAV (expo (wAV w)) (.tup [.str 20]) := by cases w <;> rfl
  rw [this, e]; unfold eqAV; rw [d8, o]; rfl
theorem tr1 (x : Bool) : ([AV.bool x].map expo).any (fun y => veq y (.bool true)) = x := by cases x <;> rfl
theorem tr2 (x y : Bool) : ([AV.bool x, AV.bool y].map expo).any (fun y => veq y (.bool true)) = (x || y) := by cases x <;> cases y <;> rfl
theorem b_odd_leaf (C : Calls) {t} {σ : Sto} {r : KE} {X} (hl : lowT t) (h0 : ht t = 0) (h : r (.bool false) σ) : runF C ⟨[280], b_law_odd, 0⟩ [.tree t] σ r X := by
  cases t with
  | lit k i => rcases (show k = 8 ∨ k = 9 ∨ k = 10 from hl) with rfl | rfl | rfl <;> (show wpB C b_law_odd _ _ _ _; ktr_unf; exact h)
  | txt => show wpB C b_law_odd _ _ _ _; ktr_unf; exact h
  | name y => show wpB C b_law_odd _ _ _ _; ktr_unf; exact h
  | un op a => simp [Mine.ht] at h0
  | bin op a b => simp [Mine.ht] at h0
theorem b_odd1 (C : Calls) {op a} (h1 : S_worth (.un op a) C) (h2 : S_odd a C) {σ : Sto} {r : KE} {X} (hk : okW (worth (.un op a))) (h : r (.bool (oddB (.un op a))) σ) : runF C ⟨[280], b_law_odd, 0⟩ [.tree (.un op a)] σ r X := by
  unfold oddB at h
  unfold S_worth at h1
  generalize worth (.un op a) = W at *
  show wpB C b_law_odd _ _ _ _; ktr_unf
  refine h1 _ _ _ ?_; ktr_unf
  refine opt_of (odd_eq hk) ?_
  cases ho : isOdd W with
  | true => rw [ho] at h; ktr_unf; exact h
  | false =>
    rw [ho] at h; ktr_unf
    refine h2 _ _ _ ?_; ktr_unf
    exact (congrArg (fun b => r (.bool b) σ) (tr1 _)).mpr h
theorem b_odd2 (C : Calls) {op a b} (h1 : S_worth (.bin op a b) C) (h2 : S_odd a C) (h3 : S_odd b C) {σ : Sto} {r : KE} {X} (hk : okW (worth (.bin op a b))) (h : r (.bool (oddB (.bin op a b))) σ) : runF C ⟨[280], b_law_odd, 0⟩ [.tree (.bin op a b)] σ r X := by
  unfold oddB at h
  unfold S_worth at h1
  generalize worth (.bin op a b) = W at *
  show wpB C b_law_odd _ _ _ _; ktr_unf
  refine h1 _ _ _ ?_; ktr_unf
  refine opt_of (odd_eq hk) ?_
  cases ho : isOdd W with
  | true => rw [ho] at h; ktr_unf; exact h
  | false =>
    rw [ho] at h; ktr_unf
    refine h2 _ _ _ ?_; ktr_unf
    refine h3 _ _ _ ?_; ktr_unf
    exact (congrArg (fun b => r (.bool b) σ) (tr2 _ _)).mpr h
theorem o_odd : ∀ (t : Tree) (d n : Nat), d ≤ 5 → Good d t → ht t ≤ n → S_odd t (CM (n + 2))
  | .lit k i, d, n, hd, g, hn => fun σ κ X h => CM_fn rfl (b_odd_leaf (CM (n + 1)) g.low rfl (Ret.same h))
  | .txt, d, n, hd, g, hn => fun σ κ X h => CM_fn rfl (b_odd_leaf (CM (n + 1)) g.low rfl (Ret.same h))
  | .name y, d, n, hd, g, hn => fun σ κ X h => CM_fn rfl (b_odd_leaf (CM (n + 1)) g.low rfl (Ret.same h))
  | .un op a, 0, n, hd, g, hn => g.elim
  | .bin op a b, 0, n, hd, g, hn => g.elim
  | .un op a, d + 1, 0, hd, g, hn => absurd hn (by simp [ht])
  | .bin op a b, d + 1, 0, hd, g, hn => absurd hn (by simp [ht])
  | .un op a, d + 1, n + 1, hd, g, hn => fun σ κ X h =>
    CM_fn rfl (b_odd1 (CM (n + 2)) (o_worth (.un op a) (d + 1) (n + 1) hd g hn) (o_odd a d n (by lia) g.2 (by simp [ht] at hn; lia)) (okW_of g) (Ret.same h))
  | .bin op a b, d + 1, n + 1, hd, g, hn => fun σ κ X h =>
    CM_fn rfl (b_odd2 (CM (n + 2)) (o_worth (.bin op a b) (d + 1) (n + 1) hd g hn) (o_odd a d n (by lia) g.2.1 (by simp [ht] at hn; lia)) (o_odd b d n (by lia) g.2.2 (by simp [ht] at hn; lia)) (okW_of g) (Ret.same h))
end Mine
end
section
namespace Mine
inductive Lw where
  | leaf (t : Tree) | const (w : Wv) | var (s : Nat) | call (s : Nat) | op (o : Nat) (n : Int) | guard (s : Nat) (t : Int) | jump (t : Int) | vis | fin
noncomputable def lAV : Lw → AV
  | .leaf t => .tup [.str 55, .tree t]
  | .const w => .tup [.str 55, wAV w]
  | .var s => .tup [.str 56, .str s]
  | .call s => .tup [.str 16, .str s]
  | .op o n => .tup [.str 64, .str o, .int n]
  | .guard s t => .tup [.str 50, .str s, .int t]
  | .jump t => .tup [.str 44, .int t]
  | .vis => .tup [.str 157]
  | .fin => .tup [.str 54]
theorem bnd_lAV (n : Nat) (w : Lw) : bnd n (lAV w) = true := by
  cases w with
  | const w => show (true && (bnd n (wAV w) && true)) = true; rw [bnd_wAV]; rfl
  | _ => rfl
theorem bnds_lAV (n : Nat) : ∀ (rows : List Lw), bnds n (rows.map lAV) = true
  | [] => rfl
  | w :: rows => by show (bnd n (lAV w) && bnds n (rows.map lAV)) = true; rw [bnd_lAV, bnds_lAV n rows]; rfl
noncomputable def lgrd (ns : List Nat) (T : Int) : List Lw := ns.map fun s => .guard s T
theorem lgrd_len (ns : List Nat) (T : Int) : (lgrd ns T).length = ns.length := List.length_map _
noncomputable def lafter (ns : List Nat) (p : Nat) (B : List Lw) (op : Nat) : List Lw := lgrd ns ((p + ns.length + B.length + 1 : Nat) : Int) ++ B ++ [.jump ((p + ns.length + B.length + 2 : Nat) : Int), .call op]
theorem lafter_len (ns : List Nat) (p : Nat) (B : List Lw) (c : Nat) : (lafter ns p B c).length = ns.length + B.length + 2 := by simp [lafter, lgrd_len]; lia
noncomputable def LS (σ : Sto) (r : Nat) (rows : List Lw) : Sto := σ.set r (.list (rows.map lAV))
section
variable {σ E : Sto} {r : Nat} {rows : List Lw}
theorem ls_get (hr : r < σ.length) : (LS σ r rows ++ E)[r]? = some (.list (rows.map lAV)) := by
  rw [List.getElem?_append_left (by simpa [LS] using hr)]; simp [LS, hr]
theorem ls_set (hr : r < σ.length) (rows' : List Lw) : (LS σ r rows ++ E).set r (.list (rows'.map lAV)) = LS σ r rows' ++ E := by
  rw [List.set_append_left _ _ (by simpa [LS] using hr)]; simp [LS]
theorem ls_len : (LS σ r rows).length = σ.length := by simp [LS]
end
theorem comp_lgrd (C : Calls) {l : Loc} {s : Sto} {v : AV} {xs0 : List AV} {k : KE} (hv : itemsOf s v = some xs0) : ∀ (ns : List Nat) (acc : List AV), k (.lst (acc ++ (lgrd ns (-1)).map lAV)) s →
    compV (fun l σ k => (wp2 C (.tup [(.cS 50), (.nm 5), (.neg (.cI 1))])).v l σ k noX) 5 v xs0 l k (ns.map AV.str) acc s
  | [], acc, q => ⟨hv, by simpa [lgrd] using q⟩
  | n :: ns, acc, q => by
    refine ⟨hv, ?_⟩
    ktr_unf
    refine comp_lgrd C hv ns _ ?_
    rw [List.append_assoc]
    exact q
theorem aug_loc {s : Sto} {l : Nat} {xs ys : List AV} (h : s[l]? = some (.list xs)) (hl : xs.length + ys.length < 10000) : augOf s 0 (.loc l) (.lst ys) = some (.loc l, s.set l (.list (xs ++ ys))) := by
  show (match s[l]? with | some (.list xs) => if xs.length + ys.length < 10000 then some (AV.loc l, s.set l (.list (xs ++ ys))) else Option.none | _ => Option.none) = _
  rw [h]
  exact if_pos hl
theorem rng_items {σ : Sto} {n : Nat} (h : n < 10000) : itemsOf σ (.rng 0 n) = some ((List.range' 0 n).map fun (i : Nat) => AV.int (0 + (i : Int))) := by
  unfold itemsOf
  simp only [expo]
  rw [if_pos (by lia), show ((n : Int) - 0).toNat = n by lia, List.range_eq_range']
theorem lay_for (C : Calls) {σ E : Sto} {r : Nat} (hr : r < σ.length) {t w nm : AV} {F : Fl} {A B : List Lw} {ns0 : List Nat} {N : Nat} {xs0 : List AV} {v : AV} (hv : ∀ σ, itemsOf σ v = some xs0) (hni : ∀ X j (hj : j < ns0.length), itemOf (LS σ r X ++ E) nm (.int (0 + (j : Int))) = some (.str ns0[j]))
    (hN : A.length + ns0.length + B.length = N + 1) (q : ∀ tl, F.N ((280, t) :: (40, .loc r) :: (288, w) :: (149, nm) :: (289, .int A.length) :: tl) (LS σ r (A ++ lgrd ns0 N ++ B) ++ E)) :
    ∀ (suf pre : List Nat) (tl : Loc), ns0 = pre ++ suf → forV (fun l σ F => wpB C [.setI (.nm 40) (.bin 0 (.nm 289) (.nm 47)) (.tup [(.cS 50), (.sub (.nm 149) (.nm 47)), (.bin 1 (.call (.gl 21) [(.nm 40)]) (.cI 1))])] l σ F noX) 47 v xs0 F ((List.range' pre.length suf.length).map fun (i : Nat) => AV.int (0 + (i : Int)))
      ((280, t) :: (40, .loc r) :: (288, w) :: (149, nm) :: (289, .int A.length) :: tl) (LS σ r (A ++ (lgrd pre N ++ lgrd suf (-1)) ++ B) ++ E)
:= by
  intro suf
  induction suf with
  | nil =>
    intro pre tl e
    rw [List.append_nil] at e; subst e
    exact ⟨hv _, by have := q tl; simpa [lgrd] using this⟩
  | cons n suf ih =>
    intro pre tl e
    refine ⟨hv _, ?_⟩
    have hj : pre.length < ns0.length := by rw [e]; simp
    have hn : ns0[pre.length] = n := by simp [e]
    have len : (A ++ (lgrd pre N ++ lgrd (n :: suf) (-1)) ++ B).length = N + 1 := by rw [e] at hN; simp [lgrd_len] at hN ⊢; lia
    ktr_unf
    refine opt_of (v := .int (0 + (pre.length : Int))) lk_eq ?_; ktr_unf
    refine opt_of (hni _ _ hj) ?_; ktr_unf
    refine opt_of (len_loc (ls_get hr)) ?_; ktr_unf
    refine opt_of (v := .int (0 + (pre.length : Int))) lk_eq ?_; ktr_unf
    have e1 : ((A ++ (lgrd pre N ++ lgrd (n :: suf) (-1)) ++ B).map lAV).set (A.length + pre.length) (.tup [.str 50, .str ns0[pre.length], .int ((((A ++ (lgrd pre N ++ lgrd (n :: suf) (-1)) ++ B).map lAV).length : Int) - 1)]) = (A ++ (lgrd (pre ++ [n]) N ++ lgrd suf (-1)) ++ B).map lAV := by
      rw [List.length_map, len, hn, show ((N + 1 : Nat) : Int) - 1 = N by lia]
      have : A ++ (lgrd pre N ++ lgrd (n :: suf) (-1)) ++ B = (A ++ lgrd pre N) ++ .guard n (-1) :: (lgrd suf (-1) ++ B) := by simp [lgrd]
      rw [this, List.map_append, List.map_cons, show A.length + pre.length = ((A ++ lgrd pre N).map lAV).length by simp [lgrd_len], List.set_append_right _ _ (Nat.le_refl _)]
      simp [lgrd, lAV]
    refine opt_of (v := LS σ r (A ++ (lgrd (pre ++ [n]) N ++ lgrd suf (-1)) ++ B) ++ E) (by
      rw [show (A.length : Int) + (0 + (pre.length : Int)) = ((A.length + pre.length : Nat) : Int) by lia]
      refine (setIV_loc (ls_get hr) (by rw [List.length_map, len]; rw [e] at hN; simp at hN; lia)).trans ?_
      rw [e1, ls_set hr]) ?_
    have next := ih (pre ++ [n]) (nsPut tl 47 (.int (0 + (pre.length : Int)))) (by simp [e])
    rw [show (pre ++ [n]).length = pre.length + 1 by simp] at next
    ktr_unf
    exact next
theorem lay_tail (C : Calls) {σ E : Sto} {r : Nat} (hr : r < σ.length) {t w nm : AV} {op : Nat} {ns : List Nat} {A B : List Lw} {tl : Loc} {s : Sto} {F : Fl} {X : KX} (hs : s = LS σ r (A ++ lgrd ns (-1) ++ B) ++ E) (ht : ∀ σ, itemOf σ t (.int 1) = some (.str op)) (hnl : ∀ X, lenOf (LS σ r X ++ E) nm = some (ns.length : Int))
    (hni : ∀ X j (hj : j < ns.length), itemOf (LS σ r X ++ E) nm (.int (0 + (j : Int))) = some (.str ns[j])) (hlen : A.length + ns.length + B.length < 9000) (q : ∀ l, F.N l (LS σ r (A ++ lafter ns A.length B op) ++ E)) :
    wpB C (b_law_lay.drop 8) ((280, t) :: (40, .loc r) :: (288, w) :: (149, nm) :: (289, .int A.length) :: tl) s F X := by
  subst hs
  have len : (A ++ lgrd ns (-1) ++ B).length = A.length + ns.length + B.length := by simp [lgrd_len]; lia
  ktr_unf
  refine opt_of (len_loc (ls_get hr)) ?_; ktr_unf
  refine opt_of (ht _) ?_; ktr_unf
  rw [List.length_map, len]
  refine opt_of (aug_loc (ls_get hr) (by rw [List.length_map, len]; simp; lia)) ?_
  rw [show (A ++ lgrd ns (-1) ++ B).map lAV ++ [AV.tup [.str 44, .int (((A.length + ns.length + B.length : Nat) : Int) + 2)], .tup [.str 16, .str op]] = (A ++ (lgrd [] ((A.length + ns.length + B.length + 1 : Nat) : Int) ++ lgrd ns (-1)) ++ (B ++ [Lw.jump ((A.length + ns.length + B.length + 2 : Nat) : Int), .call op])).map lAV by simp [lgrd, lAV], ls_set hr]
  ktr_unf
  refine opt_of (hnl _) ?_; ktr_unf
  refine opt_of (rng_items (by lia)) ?_
  refine lay_for C hr (fun zz => rng_items (by lia)) hni (by simp; lia) (fun tl => ?_) ns [] _ rfl
  have := q ((280, t) :: (40, .loc r) :: (288, w) :: (149, nm) :: (289, .int A.length) :: tl)
  rw [show A ++ lafter ns A.length B op = A ++ lgrd ns ((A.length + ns.length + B.length + 1 : Nat) : Int) ++ (B ++ [Lw.jump ((A.length + ns.length + B.length + 2 : Nat) : Int), .call op]) by simp [lafter]] at this
  ktr_unf
  exact this
end Mine
end
section
namespace Mine
noncomputable def lay : Tree → Nat → List Lw
  | .lit k i, _ => [.leaf (.lit k i)]
  | .txt, _ => [.leaf .txt]
  | .name y, _ => [.var (if y then 18 else 17)]
  | .un op a, p => if op = 19 then [.call 19] else if isV (worth (.un op a)) = true then lafter (heads (.un op a)) p [.const (worth (.un op a))] op else lafter [op] p (lay a (p + 1) ++ [if op = 115 then .vis else .op op 1]) op
  | .bin op a b, p => if isV (worth (.bin op a b)) = true then lafter (heads (.bin op a b)) p [.const (worth (.bin op a b))] op else lafter [op] p (lay a (p + 1) ++ lay b (p + 1 + (lay a (p + 1)).length) ++ [.op op 2]) op
theorem lay_un (op a p) : lay (.un op a) p = if op = 19 then [.call 19] else if isV (worth (.un op a)) = true then lafter (heads (.un op a)) p [.const (worth (.un op a))] op else lafter [op] p (lay a (p + 1) ++ [if op = 115 then .vis else .op op 1]) op := rfl
theorem lay_bin (op a b p) : lay (.bin op a b) p = if isV (worth (.bin op a b)) = true then lafter (heads (.bin op a b)) p [.const (worth (.bin op a b))] op else lafter [op] p (lay a (p + 1) ++ lay b (p + 1 + (lay a (p + 1)).length) ++ [.op op 2]) op := rfl
theorem lay_len : ∀ (t : Tree) (p : Nat), (lay t p).length ≤ 4 * sz t
  | .lit _ _, _ => by simp [lay, sz]
  | .txt, _ => by simp [lay, sz]
  | .name _, _ => by simp [lay, sz]
  | .un op a, p => by
    have ih := lay_len a (p + 1)
    have hl := heads_len (.un op a) []
    have := sz_pos a
    rw [lay_un]
    split
    · simp [sz]; lia
    · split
      · rw [lafter_len]; simp [sz, heads] at hl ⊢; lia
      · rw [lafter_len]; simp [sz]; lia
  | .bin op a b, p => by
    have ia := lay_len a (p + 1)
    have ib := lay_len b (p + 1 + (lay a (p + 1)).length)
    have hl := heads_len (.bin op a b) []
    have := sz_pos a
    have := sz_pos b
    rw [lay_bin]
    split
    · rw [lafter_len]; simp [sz, heads] at hl ⊢; lia
    · rw [lafter_len]; simp [sz]; lia
theorem run_app (C : Calls) (X : KX) {σ : Sto} {l : Nat} {xs : List AV} {v : AV} {k : KE} (h : σ[l]? = some (.list xs)) (hl : xs.length < 10000) (q : k .none (σ.set l (.list (xs ++ [v])))) : runCal C (.lst l) 29 [v] σ k X := by
  show (match σ[l]? with
    | some (.list xs) => listMeth l xs 29 [v] σ k
    | _ => False)
  rw [h]; exact ⟨hl, q⟩
noncomputable def S_lay (t : Tree) (C : Calls) : Prop := ∀ (σ : Sto) (r : Nat) (rows : List Lw) (k : KE) X, σ[r]? = some (.list (rows.map lAV)) → rows.length + 4 * sz t < 8000 → k .none (LS σ r (rows ++ lay t rows.length)) → C 290 [.tree t, .loc r] σ k X
theorem none_w {σ : Sto} (w : Wv) : cmpS σ 7 (wAV w) .none = some (!isNo w) := by cases w <;> rfl
theorem isV_no {w : Wv} (h : isV w = true) : isNo w = false := by cases w <;> first | rfl | (cases h; done)
theorem not_isV {w : Wv} (h : isV w = false) (h2 : w ≠ .odd) : isNo w = true := by cases w <;> first | rfl | (cases h; done) | exact absurd rfl h2
theorem set_ls {σ : Sto} {r : Nat} {xs : List AV} {rows : List Lw} (h : xs = rows.map lAV) : σ.set r (.list xs) = LS σ r rows := by subst h; rfl
theorem ls_get0 {σ : Sto} {r : Nat} {rows : List Lw} (hr : r < σ.length) : (LS σ r rows)[r]? = some (.list (rows.map lAV)) := by simp [LS, hr]
theorem ls_set0 {σ : Sto} {r : Nat} {rows : List Lw} {xs : List AV} (rows' : List Lw) (h : xs = rows'.map lAV) : (LS σ r rows).set r (.list xs) = LS σ r rows' := by subst h; simp [LS]
theorem ls_ls {σ : Sto} {r : Nat} {rows rows' : List Lw} : LS (LS σ r rows) r rows' = LS σ r rows' := by simp [LS]
noncomputable abbrev LL (t w nm : AV) (r f : Nat) (tl : Loc) : Loc := (280, t) :: (40, .loc r) :: (288, w) :: (149, nm) :: (289, .int f) :: tl
theorem lay_val (C : Calls) {t : Tree} {op : Nat} (h1 : S_worth t C) (h2 : S_heads t C) (hv : isV (worth t) = true) {σ : Sto} {r : Nat} {rows : List Lw} {F : Fl} {X : KX} (hσ : σ[r]? = some (.list (rows.map lAV))) (hs : sz t < 900) (hlen : rows.length + 4 * sz t < 8000) (ht : ∀ σ, itemOf σ (.tree t) (.int 1) = some (.str op))
    (q : ∀ l, F.N l (LS σ r (rows ++ lafter (heads t) rows.length [.const (worth t)] op) ++ [.list ((heads t).map AV.str)])) : wpB C (b_law_lay.drop 3) [(280, .tree t), (40, .loc r)] σ F X := by
  have hr : r < σ.length := (List.getElem?_eq_some_iff.mp hσ).1
  have hh : (heads t).length ≤ 0 + (sz t - 1) := heads_len t []
  ktr_unf
  refine h1 _ _ _ ?_; ktr_unf
  refine opt_of (none_w _) ?_
  tbr_iter (isV_no hv); ktr_unf
  refine h2 _ _ [] _ _ at0 (by simp) (by simp; lia) ?_
  tbr_iter (set0); ktr_unf
  refine opt_of (len_loc (app_lt hσ)) ?_
  tbr_iter (List.length_map); ktr_unf
  have it : ∀ X, itemsOf (LS σ r X ++ [.list ((heads t).map AV.str)]) (.loc σ.length) = some ((heads t).map AV.str) := fun X => by
    unfold itemsOf; simp only [expo]; rw [← ls_len (σ := σ) (r := r) (rows := X), at0]
  have eσ : σ = LS σ r rows := (set_same hσ).symm
  refine opt_of (v := (heads t).map AV.str) (by rw [eσ, ls_len]; exact it rows) ?_
  refine comp_lgrd C (by rw [eσ, ls_len]; exact it rows) _ [] ?_
  ktr_unf
  refine opt_of (aug_loc (app_lt hσ) (by simp [lgrd_len]; lia)) ?_
  rw [List.set_append_left _ _ hr, set_ls (rows := rows ++ lgrd (heads t) (-1)) (by simp)]; ktr_unf
  refine opt_of (none_w _) ?_
  tbr_iter (isV_no hv); ktr_unf
  refine opt_of (cal_app (ls_get hr)) ?_; ktr_unf
  refine run_app C X (ls_get hr) (by simp [lgrd_len]; lia) ?_
  rw [show (rows ++ lgrd (heads t) (-1)).map lAV ++ [AV.tup [.str 55, wAV (worth t)]] = (rows ++ lgrd (heads t) (-1) ++ [Lw.const (worth t)]).map lAV by simp [lAV], ls_set hr]; ktr_unf
  have len : ∀ X, lenOf (LS σ r X ++ [.list ((heads t).map AV.str)]) (.loc σ.length) = some ((heads t).length : Int) := fun X => by
    have a : (LS σ r X ++ [AO.list ((heads t).map AV.str)])[σ.length]? = some (.list ((heads t).map AV.str)) := by rw [← ls_len (σ := σ) (r := r) (rows := X)]; exact at0
    rw [len_loc a, List.length_map]
  have item : ∀ X j (hj : j < (heads t).length), itemOf (LS σ r X ++ [.list ((heads t).map AV.str)]) (.loc σ.length) (.int (0 + (j : Int))) = some (.str (heads t)[j]) := fun X j hj => by
    have a : (LS σ r X ++ [AO.list ((heads t).map AV.str)])[σ.length]? = some (.list ((heads t).map AV.str)) := by rw [← ls_len (σ := σ) (r := r) (rows := X)]; exact at0
    rw [show (0 : Int) + (j : Int) = j by lia]
    exact item_locN a (by simp [hj])
  exact lay_tail C hr (ns := heads t) (A := rows) (B := [.const (worth t)]) (E := [.list ((heads t).map AV.str)]) rfl ht len item (by simp; lia) q
theorem lay_in1 (C : Calls) {op : Nat} {a : Tree} (h1 : S_worth (.un op a) C) (h2 : S_lay a C) (hw : worth (.un op a) = .no) {σ : Sto} {r : Nat} {rows : List Lw} {F : Fl} {X : KX} (ho : op = 115 ∨ op ≠ 115 ∧ ∀ σ, cmpS σ 0 (.str op) (.str 115) = some false) (hσ : σ[r]? = some (.list (rows.map lAV))) (hlen : rows.length + 4 * sz (.un op a) < 8000)
    (q : ∀ l, F.N l (LS σ r (rows ++ lafter [op] rows.length (lay a (rows.length + 1) ++ [if op = 115 then .vis else .op op 1]) op))) : wpB C (b_law_lay.drop 3) [(280, .tree (.un op a)), (40, .loc r)] σ F X := by
  have hr : r < σ.length := (List.getElem?_eq_some_iff.mp hσ).1
  have hl := lay_len a (rows.length + 1)
  have hsz : sz (.un op a) = sz a + 1 := rfl
  unfold S_worth at h1
  rw [hw] at h1
  have tail : ∀ {w : AV} {tl : Loc} {s : Sto}, s = LS σ r (rows ++ lgrd [op] (-1) ++ (lay a (rows.length + 1) ++ [if op = 115 then .vis else .op op 1])) → wpB C (b_law_lay.drop 8) (LL (.tree (.un op a)) w (.lst [.str op]) r rows.length tl) s F X := fun hs =>
    lay_tail C hr (ns := [op]) (A := rows) (B := lay a (rows.length + 1) ++ [if op = 115 then .vis else .op op 1]) (E := []) (by rw [hs, List.append_nil]) (fun zz => rfl) (fun zz => rfl) (fun zz j hj => by
      have : j = 0 := by simp at hj; lia
      subst this; rfl) (by simp; lia) (fun l => by rw [List.append_nil]; exact q l)
  ktr_unf
  refine h1 _ _ _ ?_; ktr_unf
  refine opt_of (len_loc hσ) ?_
  tbr_iter (List.length_map); ktr_unf
  refine opt_of (aug_loc (ys := (lgrd [op] (-1)).map lAV) hσ (by simp [lgrd]; lia)) ?_
  rw [set_ls (rows := rows ++ lgrd [op] (-1)) (by simp)]; ktr_unf
  refine h2 _ _ _ _ _ (ls_get0 hr) (by simp [lgrd]; lia) ?_
  rw [ls_ls, show (rows ++ lgrd [op] (-1)).length = rows.length + 1 by simp [lgrd]]; ktr_unf
  refine opt_of (cal_app (ls_get0 hr)) ?_; ktr_unf
  rcases ho with rfl | ⟨ne, ho⟩
  · ktr_unf
    refine run_app C X (ls_get0 hr) (by simp [lgrd]; lia) ?_
    rw [ls_set0 (rows ++ lgrd [115] (-1) ++ (lay a (rows.length + 1) ++ [.vis])) (by simp [lAV])]; ktr_unf
    exact tail rfl
  · rw [if_neg ne] at tail
    refine opt_of (ho _) ?_; ktr_unf
    refine run_app C X (ls_get0 hr) (by simp [lgrd]; lia) ?_
    rw [ls_set0 (rows ++ lgrd [op] (-1) ++ (lay a (rows.length + 1) ++ [.op op 1])) (by simp [lAV])]; ktr_unf
    exact tail rfl
theorem lay_in2 (C : Calls) {op : Nat} {a b : Tree} (h1 : S_worth (.bin op a b) C) (h2 : S_lay a C) (h3 : S_lay b C) (hw : worth (.bin op a b) = .no) {σ : Sto} {r : Nat} {rows : List Lw} {F : Fl} {X : KX} (ho : ∀ σ, cmpS σ 0 (.str op) (.str 115) = some false) (hσ : σ[r]? = some (.list (rows.map lAV))) (hlen : rows.length + 4 * sz (.bin op a b) < 8000)
    (q : ∀ l, F.N l (LS σ r (rows ++ lafter [op] rows.length (lay a (rows.length + 1) ++ lay b (rows.length + 1 + (lay a (rows.length + 1)).length) ++ [.op op 2]) op))) : wpB C (b_law_lay.drop 3) [(280, .tree (.bin op a b)), (40, .loc r)] σ F X := by
  have hr : r < σ.length := (List.getElem?_eq_some_iff.mp hσ).1
  have hl := lay_len a (rows.length + 1)
  have hl2 := lay_len b (rows.length + 1 + (lay a (rows.length + 1)).length)
  have hsz : sz (.bin op a b) = sz a + sz b + 1 := rfl
  unfold S_worth at h1
  rw [hw] at h1
  have tail : ∀ {w : AV} {tl : Loc} {s : Sto}, s = LS σ r (rows ++ lgrd [op] (-1) ++ (lay a (rows.length + 1) ++ lay b (rows.length + 1 + (lay a (rows.length + 1)).length) ++ [.op op 2])) → wpB C (b_law_lay.drop 8) (LL (.tree (.bin op a b)) w (.lst [.str op]) r rows.length tl) s F X := fun hs =>
    lay_tail C hr (ns := [op]) (A := rows) (B := lay a (rows.length + 1) ++ lay b (rows.length + 1 + (lay a (rows.length + 1)).length) ++ [.op op 2]) (E := []) (by rw [hs, List.append_nil]) (fun zz => rfl) (fun zz => rfl) (fun zz j hj => by
      have : j = 0 := by simp at hj; lia
      subst this; rfl) (by simp; lia) (fun l => by rw [List.append_nil]; exact q l)
  ktr_unf
  refine h1 _ _ _ ?_; ktr_unf
  refine opt_of (len_loc hσ) ?_
  tbr_iter (List.length_map); ktr_unf
  refine opt_of (aug_loc (ys := (lgrd [op] (-1)).map lAV) hσ (by simp [lgrd]; lia)) ?_
  rw [set_ls (rows := rows ++ lgrd [op] (-1)) (by simp)]; ktr_unf
  refine h2 _ _ _ _ _ (ls_get0 hr) (by simp [lgrd]; lia) ?_
  rw [ls_ls, show (rows ++ lgrd [op] (-1)).length = rows.length + 1 by simp [lgrd]]; ktr_unf
  refine h3 _ _ _ _ _ (ls_get0 hr) (by simp [lgrd]; lia) ?_
  rw [ls_ls, show (rows ++ lgrd [op] (-1) ++ lay a (rows.length + 1)).length = rows.length + 1 + (lay a (rows.length + 1)).length by simp [lgrd]; lia]; ktr_unf
  refine opt_of (cal_app (ls_get0 hr)) ?_; ktr_unf
  refine opt_of (ho _) ?_; ktr_unf
  refine run_app C X (ls_get0 hr) (by simp [lgrd]; lia) ?_
  rw [ls_set0 (rows ++ lgrd [op] (-1) ++ (lay a (rows.length + 1) ++ lay b (rows.length + 1 + (lay a (rows.length + 1)).length) ++ [.op op 2])) (by simp [lAV])]; ktr_unf
  exact tail rfl
theorem b_lay_leaf (C : Calls) {t} {σ : Sto} {r : Nat} {rows : List Lw} {R : KE} {X : KX} (hl : lowT t) (h0 : ht t = 0) (hσ : σ[r]? = some (.list (rows.map lAV))) (hlen : rows.length < 8000) (q : R .none (LS σ r (rows ++ lay t rows.length))) : runF C ⟨[280, 40], b_law_lay, 0⟩ [.tree t, .loc r] σ R X := by
  cases t with
  | lit k i =>
    rcases (show k = 8 ∨ k = 9 ∨ k = 10 from hl) with rfl | rfl | rfl <;>
    · show wpB C b_law_lay _ _ _ _; ktr_unf
      refine opt_of (cal_app hσ) ?_; ktr_unf
      refine run_app C X hσ (by simp; lia) ?_
      refine (congrArg (R .none) (set_ls (by simp [lay, lAV]))).mpr q
  | txt =>
    show wpB C b_law_lay _ _ _ _; ktr_unf
    refine opt_of (cal_app hσ) ?_; ktr_unf
    refine run_app C X hσ (by simp; lia) ?_
    refine (congrArg (R .none) (set_ls (by simp [lay, lAV]))).mpr q
  | name y =>
    show wpB C b_law_lay _ _ _ _; ktr_unf
    refine opt_of (cal_app hσ) ?_; ktr_unf
    refine run_app C X hσ (by simp; lia) ?_
    refine (congrArg (R .none) (set_ls (by simp [lay, lAV]))).mpr q
  | un op a => simp [Mine.ht] at h0
  | bin op a b => simp [Mine.ht] at h0
theorem b_lay_f (C : Calls) {a} {σ : Sto} {r : Nat} {rows : List Lw} {R : KE} {X : KX} (hσ : σ[r]? = some (.list (rows.map lAV))) (hlen : rows.length < 8000) (q : R .none (LS σ r (rows ++ [.call 19]))) : runF C ⟨[280, 40], b_law_lay, 0⟩ [.tree (.un 19 a), .loc r] σ R X := by
  show wpB C b_law_lay _ _ _ _; ktr_unf
  refine opt_of (cal_app hσ) ?_; ktr_unf
  refine run_app C X hσ (by simp; lia) ?_
  refine (congrArg (R .none) (set_ls (by simp [lAV]))).mpr q
theorem b_lay1 (C : Calls) {op a} {σ : Sto} {r : Nat} {R : KE} {X : KX} (ho : IsU op) (q : wpB C (b_law_lay.drop 3) [(280, .tree (.un op a)), (40, .loc r)] σ ⟨fun zz σ' => R .none σ', fun v σ' => R v σ', fun zz zz => False⟩ X) : runF C ⟨[280, 40], b_law_lay, 0⟩ [.tree (.un op a), .loc r] σ R X := by
  rcases ho with rfl | rfl | rfl <;> exact q
theorem b_lay2 (C : Calls) {op a b} {σ : Sto} {r : Nat} {R : KE} {X : KX} (ho : IsB op) (q : wpB C (b_law_lay.drop 3) [(280, .tree (.bin op a b)), (40, .loc r)] σ ⟨fun zz σ' => R .none σ', fun v σ' => R v σ', fun zz zz => False⟩ X) : runF C ⟨[280, 40], b_law_lay, 0⟩ [.tree (.bin op a b), .loc r] σ R X := by
  rcases ho with rfl | rfl | rfl | rfl <;> exact q
theorem Ret.lay {σ E : Sto} {r : Nat} {rows : List Lw} {k : KE} (h : k .none (LS σ r rows)) : Ret σ (LS σ r rows ++ E) .none k :=
  .inr ⟨.none, .none, _, .refl _, rfl, .refl _, Cut.set (bnds_lAV _ _), h⟩
theorem worth_no {t : Tree} (h : isV (worth t) ≠ true) (h2 : worth t ≠ .odd) : worth t = .no := by
  cases hw : worth t with
  | no => rfl
  | odd => exact absurd hw h2
  | _ => rw [hw] at h; exact absurd rfl h
theorem bop_lt {op : Nat} (h : IsB op) : ∀ σ, cmpS σ 0 (.str op) (.str 115) = some false := fun σ => (bop_facts h).2.1
theorem uop_lt {op : Nat} (h : IsU op) : op = 115 ∨ op ≠ 115 ∧ ∀ σ, cmpS σ 0 (.str op) (.str 115) = some false := by
  rcases h with rfl | rfl | rfl
  · exact .inl rfl
  · exact .inr ⟨by decide, fun zz => rfl⟩
  · exact .inr ⟨by decide, fun zz => rfl⟩
theorem sz_900 {d : Nat} {t : Tree} (hd : d ≤ 5) (g : Good d t) : sz t < 900 := by
  have := sz_good g
  have : 2 ^ (d + 1) ≤ 2 ^ 6 := Nat.pow_le_pow_right (by decide) (by lia)
  lia
theorem o_lay : ∀ (t : Tree) (d n : Nat), d ≤ 5 → Good d t → noOdd t → ht t ≤ n → S_lay t (CM (n + 2))
  | .lit k i, d, n, hd, g, no, hn => fun σ r rows κ X hσ hl h => CM_fn rfl (b_lay_leaf (CM (n + 1)) g.low rfl hσ (by simp [sz] at hl; lia) (Ret.stay h))
  | .txt, d, n, hd, g, no, hn => fun σ r rows κ X hσ hl h => CM_fn rfl (b_lay_leaf (CM (n + 1)) g.low rfl hσ (by simp [sz] at hl; lia) (Ret.stay h))
  | .name y, d, n, hd, g, no, hn => fun σ r rows κ X hσ hl h => CM_fn rfl (b_lay_leaf (CM (n + 1)) g.low rfl hσ (by simp [sz] at hl; lia) (Ret.stay h))
  | .un op a, 0, n, hd, g, no, hn => g.elim
  | .bin op a b, 0, n, hd, g, no, hn => g.elim
  | .un op a, d + 1, 0, hd, g, no, hn => absurd hn (by simp [ht])
  | .bin op a b, d + 1, 0, hd, g, no, hn => absurd hn (by simp [ht])
  | .un op a, d + 1, n + 1, hd, g, no, hn => fun σ r rows κ X hσ hl h => by
    rw [lay_un] at h
    by_cases h19 : op = 19
    · subst h19
      rw [if_pos rfl] at h
      exact CM_fn rfl (b_lay_f (CM (n + 2)) hσ (by lia) (Ret.stay h))
    · rw [if_neg h19] at h
      have hu := g.1.resolve_right h19
      have hw := o_worth (.un op a) (d + 1) (n + 1) hd g hn
      refine CM_fn rfl (b_lay1 (CM (n + 2)) hu ?_)
      by_cases hv : isV (worth (.un op a)) = true
      · rw [if_pos hv] at h
        exact lay_val (CM (n + 2)) hw (o_heads (.un op a) (n + 1) g.low hn) hv hσ (sz_900 hd g) hl (fun zz => rfl) fun zz => Ret.lay h
      · rw [if_neg hv] at h
        exact lay_in1 (CM (n + 2)) hw (o_lay a d n (by lia) g.2 no.2 (by simp [ht] at hn; lia)) (worth_no hv no.1) (uop_lt hu) hσ hl fun zz => Ret.stay h
  | .bin op a b, d + 1, n + 1, hd, g, no, hn => fun σ r rows κ X hσ hl h => by
    rw [lay_bin] at h
    have hw := o_worth (.bin op a b) (d + 1) (n + 1) hd g hn
    refine CM_fn rfl (b_lay2 (CM (n + 2)) g.1 ?_)
    by_cases hv : isV (worth (.bin op a b)) = true
    · rw [if_pos hv] at h
      exact lay_val (CM (n + 2)) hw (o_heads (.bin op a b) (n + 1) g.low hn) hv hσ (sz_900 hd g) hl (fun zz => rfl) fun zz => Ret.lay h
    · rw [if_neg hv] at h
      exact lay_in2 (CM (n + 2)) hw (o_lay a d n (by lia) g.2.1 no.2.1 (by simp [ht] at hn; lia)) (o_lay b d n (by lia) g.2.2 no.2.2 (by simp [ht] at hn; lia)) (worth_no hv no.1) (bop_lt g.1) hσ hl fun zz => Ret.stay h
end Mine
end
section
namespace Mine
inductive SameR (K : List AV) : Rw → Lw → Prop
  | leaf (j : Nat) (t) : leaf t = true → lowT t → K[j]? = some (.node t) → SameR K (.const j) (.leaf t)
  | const (j : Nat) (w) : isV w = true → okW w → K[j]? = some (vecW w) → SameR K (.const j) (.const w)
  | var (s) : s < 316 → SameR K (.var s) (.var s)
  | un (j : Nat) (op a) : op < 316 → K[j]? = some (.node (.un op a)) → SameR K (.call j) (.call op)
  | bin (j : Nat) (op a b) : op < 316 → K[j]? = some (.node (.bin op a b)) → SameR K (.call j) (.call op)
  | op (o n c) : o < 316 → SameR K (.op o n c) (.op o n)
  | guard (s t) : s < 316 → SameR K (.guard s t) (.guard s t)
  | jump (t) : SameR K (.jump t) (.jump t)
  | vis : SameR K .vis .vis
  | fin : SameR K .fin .fin
inductive Sames (K : List AV) : List Rw → List Lw → Prop
  | nil : Sames K [] []
  | cons {a b as bs} : SameR K a b → Sames K as bs → Sames K (a :: as) (b :: bs)
theorem Sames.one {K a b} (h : SameR K a b) : Sames K [a] [b] := .cons h .nil
theorem Sames.app {K as bs cs ds} (h : Sames K as bs) (h2 : Sames K cs ds) : Sames K (as ++ cs) (bs ++ ds) := by
  induction h with
  | nil => exact h2
  | cons h _ ih => exact .cons h ih
theorem Sames.len {K as bs} (h : Sames K as bs) : as.length = bs.length := by
  induction h with
  | nil => rfl
  | cons h _ ih => simp [ih]
theorem Sames.get {K as bs} (h : Sames K as bs) : ∀ (i : Nat), i < bs.length → ∃ a b, as[i]? = some a ∧ bs[i]? = some b ∧ SameR K a b := by
  induction h with
  | nil => intro i hi; exact absurd hi (Nat.not_lt_zero _)
  | cons h _ ih =>
    intro i hi
    cases i with
    | zero => exact ⟨_, _, rfl, rfl, h⟩
    | succ i => simpa using ih i (by simpa using hi)
theorem Sames.grd {K : List AV} (T : Int) : ∀ {ns : List Nat}, (∀ n ∈ ns, n < 316) → Sames K (grd ns T) (lgrd ns T)
  | [], _ => .nil
  | n :: ns, h => .cons (.guard n T (h n (.head _))) (Sames.grd T fun m hm => h m (.tail _ hm))
theorem Sames.after {K : List AV} {ns : List Nat} {p c : Nat} {B : List Rw} {B' : List Lw} {op : Nat} (hn : ∀ n ∈ ns, n < 316) (hB : Sames K B B') (hc : SameR K (.call c) (.call op)) : Sames K (after ns p B c) (lafter ns p B' op) := by
  unfold Mine.after lafter
  rw [hB.len]
  exact ((Sames.grd _ hn).app hB).app (.cons (.jump _) (.one hc))
theorem heads_low : ∀ (t : Tree) (acc : List Nat), lowT t → (∀ n ∈ acc, n < 316) → ∀ n ∈ headsA t acc, n < 316 := by
  intro t
  induction t with
  | un op a ih => exact fun acc hl hn => ih _ hl.2 (addN_low hl.1 hn)
  | bin op a b ia ib => exact fun acc hl hn => ib _ hl.2.2 (ia _ hl.2.1 (addN_low hl.1 hn))
  | _ => exact fun acc hl hn => hn
theorem sub_app {K xs ys : List AV} {q : Nat} (h : ∀ j v, (xs ++ ys)[j]? = some v → K[q + j]? = some v) : (∀ j v, xs[j]? = some v → K[q + j]? = some v) ∧ ∀ j v, ys[j]? = some v → K[q + xs.length + j]? = some v := by
  refine ⟨fun j v e => h j v ?_, fun j v e => ?_⟩
  · rw [List.getElem?_append_left (List.getElem?_eq_some_iff.mp e).1]; exact e
  · rw [Nat.add_assoc]; exact h _ _ (by rw [List.getElem?_append_right (by lia), show xs.length + j - xs.length = j by lia]; exact e)
theorem joint : ∀ (t : Tree) (d p q : Nat) (K : List AV), Good d t → noOdd t → (∀ j v, (kons t)[j]? = some v → K[q + j]? = some v) → Sames K (code t p q) (lay t p)
  | .lit k i, d, p, q, K, g, no, h => .one (.leaf q _ rfl g.low (h 0 _ rfl))
  | .txt, d, p, q, K, g, no, h => .one (.leaf q _ rfl g.low (h 0 _ rfl))
  | .name y, d, p, q, K, g, no, h => .one (.var _ (by split <;> decide))
  | .un op a, 0, p, q, K, g, no, h => g.elim
  | .bin op a b, 0, p, q, K, g, no, h => g.elim
  | .un op a, d + 1, p, q, K, g, no, h => by
    have hl : lowT (.un op a) := Good.low g
    have h1 : ∀ n ∈ [op], n < 316 := by simpa using hl.1
    rw [code_un, lay_un]
    rw [kons_un] at h
    by_cases hv : isV (worth (.un op a)) = true
    · have n19 : op ≠ 19 := by intro e; subst e; simp [worth, isV] at hv
      rw [if_pos hv] at h ⊢
      rw [if_neg n19, if_pos hv]
      exact .after (heads_low _ [] hl (by simp)) (.one (.const q _ hv (okW_of g) (h 0 _ rfl))) (.un (q + 1) op a hl.1 (h 1 _ rfl))
    · rw [if_neg hv] at h ⊢
      by_cases h19 : op = 19
      · subst h19
        rw [if_pos rfl] at h ⊢
        rw [if_pos rfl]
        exact .one (.un q 19 a hl.1 (h 0 _ rfl))
      · rw [if_neg h19] at h ⊢
        rw [if_neg h19, if_neg hv]
        by_cases h5 : op = 115
        · subst h5
          rw [if_pos rfl] at h ⊢
          rw [if_pos rfl]
          obtain ⟨ha, hb⟩ := sub_app h
          exact .after h1 ((joint a d (p + 1) q K g.2 no.2 ha).app (.one .vis)) (.un _ 115 a hl.1 (hb 0 _ rfl))
        · rw [if_neg h5] at h ⊢
          rw [if_neg h5]
          obtain ⟨ha, hb⟩ := sub_app h
          exact .after h1 ((joint a d (p + 1) q K g.2 no.2 ha).app (.one (.op _ _ _ hl.1))) (.un _ op a hl.1 (hb 1 _ rfl))
  | .bin op a b, d + 1, p, q, K, g, no, h => by
    have hl : lowT (.bin op a b) := Good.low g
    have h1 : ∀ n ∈ [op], n < 316 := by simpa using hl.1
    rw [code_bin, lay_bin]
    rw [kons_bin] at h
    by_cases hv : isV (worth (.bin op a b)) = true
    · rw [if_pos hv] at h ⊢
      rw [if_pos hv]
      exact .after (heads_low _ [] hl (by simp)) (.one (.const q _ hv (okW_of g) (h 0 _ rfl))) (.bin (q + 1) op a b hl.1 (h 1 _ rfl))
    · rw [if_neg hv] at h ⊢
      rw [if_neg hv]
      obtain ⟨hab, hc⟩ := sub_app h
      obtain ⟨ha, hb⟩ := sub_app hab
      have ia := joint a d (p + 1) q K g.2.1 no.2.1 ha
      have ib := joint b d (p + 1 + (code a (p + 1) q).length) (q + (kons a).length) K g.2.2 no.2.2 hb
      rw [List.length_append, ← Nat.add_assoc] at hc
      rw [ia.len] at ib ⊢
      exact .after h1 ((ia.app ib).app (.one (.op _ _ _ hl.1))) (.bin _ op a b hl.1 (hc 1 _ rfl))
theorem eq_data {σ : Sto} {x : List AV} (h : dat 8 (.tup x) = true) (h2 : veqs x x = true) : cmpS σ 0 (.tup x) (.tup x) = some true := by
  show eqAV (.tup x) (.tup x) = _
  unfold eqAV
  rw [if_pos (by rw [h]; rfl)]
  exact congrArg some h2
noncomputable def S_same (C : Calls) : Prop := ∀ K a b (σ : Sto) l (k : KE) X, SameR K a b → σ[l]? = some (.list K) → k (.bool true) σ → C 297 [rAV a, lAV b, .loc l] σ k X
theorem i_beq (i : Int) : decide (i = i) = true := by simp
theorem b_same (C : Calls) {K a b} {σ : Sto} {l} {r : KE} {X} (s : SameR K a b) (hσ : σ[l]? = some (.list K)) (h : r (.bool true) σ) : runF C ⟨[292, 293, 41], b_law_same, 0⟩ [rAV a, lAV b, .loc l] σ r X := by
  cases s with
  | leaf j t lf hl e =>
    cases t with
    | lit k i =>
      rcases (show k = 8 ∨ k = 9 ∨ k = 10 from hl) with rfl | rfl | rfl <;>
      · show wpB C b_law_same _ _ _ _; ktr_unf
        refine opt_of (item_locN hσ e) ?_; ktr_unf
        refine (congrArg (fun b => r (.bool b) σ) ?_).mpr h
        simp [veq, veqs, expo, itemAV]
    | txt =>
      show wpB C b_law_same _ _ _ _; ktr_unf
      refine opt_of (item_locN hσ e) ?_; ktr_unf
      exact h
    | _ => cases lf
  | const j w hv hk e =>
    cases w with
    | num k i =>
      rcases (show k = 8 ∨ k = 9 ∨ k = 10 from hk) with rfl | rfl | rfl <;>
      · show wpB C b_law_same _ _ _ _; ktr_unf
        refine opt_of (item_locN hσ e) ?_; ktr_unf
        refine (congrArg (fun b => r (.bool b) σ) ?_).mpr h
        simp [veq, veqs, expo, itemAV]
    | txt =>
      show wpB C b_law_same _ _ _ _; ktr_unf
      refine opt_of (item_locN hσ e) ?_; ktr_unf
      exact h
    | _ => cases hv
  | var s hs =>
    show wpB C b_law_same _ _ _ _; ktr_unf
    refine opt_of (eq_data (x := [.str 56, .str s]) (by simp [dat, dats, hs]) (by simp [veq, veqs])) ?_; ktr_unf
    exact h
  | un j op a ho e =>
    show wpB C b_law_same _ _ _ _; ktr_unf
    refine opt_of (item_locN hσ e) ?_; ktr_unf; (all_goals try (conv => whnf))
    refine opt_of ((cmp_s ho ho).trans (by rw [show Nat.beq op op = true by simp])) ?_; ktr_unf; (all_goals try (conv => whnf))
    exact h
  | bin j op a b ho e =>
    show wpB C b_law_same _ _ _ _; ktr_unf
    refine opt_of (item_locN hσ e) ?_; ktr_unf; (all_goals try (conv => whnf))
    refine opt_of ((cmp_s ho ho).trans (by rw [show Nat.beq op op = true by simp])) ?_; ktr_unf; (all_goals try (conv => whnf))
    exact h
  | op o n c ho =>
    show wpB C b_law_same _ _ _ _; ktr_unf
    refine opt_of (eq_data (x := [.str 64, .str o, .int n]) (by simp [dat, dats, ho]) (by simp [veq, veqs])) ?_; ktr_unf
    exact h
  | guard s t hs =>
    show wpB C b_law_same _ _ _ _; ktr_unf
    refine opt_of (eq_data (x := [.str 50, .str s, .int t]) (by simp [dat, dats, hs]) (by simp [veq, veqs])) ?_; ktr_unf
    exact h
  | jump t =>
    show wpB C b_law_same _ _ _ _; ktr_unf
    refine (congrArg (fun b => r (.bool b) σ) ?_).mpr h
    simp [veq, veqs, expo, lAV]
  | vis => show wpB C b_law_same _ _ _ _; ktr_unf; exact h
  | fin => show wpB C b_law_same _ _ _ _; ktr_unf; exact h
theorem o_same (n) : S_same (CM (n + 1)) := fun zz zz zz zz zz zz zz s hσ h => CM_fn rfl (b_same (CM n) s hσ (Ret.same h))
end Mine
end
section
namespace Mine
theorem cod_old {σ : Sto} {t : Tree} {dep : Int} {i : Nat} {a : AO} (h : σ[i]? = some a) : (COD σ t dep)[i]? = some a := by rw [cod, cst]; exact app_lt (app_lt h)
theorem last_item {σ : Sto} {l : Nat} {xs : List AV} {v : AV} (h : σ[l]? = some (.list (xs ++ [v]))) : itemOf σ (.loc l) (.int (-1)) = some v := by
  unfold itemOf; simp only [expo, h]
  unfold idxOf
  rw [if_neg (by decide), if_pos (by simp; lia), show ((-1 : Int) + ((xs ++ [v]).length : Nat)).toNat = xs.length by simp; lia]
  simp
theorem ne_int {σ : Sto} {x y : Int} (h : x = y) : cmpS σ 1 (.int x) (.int y) = some false := by
  subst h
  show some (!decide (x = x)) = _
  simp
theorem law_for (C : Calls) {σ : Sto} {sc : AV} {F : Fl} {v : AV} {xs0 : List AV} (hv : ∀ σ, itemsOf σ v = some xs0) (q : ∀ (cells : List Int) (m : Int) (tl : Loc), cells.length < 9000 → 0 ≤ m → m < 983 → F.N ((296, sc) :: (273, .loc σ.length) :: (274, .int m) :: tl) (σ ++ [.list (cells.map AV.int)])) : ∀ (xs : List Int) (cells : List Int) (m : Int) (tl : Loc), cells.length + xs.length < 9000 → 0 ≤ m → m < 983 →
    forV (fun l σ F => wpB C [.ex (.meth (.nm 273) 29 [(.bin 4 (.call (.gl 23) [(.call (.gl 24) [(.nm 295)])]) (.cI 2520))]), .asg 274 (.bin 4 (.bin 0 (.bin 2 (.nm 274) (.cI 17)) (.sub (.nm 273) (.neg (.cI 1)))) (.cI 983))] l σ F noX) 295 v xs0 F (xs.map AV.int) ((296, sc) :: (273, .loc σ.length) :: (274, .int m) :: tl) (σ ++ [.list (cells.map AV.int)])
:= by
  intro xs
  induction xs with
  | nil => exact fun cells m tl hl m0 m1 => ⟨hv _, q _ _ _ hl m0 m1⟩
  | cons x xs ih =>
    intro cells m tl hl m0 m1
    refine ⟨hv _, ?_⟩
    ktr_unf
    refine opt_of (cal_app at0) ?_; ktr_unf
    refine opt_of (v := .int x) lk_eq ?_; ktr_unf
    refine run_app C noX at0 (by simp at hl ⊢; lia) ?_
    tbr_iter (set0); ktr_unf
    refine opt_of (mul_ok (small_lt m0 m1) (by have := small_nat (n := 17) (by decide); exact this)) ?_; ktr_unf
    refine opt_of (last_item at0) ?_; ktr_unf
    rw [show cells.map AV.int ++ [AV.int ((if x < 0 then -x else x).fmod 2520)] = (cells ++ [(if x < 0 then -x else x).fmod 2520]).map AV.int by simp]
    have m0' := Int.fmod_nonneg_of_pos (m * 17 + (if x < 0 then -x else x).fmod 2520) (show (0 : Int) < 983 by decide)
    have m1' := Int.fmod_lt_of_pos (m * 17 + (if x < 0 then -x else x).fmod 2520) (show (0 : Int) < 983 by decide)
    exact ih _ _ _ (by simp at hl ⊢; lia) m0' m1'
theorem mem_true : ∀ (n : Nat), memAV (.bool false) (List.replicate n (.bool true)) = some false := by
  have e1 : ∀ n, dats 7 ((List.replicate n (AV.bool true)).map expo) = true := fun n => by
    induction n with
    | zero => rfl
    | succ n ih => exact ih
  have e2 : ∀ n, (((List.replicate n (AV.bool true)).map expo).any fun y => veq y (.bool false)) = false := fun n => by
    induction n with
    | zero => rfl
    | succ n ih => exact ih
  intro n
  unfold memAV
  rw [e1, e2]; rfl
theorem law_comp (C : Calls) (h1 : S_same C) {s : Sto} {l : Loc} {lc lr lk ld : Nat} {as : List Rw} {bs : List Lw} {K : List AV} {N : Nat} {k : KE} (hN : N < 9000) (h7 : nsLk l 7 = some (.loc lc)) (h293 : nsLk l 293 = some (.loc ld)) (a40 : attrOf s (.loc lc) 40 = some (.loc lr)) (a41 : attrOf s (.loc lc) 41 = some (.loc lk))
    (sr : s[lr]? = some (.list (as.map rAV))) (sk : s[lk]? = some (.list K)) (sd : s[ld]? = some (.list (bs.map lAV))) (S : Sames K as bs) (hb : bs.length = N) (q : k (.lst (List.replicate N (.bool true))) s) : ∀ (m i : Nat), i + m = N →
    compV (fun l σ k => (wp2 C (.call (.gl 297) [(.sub (.attr (.nm 7) 40) (.nm 47)), (.sub (.nm 293) (.nm 47)), (.attr (.nm 7) 41)])).v l σ k noX) 47 (.rng 0 N) ((List.range' 0 N).map fun (i : Nat) => AV.int (0 + (i : Int))) l k ((List.range' i m).map fun (i : Nat) => AV.int (0 + (i : Int))) (List.replicate i (.bool true)) s
:= by
  intro m
  induction m with
  | zero => exact fun i e => ⟨rng_items (by lia), by cases e; exact q⟩
  | succ m ih =>
    intro i e
    refine ⟨rng_items (by lia), ?_⟩
    obtain ⟨a, b, ha, hb', hs⟩ := S.get i (by lia)
    have g7 : ∀ v, nsLk ((47, v) :: l) 7 = some (.loc lc) := fun v => (if_neg (show ¬ (47 : Nat) = 7 by decide)).trans h7
    have g293 : ∀ v, nsLk ((47, v) :: l) 293 = some (.loc ld) := fun v => (if_neg (show ¬ (47 : Nat) = 293 by decide)).trans h293
    ktr_unf
    refine opt_of (g7 _) ?_; ktr_unf
    refine opt_of a40 ?_; ktr_unf
    refine opt_of (v := rAV a) (show itemOf s (.loc lr) (.int (0 + (i : Int))) = _ by rw [Int.zero_add]; exact item_locN sr (by rw [List.getElem?_map, ha]; rfl)) ?_; ktr_unf
    refine opt_of (g293 _) ?_; ktr_unf
    refine opt_of (v := lAV b) (show itemOf s (.loc ld) (.int (0 + (i : Int))) = _ by rw [Int.zero_add]; exact item_locN sd (by rw [List.getElem?_map, hb']; rfl)) ?_; ktr_unf
    refine opt_of (g7 _) ?_; ktr_unf
    refine opt_of a41 ?_; ktr_unf
    refine h1 _ _ _ _ _ _ _ hs sk ?_
    have := ih (i + 1) (by lia)
    rwa [List.replicate_succ'] at this
noncomputable def S_law (C : Calls) : Prop := ∀ (xs : List Int) σ (k : KE) X, k (.bool true) σ → C 315 [.lst (xs.map AV.int)] σ k X
theorem b_law_ (C : Calls) (h1 : S_tree 4 C) (h2 : ∀ t, Good 4 t → S_odd t C) (h3 : ∀ t, Good 4 t → noOdd t → S_lay t C) (h4 : ∀ t, Good 4 t → S_made t C) (h5 : ∀ t, Good 4 t → noOdd t → S_ce t C) (h6 : S_same C) {xs : List Int} {σ : Sto} {r : KE} {X} (h : ∀ e, r (.bool true) (σ ++ e)) : runF C ⟨[296], b_law, 0⟩ [.lst (xs.map AV.int)] σ r X := by
  show wpB C b_law _ _ _ _; ktr_unf; (all_goals try (conv => whnf))
  have take : slT (.lst (xs.map AV.int)) (.int 40) = some (.lst ((xs.take 40).map AV.int)) := by
    unfold slT; simp only [expo]; rw [if_pos (by decide), List.map_take]; rfl
  rw [show (xs.map AV.int).take (40 : Int).toNat = (xs.take 40).map AV.int by rw [List.map_take]; rfl]
  refine law_for C (fun zz => rfl) (fun cells m tl hl m0 m1 => ?_) (xs.take 40) [] 7 [] (by simp; lia) (by decide) (by decide)
  ktr_unf
  refine opt_of lk_eq ?_; ktr_unf
  have eS : σ ++ [AO.list (cells.map AV.int)] ++ [.dict ([273, 272, 274, 275].zip [.loc σ.length, .int 0, .int m, .int 12])] = RS σ cells 0 m 12 := by rw [rst]; simp [rd]
  refine (congrArg (fun s => C 279 _ s _ _) eS).mpr ?_
  rw [app_len]
  refine h1 _ _ _ _ _ _ _ ⟨Int.le_refl _, m0, m1⟩ fun t p' m' s' g iv => ?_
  ktr_unf
  refine opt_of lk_eq ?_; ktr_unf
  refine h2 t g _ _ _ ?_
  cases ho : oddB t with
  | true =>
    ktr_unf
    have := h [.list (cells.map AV.int), .dict (rd σ.length p' m' s')]
    rw [← rst] at this
    exact this
  | false =>
    have no := oddB_no t ho
    have hl4 := lay_len t 0
    have hs := sz_900 (by decide) g
    (conv => whnf)
    refine opt_of ((lk_ne rfl).trans lk_eq) ?_; ktr_unf
    refine opt_of lk_eq ?_; ktr_unf
    have a0 : (RS σ cells p' m' s' ++ [.list []])[(RS σ cells p' m' s').length]? = some (.list (([] : List Lw).map lAV)) := at0
    refine h3 t g no _ _ _ _ _ a0 (by simp; lia) ?_
    have eL : LS (RS σ cells p' m' s' ++ [.list []]) (RS σ cells p' m' s').length ([] ++ lay t ([] : List Lw).length) = RS σ cells p' m' s' ++ [.list ((lay t 0).map lAV)] := set0
    rw [eL]
    ktr_unf
    refine opt_of lk_eq ?_; ktr_unf
    refine opt_of (cal_app at0) ?_; ktr_unf
    refine run_app C X at0 (by simp; lia) ?_
    rw [set0, show (lay t 0).map lAV ++ [AV.tup [.str 54]] = (lay t 0 ++ [Lw.fin]).map lAV by simp [lAV]]
    ktr_unf
    refine opt_of ((lk_ne rfl).trans lk_eq) ?_; ktr_unf
    refine h4 t g _ _ _ ?_; ktr_unf
    refine h5 t g no _ _ _ fun dep => ?_
    have S := (joint t 4 0 0 (kons t) g no fun j v e => by rw [Nat.zero_add]; exact e).app (.one .fin)
    have len := S.len
    have c40 := cod_at40 (σ := RS σ cells p' m' s' ++ [AO.list ((lay t 0 ++ [Lw.fin]).map lAV)]) (t := t) (dep := dep)
    have c41 := cod_at41 (σ := RS σ cells p' m' s' ++ [AO.list ((lay t 0 ++ [Lw.fin]).map lAV)]) (t := t) (dep := dep)
    have cr := cod_rows (σ := RS σ cells p' m' s' ++ [AO.list ((lay t 0 ++ [Lw.fin]).map lAV)]) (t := t) (dep := dep)
    have ck := cod_cons (σ := RS σ cells p' m' s' ++ [AO.list ((lay t 0 ++ [Lw.fin]).map lAV)]) (t := t) (dep := dep)
    have cd : (COD (RS σ cells p' m' s' ++ [AO.list ((lay t 0 ++ [Lw.fin]).map lAV)]) t dep)[(RS σ cells p' m' s').length]? = some (.list ((lay t 0 ++ [Lw.fin]).map lAV)) := cod_old at0
    have fin : r (.bool true) (COD (RS σ cells p' m' s' ++ [AO.list ((lay t 0 ++ [Lw.fin]).map lAV)]) t dep) := by
      rw [cod, cst, rst]
      simp only [List.append_assoc]
      exact h _
    generalize COD (RS σ cells p' m' s' ++ [AO.list ((lay t 0 ++ [Lw.fin]).map lAV)]) t dep = s at *
    generalize (RS σ cells p' m' s' ++ [AO.list ((lay t 0 ++ [Lw.fin]).map lAV)]).length = b at *
    ktr_unf
    refine opt_of lk_eq ?_; ktr_unf
    refine opt_of c40 ?_; ktr_unf
    refine opt_of (len_loc cr) ?_; ktr_unf
    refine opt_of ((lk_ne rfl).trans lk_eq) ?_; ktr_unf
    refine opt_of (len_loc cd) ?_
    refine opt_of (v := false) (ne_int (by rw [List.length_map, List.length_map, len])) ?_; ktr_unf
    refine opt_of ((lk_ne rfl).trans lk_eq) ?_; ktr_unf
    refine opt_of (len_loc cd) ?_
    have hN : ((lay t 0 ++ [Lw.fin]).map lAV).length < 9000 := by rw [List.length_map, List.length_append]; show (lay t 0).length + 1 < 9000; lia
    refine opt_of (rng_items (by lia)) ?_
    refine law_comp C h6 hN lk_eq ((lk_ne rfl).trans lk_eq) c40 c41 cr ck cd S (List.length_map _).symm ?_ _ 0 (Nat.zero_add _)
    refine opt_of (v := true) (congrArg (Option.map (!·)) (mem_true _)) ?_
    exact fin
theorem o_law : S_law (CM 60) := fun xs σ k X h => CM_fn rfl (b_law_ (CM 59) (o_tree 53 4) (fun t g => o_odd t 4 57 (by decide) g (by have := ht_good g; lia)) (fun t g no => o_lay t 4 57 (by decide) g no (by have := ht_good g; lia)) (fun t g => o_made t 57 g.low (by have := ht_good g; lia)) (fun t g no => o_ce 33 (by decide) g no (by have := ht_good g; lia)) (o_same 58) fun e => Ret.cut rfl h)
end Mine
end
section
open PySem PySem.W PyProof.Rows PySem.Calls
namespace Mine
noncomputable def freedO : Obj := { cls := .none, dict := none, data := .freed, slots := #[] }
noncomputable def hid (h : Heap) (x : Addr) : Heap := h.update x fun zz => freedO
theorem hid_ne {h : Heap} {x b : Addr} (n : b ≠ x) : (hid h x).get? b = h.get? b := Heap.get?_update_ne h b x _ n
theorem hid_at {h : Heap} {x : Addr} : (hid h x).get? x = none := by
  unfold hid Heap.update Heap.get?
  simp only [Array.getElem?_modify]
  cases h.objs[x]? with
  | none => rfl
  | some o => rfl
theorem ns_hid {h : Heap} {x : Addr} {vs : Array Value} {n : Nat} {o : Obj} (hx : h.get? x = some o) (hd : o.data = .seq vs n) {a : Addr} {m : Str → Option Value} (N : h.Ns a m) : (hid h x).Ns a m := by
  obtain ⟨o', es, ep, g, d, r⟩ := N
  refine ⟨o', es, ep, ?_, d, r⟩
  rw [hid_ne]
  · exact g
  · rintro rfl
    rw [hx] at g; cases g
    rw [hd] at d; cases d
noncomputable def noSeq (o : Obj) : Bool := match o.cls with
  | .type n => !(n == "list")
  | _ => true
theorem K_nolist : ∀ P : Params, ((K P).all fun p => noSeq p.2) = true := by intro P; kernel_rfl
theorem law_in : ∀ P : Params, nsIn (K P) mainGlobals (u "law") = some (some (.ref 1131)) := by intro P; kernel_rfl
noncomputable def YP (w : World) (h : Heap) : Prop := (K w.params).In h ∧ ∃ o, h.get? sysModules = some o
theorem yp_of (w : World) (s : Shared) (h : Yf s = Ya w) : YP w s.heap := by
  have h1 : asK.map s.heap.get? = (K w.params).map fun p => some p.2 := congrArg (·.1) h
  have h2 : (s.heap.get? 1).isSome = true := congrArg (·.2) h
  refine ⟨fun a o m => ?_, Option.isSome_iff_exists.mp h2⟩
  rw [asK_is w.params, List.map_map] at h1
  exact List.map_inj_left.mp h1 (a, o) (lookup_mem m)
theorem ints_of {ws : List WData} {vs : List Value} {P : Params} {h : Heap} {Z : Addr → Prop} {ρ : List Addr} {R} (hh : WShape.hasItems R ws .int = true) (W : WellAll P h vs ws) : ∃ xs : List Int, VRels h Z ρ (xs.map AV.int) vs ∧ xs.length = ws.length := by
  induction ws generalizing vs with
  | nil => cases W; exact ⟨[], .nil, rfl⟩
  | cons w ws ih =>
    cases W with
    | cons a b =>
    unfold WShape.hasItems at hh
    obtain ⟨i, rfl⟩ := hasW_int (aL hh)
    cases a
    obtain ⟨xs, r, e⟩ := ih (aR hh) b
    exact ⟨i :: xs, .cons _ _ _ _ (.int i _) r, congrArg Nat.succ e⟩
noncomputable abbrev rwL : OpenLaw := PySem.Challenge.rw_ov0092_01
theorem def_is : (defOf qq rwL.row.name).isSome = true := by kernel_rfl
noncomputable def dk : DefRec × List (Str × Expr) := (defOf qq rwL.row.name).get def_is
theorem hdef : defOf qq rwL.row.name = some (dk.1, dk.2) := (Option.some_get def_is).symm
theorem hp : rwL.row.prog.theDef rwL.row.name = some (dk.1.params, dk.1.body, dk.1.scope) := by kernel_rfl
theorem hk : kwWritten? dk.1.params.kwonlyargs dk.1.params.kw_defaults = some dk.2 := by kernel_rfl
theorem okk : (chainsOk qq && opensWell rwL.row.prog && (frees rwL.row.toRowW && rwL.row.toRowW.within.isEmpty)) = true := by kernel_rfl
end Mine
end
section
open PySem PySem.W PyProof.Rows PySem.Calls
namespace Mine
theorem St.start {w : World} {h : Heap} {x : Addr} {o : Obj} (hx : h.get? x = some o) : St w (hid h x) [] h (fun a => a = x) [] [] where
  base := fun a o' e => by
    by_cases q : a = x
    · subst q; rw [hid_at] at e; cases e
    · rw [hid_ne q] at e; exact e
  len := rfl
  nd := List.nodup_nil
  sep := fun zz m => nomatch m
  nb := fun a m => by
    rcases m with m | rfl
    · cases m
    · exact hid_at
  zl := fun a e => by subst e; exact ⟨o, hx⟩
  ob := fun i ao e => by simp at e
  fr := fun zz m => nomatch m
theorem law_any {w : World} {x : Addr} {vs : List Value} {n : Nat} {s : Shared} {xs : List Int} {Q : Value → Shared → Prop} {E : Value → Shared → Prop} (hx : s.heap.get? x = some (lstO vs n)) (Y : YP w s.heap) (hl : ∃ mg mb, s.heap.Ns mainGlobals mg ∧ s.heap.Ns builtinsNs mb ∧ (∀ x : Str, x ≠ "__name__" → mb x = bootBuiltins x) ∧ s.heap.NoLimit)
    (hr : VRels s.heap (fun a => a = x) [] (xs.map AV.int) vs) (h20 : xs.length ≤ 20000) (hm : x ≠ sysModules) (q : ∀ h' tk, (∀ b o, s.heap.get? b = some o → h'.get? b = some o) → Q (.bool true) { s with heap := h', toks := tk }) : wpAny (model pw w) callerA (call (.ref 1131) [.ref x]) Q E s := by
  obtain ⟨mg, mb, g1, g2, g3, g4⟩ := hl
  have hd : (lstO vs n).data = .seq vs.toArray n := rfl
  obtain ⟨o1, y2⟩ := Y.2
  have ne : ∀ {a : Addr} {o : Obj}, (K w.params).lookup a = some o → a ≠ x := fun {a o} m => by
    rintro rfl
    have e := Y.1 _ _ m
    rw [hx] at e; cases e
    have q : noSeq (lstO vs n) = true := List.all_eq_true.mp (K_nolist w.params) _ (lookup_mem m)
    simp [noSeq] at q
  have B : Bs w (hid s.heap x) := ⟨fun a o m => by rw [hid_ne (ne m)]; exact Y.1 a o m, ⟨mg, ns_hid hx hd g1⟩, ⟨mb, ns_hid hx hd g2, g3⟩, by
    obtain ⟨mc, c1, c2⟩ := g4
    exact ⟨mc, ns_hid hx hd c1, c2⟩⟩
  have sm : ∃ o, (hid s.heap x).get? sysModules = some o := ⟨o1, by rw [hid_ne fun e => hm e.symm]; exact y2⟩
  have A0 : AOk 60 [] callerA := ⟨rfl, by decide, by decide, rfl⟩
  have C := call_ok B sm (fun Φ A a => raisOk B a) 60 [] callerA A0
  refine C 315 [.lst (xs.map AV.int)] [] (fun v zz => v = .bool true) noX (o_law xs [] _ _ rfl) (.ref 1131) [.ref x] s (fun a => a = x) [] Q E (by kernel_rfl) (St.start hx) (.cons _ _ _ _ (.lst _ x vs n (by simpa using h20) rfl hx hr) .nil) (fun v σ' a h' Z' ρ' tk hv S' r P => ?_) (fun e σ' h' Z' ρ' tk hX => hX.elim)
  subst hv
  cases r
  refine q h' tk fun b o e => ?_
  by_cases hb : b = x
  · subst hb
    rw [hx] at e; cases e
    obtain ⟨o', e', c⟩ := P.keep b _ hx (by simp) (fun z => z)
    have := c.same (by simp) (by intro es n e; simp [lstO, dictOf] at e)
    rw [e', this]
  · exact S'.base b o (by rw [hid_ne hb]; exact e)
theorem bare_ : rwL.row.prog.bare := ⟨by kernel_rfl, by kernel_rfl, by kernel_rfl, by kernel_rfl, by kernel_rfl, tables_⟩
theorem promised_ : rwL.row.toRowW.promised := ⟨[.list []], by decide +kernel, by decide +kernel⟩
theorem post_ok (ws : List WData) : rwL.row.claim.post [.list ws] (.bool true) [.list ws] = true := by kernel_rfl
set_option tactic.hygienic true in
theorem row_holds (k1 : rwL.row.wellSaid = true) : rwL.row.Holds := by
  refine PySem.W.holds_open (r := rwL.row) (q := qq) (loose := loose) (Xt := fun zz => true) (XP := fun zz zz => True) (Yf := Yf) (Ya := Ya) (YP := YP) (N := 6600) left_ yp_of (fun w h h' y k => ⟨fun a o m => k _ _ (y.1 a o m), let ⟨o, e⟩ := y.2; ⟨o, k _ _ e⟩⟩) (fun zz zz => trivial) (fun zz zz zz zz zz => trivial) hdef hp hk (fun s zz => recFacts_nil rfl) rfl k1 okk bare_ promised_ ?_
  intro w s₀ s₁ mg mb G Y fa o pm cd doc dV kV ho hd hcd hD hmg hg args vals as hpre hlay hrd hwl hlo
  refine Classical.byContradiction fun go => ?_
  obtain ⟨hs, hpr⟩ := pre_splitW hpre
  obtain ⟨d, r, rfl, h1, h2⟩ := hasAllW_cons hs
  obtain rfl := hasAllW_nil h2
  obtain ⟨ws, rfl, h3⟩ := hasW_list h1
  have hlen : ws.length ≤ 63 := by
    by_cases q : ws.length ≤ 63
    · exact q
    · have e : less? (WData.int 63) (WData.int ws.length) = some true := by
        show some (decide ((63 : Int) < (ws.length : Int))) = some true
        rw [decide_eq_true (by lia)]
      have := hpr
      simp [rwL, PySem.Challenge.rw_ov0092_01, OpenLaw.row, OpenLaw.pre, WTm.holds, WTm.value, e] at this
  obtain ⟨a, v, as1, as2, rfl, rfl, r1, r2⟩ := readsAllW_cons_inv hrd
  cases r2
  have wl := wellAll_head hwl
  have w1 := wl.1
  cases w1 with
  | list hx W =>
  rename_i x vs
  obtain ⟨xs, hr, el⟩ := ints_of (Z := fun a => a = x) (ρ := []) (h := s₁.heap) h3 W
  have en : dk.1.name = u "law" := defOf_name hdef
  rw [en, mg_of Y.1 G.T.g (law_in w.params)] at hmg
  cases hmg
  cases r1 with
  | list g1 g2 g3 g4 =>
  have xm : x ≠ sysModules := by
    have := hlo x (by simp)
    rwa [beq_eq_false_iff_ne] at this
  refine go (law_any (n := _) hx Y ⟨mg, mb, G.T.g, G.T.b, G.T.builtins, G.T.nolimit⟩ hr (by lia) xm fun h' tk keep => ?_)
  exact ⟨.inl ⟨.bool true, .bool true, [], rfl, fun zz => rfl, .bool true, post_ok ws, fun zz => ⟨List.nodup_nil, fun zz m => nomatch m⟩⟩, OldK.of_keep keep, rfl, fun y hy => by rw [show (_ : Shared).gens = #[] from hg] at hy; simp at hy⟩
end Mine
end
theorem PySem.Challenge.cw_ov0092_01_holds : PySem.Challenge.rw_ov0092_01.Holds :=
  PySem.W.holds_law Mine.wsd Mine.row_holds
