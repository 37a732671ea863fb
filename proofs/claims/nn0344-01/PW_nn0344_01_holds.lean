import PyProof.Rows.All
import PyProof.DictTable
import PyProof.ListRange
import PyProof.Rows.ZipGen
import PyProof.Rows.Chain
import PyProof.Rows.RuleM_int
import PyProof.SumAny
import PyProof.Rows.SumAny
import PyProof.Rows.Range3
import KE.BitLaws
import OpenK.KLine
import KE.IntBitsLaws
import KE.KBits
import KE.KxText
import KE.KLcPair
import OpenK.AllK
import Wide.All
import PySem.Challenge.RW_nn0344_01
set_option Elab.async false
set_option genInjectivity false
set_option genSizeOf false
set_option compiler.extract_closed false
set_option bootstrap.genMatcherCode false
set_option genCtorIdx false
section
open PySem PySem.W PyProof.Rows PySem.Calls
set_option maxRecDepth 100000
set_option linter.all false
namespace NN
theorem leftMk {p q : Program} {loose : List Str} {Xt : Shared -> Bool} {α : Type} {Yf : Shared -> α} {Ya : World -> α} {N : Nat} {H₀ H₁ : Params -> Heap} {gs₀ gs₁ : Array GenState} {d₀ d₁ : Drawn} {k₀ k₁ : Nat} {m₀ : Nat} {ann : Option Value} {M : Nat} {S : World -> OsState -> Shared}
 (hS : ∀ w os, S w os = ⟨H₁ w.params, gs₁, d₁, k₁, os⟩)
 (open_ : ∀ w : World, (fencedOpening treeTable p w N).map (fun s => (s.heap, s.gens, s.drawn, s.toks)) = some (H₀ w.params, gs₀, d₀, k₀))
 (size : ∀ w : World, ((H₀ w.params).isNs mainGlobals && gs₀.size == 0, (H₀ w.params).objs.size, (H₀ w.params).nsMap mainGlobals "__annotations__") = (true, m₀, ann))
 (run : ∀ (w : World) (os : OsState), topRun treeTable p w m₀ ann M ⟨H₀ w.params, gs₀, d₀, k₀, os⟩ (topStub p) = some (S w os)) (le : Nat.ble M N = true)
 (l0 : ∀ w : World, (fun os => staticsOk (importedModules p.main.body) (H₀ w.params) (H₁ w.params) && namesBound p (H₁ w.params) && gensDone (S w os) && laidKept (H₀ w.params) (H₁ w.params)) = fun _ => true)
 (l1 : ∀ w : World, (fun os => seen ((recsOf q).map (·.name)) (ownsOf q) [] { S w os with gens := #[] }) = fun _ => expectedOf q)
 (l2 : ∀ w : World, (fun os => (S w os).heap.bltView) = fun _ => bltViewBooted)
 (l3 : ∀ w : World, (fun os => (S w os).heap.keysOk (looseW q loose) ((recsOf q).map (·.name)) ((litsOf q).map (·.1)) ((clssOf q (looseW q loose)).map (·.name)) && (S w os).heap.accountedOkI (importedModules p.main.body) && (S w os).heap.isNs mainGlobals && (S w os).heap.isNs builtinsNs && tablesOk q (S w os).heap && Xt (S w os) && (if true then (S w os).gens.size == 0 else !leftWithCleanup (S w os).gens)) = fun _ => true)
 (l4 : ∀ w : World, (fun os => tabsOk q (S w os)) = fun _ => true)
 (l5 : ∀ w : World, (fun os => pinSeenD q (drecsOf q) (S w os)) = fun _ => pinGoodD (drecsOf q))
 (l6 : ∀ w : World, (fun os => plainSeenE q (looseW q loose) (S w os)) = fun _ => plainGoodE q (looseW q loose))
 (l7 : ∀ w : World, (fun os => plainSeenD q loose (S w os)) = fun _ => plainGoodD q loose)
 (l8 : ∀ w : World, (fun os => wideSeen q (S w os)) = fun _ => wideGood q)
 (l9 : ∀ w : World, (fun os => clsSeenW q loose (S w os)) = fun _ => clsGoodW q loose)
 (l10 : ∀ w : World, (fun os => Yf (S w os)) = fun _ => Ya w) : LeftO p q loose Xt Yf Ya N :=
 LeftO.of_pieces open_ size (fun w os => (run w os).trans (congrArg some (hS w os))) le fun w => by
  funext os
  have e := hS w os
  have k0 := congrFun (l0 w) os
  have k1 := congrFun (l1 w) os
  have k2 := congrFun (l2 w) os
  have k3 := congrFun (l3 w) os
  have k4 := congrFun (l4 w) os
  have k5 := congrFun (l5 w) os
  have k6 := congrFun (l6 w) os
  have k7 := congrFun (l7 w) os
  have k8 := congrFun (l8 w) os
  have k9 := congrFun (l9 w) os
  have k10 := congrFun (l10 w) os
  rw [<- e]
  exact looks_pair k0 (looks_pair (looks_pair k1 (looks_pair k2 (looks_pair k3 (looks_pair k4 (looks_pair k5 (looks_pair k6 (looks_pair k7 (looks_pair k8 k9)))))))) k10)
end NN
end
section
open PySem PySem.W PyProof.Rows PySem.Calls
set_option maxRecDepth 100000
set_option linter.all false
set_option backward.match.sparseCases false
namespace NN
noncomputable def stm (i : Nat) : Stmt := PySem.Challenge.pw_nn0344_01.main.body.getD i default
noncomputable def met (i j : Nat) : Stmt := match stm i with
 | .ClassDef _ _ _ body .. => body.getD j default
 | _ => default
noncomputable def fdOf (st : Stmt) (q : Str) (dV pm cdv : Value) : FuncData := match st with
 | .FunctionDef name args body _ _ _ scope _ _ _ => fnOf name q args body scope dV .none .none pm none cdv .none
 | _ => default
noncomputable def yjw (st : Stmt) : List Stmt := match st with
 | .FunctionDef _ _ body .. => body
 | _ => []
noncomputable def yeu := fdOf (stm 161) "_law_number" .none (.str "law_nn0344_01" 2064) (.ref 1330)
noncomputable def ydm := yjw (stm 161)
noncomputable def ycl := fdOf (stm 176) "_law_reduced" .none (.str "law_nn0344_01" 2064) (.ref 1429)
noncomputable def yc6 := yjw (stm 176)
noncomputable def ydl := fdOf (stm 179) "_law_compared" .none (.str "law_nn0344_01" 2064) (.ref 1448)
noncomputable def ycr := yjw (stm 179)
noncomputable def ycv := fdOf (stm 181) "_law_chosen" .none (.str "law_nn0344_01" 2064) (.ref 1460)
noncomputable def ydn := yjw (stm 181)
noncomputable def yh9 := fdOf (stm 183) "law" .none (.str "law_nn0344_01" 2064) (.ref 1470)
noncomputable def yej := yjw (stm 183)
noncomputable def G3 : List (Str × Option Value) := [((Str.ofString "mask"), some (.ref 73)), ((Str.ofString "vec"), some (.ref 81)), ((Str.ofString "zeros"), some (.ref 88)), ((Str.ofString "all_x"), some (.ref 95)), ((Str.ofString "from_int"), some (.ref 109)), ((Str.ofString "is_known"), some (.ref 116)), ((Str.ofString "to_int"), some (.ref 123)), ((Str.ofString "code"), some (.ref 130)), ((Str.ofString "slice_vec"), some (.ref 137)), ((Str.ofString "put_slice"), some (.ref 144)), ((Str.ofString "concat"), some (.ref 151)), ((Str.ofString "extend"), some (.ref 158)), ((Str.ofString "z_to_x"), some (.ref 165)), ((Str.ofString "truth"), some (.ref 172)), ((Str.ofString "add"), some (.ref 264)), ((Str.ofString "sub"), some (.ref 271)), ((Str.ofString "mul"), some (.ref 278)), ((Str.ofString "neg"), some (.ref 285)), ((Str.ofString "quotient"), some (.ref 292)), ((Str.ofString "div"), some (.ref 299)), ((Str.ofString "mod"), some (.ref 306)), ((Str.ofString "raise_whole"), some (.ref 313)), ((Str.ofString "power"), some (.ref 320)), ((Str.ofString "shift_left"), some (.ref 327)), ((Str.ofString "shift_right"), some (.ref 334)), ((Str.ofString "shift_arith"), some (.ref 341)), ((Str.ofString "ordered"), some (.ref 348)), ((Str.ofString "less"), some (.ref 355)), ((Str.ofString "less_equal"), some (.ref 362)), ((Str.ofString "greater"), some (.ref 369)), ((Str.ofString "greater_equal"), some (.ref 376)), ((Str.ofString "one_bit"), some (.ref 383)), ((Str.ofString "bit_not"), some (.ref 390)), ((Str.ofString "bit_and"), some (.ref 397)), ((Str.ofString "bit_or"), some (.ref 404)), ((Str.ofString "bit_xor"), some (.ref 411)), ((Str.ofString "bit_xnor"), some (.ref 418)), ((Str.ofString "reduce_and"), some (.ref 425)), ((Str.ofString "reduce_nand"), some (.ref 432)), ((Str.ofString "reduce_or"), some (.ref 439)), ((Str.ofString "reduce_nor"), some (.ref 446)), ((Str.ofString "reduce_xor"), some (.ref 453)), ((Str.ofString "reduce_xnor"), some (.ref 460)), ((Str.ofString "logic_not"), some (.ref 467)), ((Str.ofString "logic_and"), some (.ref 474)), ((Str.ofString "logic_or"), some (.ref 481)), ((Str.ofString "equal"), some (.ref 488)), ((Str.ofString "not_equal"), some (.ref 495)), ((Str.ofString "case_equal"), some (.ref 502)), ((Str.ofString "case_not_equal"), some (.ref 509)), ((Str.ofString "choose"), some (.ref 523)), ((Str.ofString "unary"), some (.ref 530)), ((Str.ofString "arithmetic"), some (.ref 537)), ((Str.ofString "comparison"), some (.ref 544)), ((Str.ofString "bitwise"), some (.ref 551)), ((Str.ofString "binary"), some (.ref 558)), ((Str.ofString "whole_of"), some (.ref 565)), ((Str.ofString "picked"), some (.ref 579)), ((Str.ofString "conditional"), some (.ref 586)), ((Str.ofString "evaluate"), some (.ref 605)), ((Str.ofString "children"), some (.ref 735)), ((Str.ofString "last_select"), some (.ref 822)), ((Str.ofString "is_memory"), some (.ref 829)), ((Str.ofString "shape"), some (.ref 836)), ((Str.ofString "read_entry"), some (.ref 843)), ((Str.ofString "folds"), some (.ref 850)), ((Str.ofString "folded"), some (.ref 857)), ((Str.ofString "checked_width"), some (.ref 864)), ((Str.ofString "selected"), some (.ref 871)), ((Str.ofString "inner_join"), some (.ref 885)), ((Str.ofString "is_context_operator"), some (.ref 892)), ((Str.ofString "is_shift"), some (.ref 899)), ((Str.ofString "widen"), some (.ref 906)), ((Str.ofString "number_value"), some (.ref 913)), ((Str.ofString "entry_of"), some (.ref 934)), ((Str.ofString "base_entry"), some (.ref 941)), ((Str.ofString "select_width"), some (.ref 948)), ((Str.ofString "select_where"), some (.ref 955)), ((Str.ofString "named_type"), some (.ref 962)), ((Str.ofString "named_value"), some (.ref 969)), ((Str.ofString "system_type"), some (.ref 990)), ((Str.ofString "system_value_elabexpr"), some (.ref 997)), ((Str.ofString "joined_parts"), some (.ref 1004)), ((Str.ofString "copies"), some (.ref 1011)), ((Str.ofString "joined_width"), some (.ref 1018)), ((Str.ofString "joined_value"), some (.ref 1025)), ((Str.ofString "both_types"), some (.ref 1032)), ((Str.ofString "expr_type"), some (.ref 1039)), ((Str.ofString "unary_value"), some (.ref 1046)), ((Str.ofString "binary_value"), some (.ref 1053)), ((Str.ofString "build"), some (.ref 1060)), ((Str.ofString "self_determined"), some (.ref 1067)), ((Str.ofString "sized"), some (.ref 1074)), ((Str.ofString "constant_vec"), some (.ref 1081)), ((Str.ofString "constant"), some (.ref 1088)), ((Str.ofString "whole"), some (.ref 1095)), ((Str.ofString "net_kinds"), some (.ref 1102)), ((Str.ofString "_law_row"), some (.ref 1305)), ((Str.ofString "_law_next"), some (.ref 1312)), ((Str.ofString "_law_bits"), some (.ref 1319)), ((Str.ofString "_law_made"), some (.ref 1326)), ((Str.ofString "_law_number"), some (.ref 1331)), ((Str.ofString "_law_small"), some (.ref 1338)), ((Str.ofString "_law_select"), some (.ref 1345)), ((Str.ofString "_law_source"), some (.ref 1352)), ((Str.ofString "_law_fit"), some (.ref 1359)), ((Str.ofString "_law_figure"), some (.ref 1366)), ((Str.ofString "_law_codes"), some (.ref 1371)), ((Str.ofString "_law_vec"), some (.ref 1376)), ((Str.ofString "_law_truth"), some (.ref 1383)), ((Str.ofString "_law_type"), some (.ref 1388)), ((Str.ofString "_law_alone"), some (.ref 1395)), ((Str.ofString "_law_and"), some (.ref 1402)), ((Str.ofString "_law_not"), some (.ref 1409)), ((Str.ofString "_law_xor"), some (.ref 1416)), ((Str.ofString "_law_bit"), some (.ref 1423)), ((Str.ofString "_law_reduced"), some (.ref 1430)), ((Str.ofString "_law_power"), some (.ref 1437)), ((Str.ofString "_law_sum"), some (.ref 1444)), ((Str.ofString "_law_compared"), some (.ref 1449)), ((Str.ofString "_law_shifted"), some (.ref 1456)), ((Str.ofString "_law_chosen"), some (.ref 1461)), ((Str.ofString "_law_value"), some (.ref 1466)), ((Str.ofString "law"), some (.ref 1471)), ((Str.ofString "DesignError"), some (.ref 52)), ((Str.ofString "Store"), some (.ref 210)), ((Str.ofString "Context"), some (.ref 253)), ((Str.ofString "FunctionContext"), some (.ref 677)), ((Str.ofString "Signal"), some (.ref 1154)), ((Str.ofString "Design"), some (.ref 1217)), ((Str.ofString "Scope"), some (.ref 1294)), ((Str.ofString "MAX_WIDTH"), some (.int (65536) 1339))] ++ [((Str.ofString "abs"), none), ((Str.ofString "len"), none), ((Str.ofString "max"), none), ((Str.ofString "min"), none), ((Str.ofString "range"), none), ((Str.ofString "sum"), none), ((Str.ofString "tuple"), none), ((Str.ofString "zip"), none)]
end NN
end
section
set_option Elab.async false
set_option maxRecDepth 100000
set_option linter.all false
open PySem PySem.W PyProof.Rows PySem.Calls
namespace NN
noncomputable def dE (P : Params) (s : String) (t : Nat) (v : Value) : DictEntry := ⟨PyData.keyHash P (Str.ofString s), .str (Str.ofString s) t, v⟩
noncomputable def yf2 : BT → Nat → List Obj → BT
 | t, _, [] => t
 | t, n, o :: l => yf2 (t.ins n o) (n + 1) l
noncomputable def qS (s : String) (t : Nat) : Value := .str (Str.ofString s) t
noncomputable def qI (n : Int) : Value := .int n 0
noncomputable def qV (a : Addr) : Value := .ref a
noncomputable def qT (l : Array Value) : Obj := { cls := .type "tuple", dict := none, data := .seq l 0, slots := #[] }
noncomputable def qF (l : Array Value) : Obj := { cls := .none, dict := none, data := .fields l, slots := #[] }
noncomputable def qC (l : Array Value) : Obj := { cls := .type "code", dict := none, data := .fields l, slots := #[] }
noncomputable def qD (l : Array DictEntry) (n : Nat) : Obj := { cls := .type "dict", dict := none, data := .dict l n, slots := #[] }
noncomputable def qE (l : Array DictEntry) (n : Nat) : Obj := { cls := .none, dict := none, data := .dict l n, slots := #[] }
noncomputable def qW (m : Bool) (a : Addr) : Value := if m then qV a else .none
noncomputable def qc (s q : String) (t : Nat) (l n f : Int) (v u : Nat) (m : Bool) : Obj := qC #[qS s t, qS q (t + 1), qS "/claim/cut.py" (t + 2), qI l, qI n, qI 0, qI 0, qI f, qV v, .bool true, qI 181, qV (v + 1), .none, qW m (v + 2), qW m (v + 3), qV (if m then v + 4 else v + 2), qI u, qI l, qS "/claim/cut.py" (u + 1)]
noncomputable def qs : Nat → List String → List Value
 | _, [] => []
 | t, s :: r => qS s t :: qs (t + 1) r
noncomputable def qt (t : Nat) (l : List String) : Obj := qT (qs t l).toArray
noncomputable abbrev qM0 : Value := qS "law_nn0344_01" 2064
noncomputable abbrev qM1 : Value := qS "gateloom.errors" 194
noncomputable abbrev qM2 : Value := qS "gateloom.vec" 264
noncomputable abbrev qM3 : Value := qS "gateloom.store" 410
noncomputable abbrev qM4 : Value := qS "gateloom.vecarith" 537
noncomputable abbrev qM5 : Value := qS "gateloom.vecops" 710
noncomputable abbrev qM6 : Value := qS "gateloom.evaluate" 902
noncomputable abbrev qM7 : Value := qS "gateloom.funcs" 1070
noncomputable abbrev qM8 : Value := qS "gateloom.walks" 1212
noncomputable abbrev qM9 : Value := qS "gateloom.elabparts" 1337
noncomputable abbrev yft : Value := qS "gateloom.elabexpr" 1473
noncomputable abbrev yhm : Value := qS "gateloom.design" 1752
noncomputable abbrev yo0 : Value := qS "gateloom.scopes" 1945
noncomputable def qR (st : Stmt) (q : String) : Obj := { cls := .none, dict := none, data := .func { fdOf st (Str.ofString q) .none .none .none with globals := 0, builtins := 0 }, slots := #[] }
noncomputable def qN (st : Stmt) (q : String) (d m : Value) (c : Addr) : Obj := { cls := .type "function", dict := none, data := .func (fdOf st (Str.ofString q) d m (.ref c)), slots := #[] }
noncomputable def ygu (P : Params) : List DictEntry := [dE P "__name__" 165 qM0, dE P "__doc__" 166 .none, dE P "__package__" 167 .none, dE P "__loader__" 168 (.builtin "__main__.__loader__#opaque"), dE P "__spec__" 169 .none, dE P "__annotations__" 170 (qV 6), dE P "__builtins__" 171 (qV 4), dE P "__file__" 173 (qS "/claim/cut.py" 172), dE P "__cached__" 174 .none, dE P "_wall" 193 (qV 21), dE P "GateloomError" 231 (qV 39), dE P "DesignError" 247 (qV 52), dE P "LimitReached" 263 (qV 64), dE P "mask" 272 (qV 73), dE P "vec" 283 (qV 81), dE P "zeros" 290 (qV 88), dE P "all_x" 298 (qV 95), dE P "all_z" 305 (qV 102), dE P "from_int" 313 (qV 109), dE P "is_known" 320 (qV 116), dE P "to_int" 331 (qV 123), dE P "code" 339 (qV 130), dE P "slice_vec" 355 (qV 137), dE P "put_slice" 371 (qV 144), dE P "concat" 382 (qV 151), dE P "extend" 395 (qV 158), dE P "z_to_x" 402 (qV 165), dE P "truth" 409 (qV 172), dE P "Store" 477 (qV 210), dE P "Context" 536 (qV 253), dE P "add" 546 (qV 264), dE P "sub" 554 (qV 271), dE P "mul" 562 (qV 278), dE P "neg" 569 (qV 285), dE P "quotient" 578 (qV 292), dE P "div" 589 (qV 299), dE P "mod" 600 (qV 306), dE P "raise_whole" 613 (qV 313), dE P "power" 626 (qV 320), dE P "shift_left" 636 (qV 327), dE P "shift_right" 645 (qV 334), dE P "shift_arith" 660 (qV 341), dE P "ordered" 671 (qV 348), dE P "less" 681 (qV 355), dE P "less_equal" 691 (qV 362), dE P "greater" 700 (qV 369), dE P "greater_equal" 709 (qV 376), dE P "one_bit" 718 (qV 383), dE P "bit_not" 728 (qV 390), dE P "bit_and" 742 (qV 397), dE P "bit_or" 757 (qV 404), dE P "bit_xor" 766 (qV 411), dE P "bit_xnor" 774 (qV 418), dE P "reduce_and" 784 (qV 425), dE P "reduce_nand" 791 (qV 432), dE P "reduce_or" 798 (qV 439), dE P "reduce_nor" 805 (qV 446), dE P "reduce_xor" 814 (qV 453), dE P "reduce_xnor" 821 (qV 460), dE P "logic_not" 828 (qV 467), dE P "logic_and" 836 (qV 474), dE P "logic_or" 844 (qV 481), dE P "equal" 853 (qV 488), dE P "not_equal" 861 (qV 495), dE P "case_equal" 869 (qV 502), dE P "case_not_equal" 877 (qV 509), dE P "matches" 888 (qV 516), dE P "choose" 901 (qV 523), dE P "unary" 911 (qV 530), dE P "arithmetic" 921 (qV 537), dE P "comparison" 931 (qV 544), dE P "bitwise" 940 (qV 551), dE P "binary" 951 (qV 558), dE P "whole_of" 960 (qV 565), dE P "memory_word" 970 (qV 572), dE P "picked" 980 (qV 579), dE P "conditional" 990 (qV 586), dE P "bits_needed" 998 (qV 593), dE P "system_value" 1009 (qV 997), dE P "system_value_evaluate" 1010 (qV 600), dE P "evaluate" 1016 (qV 605), dE P "locate" 1025 (qV 612), dE P "holder_width" 1033 (qV 619), dE P "resolve_target" 1052 (qV 626), dE P "store_rows" 1069 (qV 633), dE P "DEPTH_LIMIT" 1073 (.int (24) 1072), dE P "FunctionContext" 1140 (qV 677), dE P "run_block" 1150 (qV 686), dE P "run_set" 1160 (qV 693), dE P "run_case" 1173 (qV 700), dE P "run_while" 1184 (qV 707), dE P "run_repeat" 1194 (qV 714), dE P "run_for" 1202 (qV 721), dE P "run_statement" 1211 (qV 728), dE P "children" 1221 (qV 735), dE P "subexpressions" 1232 (qV 742), dE P "expr_reads" 1241 (qV 749), dE P "expr_calls" 1250 (qV 756), dE P "target_indexes" 1259 (qV 763), dE P "target_writes" 1268 (qV 770), dE P "stmt_parts" 1274 (qV 775), dE P "substatements" 1285 (qV 782), dE P "stmt_targets" 1291 (qV 787), dE P "stmt_exprs" 1303 (qV 794), dE P "stmt_reads" 1314 (qV 801), dE P "stmt_writes" 1325 (qV 808), dE P "stmt_calls" 1336 (qV 815), dE P "MAX_WIDTH" 1340 (.int (65536) 1339), dE P "last_select" 1349 (qV 822), dE P "is_memory" 1357 (qV 829), dE P "shape" 1367 (qV 836), dE P "read_entry" 1377 (qV 843), dE P "folds" 1384 (qV 850), dE P "folded" 1392 (qV 857), dE P "checked_width" 1400 (qV 864), dE P "selected" 1409 (qV 871), dE P "text_vec" 1418 (qV 878), dE P "inner_join" 1425 (qV 885), dE P "is_context_operator" 1432 (qV 892), dE P "is_shift" 1439 (qV 899), dE P "widen" 1448 (qV 906), dE P "number_value" 1459 (qV 913), dE P "is_constant" 1472 (qV 920), dE P "path_names" 1485 (qV 927), dE P "entry_of" 1494 (qV 934), dE P "base_entry" 1504 (qV 941), dE P "select_width" 1512 (qV 948), dE P "select_where" 1530 (qV 955), dE P "named_type" 1540 (qV 962), dE P "named_value" 1553 (qV 969), dE P "function_of" 1563 (qV 976), dE P "call_value" 1575 (qV 983), dE P "system_type" 1585 (qV 990), dE P "system_value_elabexpr" 1597 (qV 997), dE P "joined_parts" 1607 (qV 1004), dE P "copies" 1616 (qV 1011), dE P "joined_width" 1626 (qV 1018), dE P "joined_value" 1637 (qV 1025), dE P "both_types" 1648 (qV 1032), dE P "expr_type" 1658 (qV 1039), dE P "unary_value" 1669 (qV 1046), dE P "binary_value" 1685 (qV 1053), dE P "build" 1699 (qV 1060), dE P "self_determined" 1709 (qV 1067), dE P "sized" 1720 (qV 1074), dE P "constant_vec" 1730 (qV 1081), dE P "constant" 1740 (qV 1088), dE P "whole" 1751 (qV 1095), dE P "net_kinds" 1759 (qV 1102), dE P "Signal" 1844 (qV 1154), dE P "Design" 1944 (qV 1217), dE P "Scope" 2063 (qV 1294), dE P "_law_row" 2076 (qV 1305), dE P "_law_next" 2083 (qV 1312), dE P "_law_bits" 2095 (qV 1319), dE P "_law_made" 2105 (qV 1326), dE P "_law_number" 2111 (qV 1331), dE P "_law_small" 2118 (qV 1338), dE P "_law_select" 2130 (qV 1345), dE P "_law_source" 2146 (qV 1352), dE P "_law_fit" 2155 (qV 1359), dE P "_law_figure" 2165 (qV 1366), dE P "_law_codes" 2171 (qV 1371), dE P "_law_vec" 2177 (qV 1376), dE P "_law_truth" 2184 (qV 1383), dE P "_law_type" 2190 (qV 1388), dE P "_law_alone" 2200 (qV 1395), dE P "_law_and" 2208 (qV 1402), dE P "_law_not" 2215 (qV 1409), dE P "_law_xor" 2223 (qV 1416), dE P "_law_bit" 2232 (qV 1423), dE P "_law_reduced" 2242 (qV 1430), dE P "_law_power" 2253 (qV 1437), dE P "_law_sum" 2264 (qV 1444), dE P "_law_compared" 2270 (qV 1449), dE P "_law_shifted" 2282 (qV 1456), dE P "_law_chosen" 2288 (qV 1461), dE P "_law_value" 2294 (qV 1466), dE P "law" 2300 (qV 1471)]
noncomputable def yb9 : List Value := [(qI 1), (qI 0), (qV 20), (qI 5), (qI 0), (qV 27), (qI 11), (qI 0), (qV 48), (qI 13), (qI 0), (qV 60), (qI 16), (qI 0), (qV 72), (qI 18), (qI 0), (qV 80), (qI 21), (qI 0), (qV 87), (qI 23), (qI 0), (qV 94), (qI 26), (qI 0), (qV 101), (qI 28), (qI 0), (qV 108), (qI 30), (qI 0), (qV 115), (qI 32), (qI 0), (qV 122), (qI 39), (qI 0), (qV 129), (qI 41), (qI 0), (qV 136), (qI 52), (qI 0), (qV 143), (qI 63), (qI 0), (qV 150), (qI 72), (qI 0), (qV 157), (qI 82), (qI 0), (qV 164), (qI 84), (qI 0), (qV 171), (qI 91), (qI 0), (qV 178), (qI 134), (qI 0), (qV 220), (qI 154), (qI 0), (qV 263), (qI 158), (qI 0), (qV 270), (qI 162), (qI 0), (qV 277), (qI 166), (qI 0), (qV 284), (qI 170), (qI 0), (qV 291), (qI 175), (qI 0), (qV 298), (qI 181), (qI 0), (qV 305), (qI 187), (qI 0), (qV 312), (qI 198), (qI 0), (qV 319), (qI 213), (qI 0), (qV 326), (qI 221), (qI 0), (qV 333), (qI 228), (qI 0), (qV 340), (qI 238), (qI 0), (qV 347), (qI 246), (qI 0), (qV 354), (qI 251), (qI 0), (qV 361), (qI 256), (qI 0), (qV 368), (qI 258), (qI 0), (qV 375), (qI 261), (qI 0), (qV 382), (qI 263), (qI 0), (qV 389), (qI 266), (qI 0), (qV 396), (qI 271), (qI 0), (qV 403), (qI 277), (qI 0), (qV 410), (qI 280), (qI 0), (qV 417), (qI 282), (qI 0), (qV 424), (qI 287), (qI 0), (qV 431), (qI 289), (qI 0), (qV 438), (qI 291), (qI 0), (qV 445), (qI 293), (qI 0), (qV 452), (qI 302), (qI 0), (qV 459), (qI 304), (qI 0), (qV 466), (qI 306), (qI 0), (qV 473), (qI 308), (qI 0), (qV 480), (qI 310), (qI 0), (qV 487), (qI 315), (qI 0), (qV 494), (qI 317), (qI 0), (qV 501), (qI 319), (qI 0), (qV 508), (qI 321), (qI 0), (qV 515), (qI 329), (qI 0), (qV 522), (qI 340), (qI 0), (qV 529), (qI 360), (qI 0), (qV 536), (qI 378), (qI 0), (qV 543), (qI 396), (qI 0), (qV 550), (qI 410), (qI 0), (qV 557), (qI 419), (qI 0), (qV 564), (qI 421), (qI 0), (qV 571), (qI 429), (qI 0), (qV 578), (qI 435), (qI 0), (qV 585), (qI 443), (qI 0), (qV 592), (qI 448), (qI 0), (qV 599), (qI 462), (qI 0), (qV 604), (qI 493), (qI 0), (qV 611), (qI 500), (qI 0), (qV 618), (qI 504), (qI 0), (qV 625), (qI 523), (qI 0), (qV 632), (qI 535), (qI 0), (qV 639), (qI 578), (qI 0), (qV 685), (qI 586), (qI 0), (qV 692), (qI 593), (qI 0), (qV 699), (qI 604), (qI 0), (qV 706), (qI 612), (qI 0), (qV 713), (qI 623), (qI 0), (qV 720), (qI 626), (qI 0), (qV 727), (qI 653), (qI 0), (qV 734), (qI 672), (qI 0), (qV 741), (qI 681), (qI 0), (qV 748), (qI 687), (qI 0), (qV 755), (qI 693), (qI 0), (qV 762), (qI 701), (qI 0), (qV 769), (qI 707), (qI 0), (qV 774), (qI 725), (qI 0), (qV 781), (qI 736), (qI 0), (qV 786), (qI 742), (qI 0), (qV 793), (qI 767), (qI 0), (qV 800), (qI 774), (qI 0), (qV 807), (qI 781), (qI 0), (qV 814), (qI 792), (qI 0), (qV 821), (qI 797), (qI 0), (qV 828), (qI 799), (qI 0), (qV 835), (qI 812), (qI 0), (qV 842), (qI 823), (qI 0), (qV 849), (qI 827), (qI 0), (qV 856), (qI 834), (qI 0), (qV 863), (qI 840), (qI 0), (qV 870), (qI 844), (qI 0), (qV 877), (qI 849), (qI 0), (qV 884), (qI 851), (qI 0), (qV 891), (qI 853), (qI 0), (qV 898), (qI 855), (qI 0), (qV 905), (qI 859), (qI 0), (qV 912), (qI 863), (qI 0), (qV 919), (qI 881), (qI 0), (qV 926), (qI 888), (qI 0), (qV 933), (qI 895), (qI 0), (qV 940), (qI 905), (qI 0), (qV 947), (qI 911), (qI 0), (qV 954), (qI 933), (qI 0), (qV 961), (qI 946), (qI 0), (qV 968), (qI 965), (qI 0), (qV 975), (qI 977), (qI 0), (qV 982), (qI 985), (qI 0), (qV 989), (qI 1003), (qI 0), (qV 996), (qI 1012), (qI 0), (qV 1003), (qI 1022), (qI 0), (qV 1010), (qI 1027), (qI 0), (qV 1017), (qI 1034), (qI 0), (qV 1024), (qI 1042), (qI 0), (qV 1031), (qI 1046), (qI 0), (qV 1038), (qI 1074), (qI 0), (qV 1045), (qI 1081), (qI 0), (qV 1052), (qI 1100), (qI 0), (qV 1059), (qI 1123), (qI 0), (qV 1066), (qI 1126), (qI 0), (qV 1073), (qI 1129), (qI 0), (qV 1080), (qI 1136), (qI 0), (qV 1087), (qI 1139), (qI 0), (qV 1094), (qI 1146), (qI 0), (qV 1101), (qI 1148), (qI 0), (qV 1108), (qI 1194), (qI 0), (qV 1164), (qI 1237), (qI 0), (qV 1227), (qI 1313), (qI 0), (qV 1304), (qI 1326), (qI 0), (qV 1311), (qI 1328), (qI 0), (qV 1318), (qI 1336), (qI 0), (qV 1325), (qI 1343), (qI 0), (qV 1330), (qI 1351), (qI 0), (qV 1337), (qI 1353), (qI 0), (qV 1344), (qI 1363), (qI 0), (qV 1351), (qI 1394), (qI 0), (qV 1358), (qI 1396), (qI 0), (qV 1365), (qI 1403), (qI 0), (qV 1370), (qI 1407), (qI 0), (qV 1375), (qI 1409), (qI 0), (qV 1382), (qI 1411), (qI 0), (qV 1387), (qI 1438), (qI 0), (qV 1394), (qI 1441), (qI 0), (qV 1401), (qI 1443), (qI 0), (qV 1408), (qI 1445), (qI 0), (qV 1415), (qI 1447), (qI 0), (qV 1422), (qI 1453), (qI 0), (qV 1429), (qI 1460), (qI 0), (qV 1436), (qI 1469), (qI 0), (qV 1443), (qI 1481), (qI 0), (qV 1448), (qI 1498), (qI 0), (qV 1455), (qI 1506), (qI 0), (qV 1460), (qI 1518), (qI 0), (qV 1465), (qI 1564), (qI 0), (qV 1470)]
noncomputable def yf3 : Obj := qT #[]
noncomputable def ho_7 : Obj := qF #[]
noncomputable def O0 (i : Nat) : Obj := [{ cls := (.type "builtin_function_or_method"), dict := none, data := .fields #[(.builtin "type.__prepare__"), (.type "type")], slots := #[] }, qT #[(qV 39)], { cls := (.type "type"), dict := none, data := .cls { name := "DesignError", bases := [(qV 39)], mro := [(qV 52), (qV 39), (.type "Exception"), (.type "BaseException"), (.type "object")], ns := 51, qualname := "DesignError", hasDict := true, slotNames := [], subclasses := [], abstract := false, collection := none, hasDel := false }, slots := #[(some (qV 43)), none, (some (qS "DesignError" 232)), (some (qS "DesignError" 240)), (some (.builtin "Exception.__new__")), (some (.bool true))] }, qT #[(.int (0) 273)], { cls := (.type "type"), dict := none, data := .cls { name := "Store", bases := [(.type "object")], mro := [(qV 210), (.type "object")], ns := 209, qualname := "Store", hasDict := true, slotNames := [], subclasses := [], abstract := false, collection := none, hasDel := false }, slots := #[none, none, (some (qS "Store" 412)), (some (qS "Store" 420)), (some (.builtin "object.__new__")), (some (.bool true))] }, qT #[(.int (0) 490)], { cls := (.type "type"), dict := none, data := .cls { name := "Context", bases := [(.type "object")], mro := [(qV 253), (.type "object")], ns := 252, qualname := "Context", hasDict := true, slotNames := [], subclasses := [(qV 677)], abstract := false, collection := none, hasDel := false }, slots := #[none, none, (some (qS "Context" 478)), (some (qS "Context" 486)), (some (.builtin "object.__new__")), (some (.bool true))] }, { cls := (.type "type"), dict := none, data := .cls { name := "FunctionContext", bases := [(qV 253)], mro := [(qV 677), (qV 253), (.type "object")], ns := 676, qualname := "FunctionContext", hasDict := true, slotNames := [], subclasses := [], abstract := false, collection := none, hasDel := false }, slots := #[(some (qV 634)), none, (some (qS "FunctionContext" 1074)), (some (qS "FunctionContext" 1082)), (some (.builtin "object.__new__")), (some (.bool true))] }, qc "net_kinds" "net_kinds" 1754 1146 0 3 1096 1757 true, qN (stm 151) "net_kinds" .none yhm 1101, { cls := (.type "type"), dict := none, data := .cls { name := "Signal", bases := [(.type "object")], mro := [(qV 1154), (.type "object")], ns := 1153, qualname := "Signal", hasDict := true, slotNames := [], subclasses := [], abstract := false, collection := none, hasDel := false }, slots := #[none, none, (some (qS "Signal" 1760)), (some (qS "Signal" 1768)), (some (.builtin "object.__new__")), (some (.bool true))] }, { cls := (.type "type"), dict := none, data := .cls { name := "Design", bases := [(.type "object")], mro := [(qV 1217), (.type "object")], ns := 1216, qualname := "Design", hasDict := true, slotNames := [], subclasses := [], abstract := false, collection := none, hasDel := false }, slots := #[none, none, (some (qS "Design" 1845)), (some (qS "Design" 1853)), (some (.builtin "object.__new__")), (some (.bool true))] }, { cls := (.type "type"), dict := none, data := .cls { name := "Scope", bases := [(.type "object")], mro := [(qV 1294), (.type "object")], ns := 1293, qualname := "Scope", hasDict := true, slotNames := [], subclasses := [], abstract := false, collection := none, hasDel := false }, slots := #[none, none, (some (qS "Scope" 1947)), (some (qS "Scope" 1955)), (some (.builtin "object.__new__")), (some (.bool true))] }].getD i (qT #[])
noncomputable def ho_36 (P : Params) : Obj := qD #[dE P "__module__" 239 qM1, dE P "__firstlineno__" 243 (.int (11) 242), dE P "__static_attributes__" 244 (qV 50), dE P "__doc__" 245 .none] 2
noncomputable def ho_136 (P : Params) : Obj := qD #[dE P "__module__" 419 qM3, dE P "__firstlineno__" 423 (.int (91) 422), dE P "__init__" 431 (qV 186), dE P "get" 441 (qV 193), dE P "word" 452 (qV 200), dE P "set_bits" 465 (qV 207), dE P "__static_attributes__" 470 (qV 208), dE P "__dict__" 472 (qV 211), dE P "__weakref__" 474 (qV 212), dE P "__doc__" 475 .none] 4
noncomputable def ho_166 (P : Params) : Obj := qD #[dE P "__module__" 485 qM3, dE P "__firstlineno__" 489 (.int (134) 488), dE P "__init__" 500 (qV 229), dE P "call" 509 (qV 236), dE P "next_random" 517 (qV 243), dE P "time_vec" 525 (qV 250), dE P "__static_attributes__" 529 (qV 251), dE P "__dict__" 531 (qV 254), dE P "__weakref__" 533 (qV 255), dE P "__doc__" 534 .none] 4
noncomputable def ho_426 (P : Params) : Obj := qD #[dE P "__module__" 1081 qM7, dE P "__firstlineno__" 1085 (.int (535) 1084), dE P "__init__" 1098 (qV 648), dE P "call" 1110 (qV 655), dE P "new_frame" 1116 (qV 660), dE P "burn" 1123 (qV 667), dE P "is_true" 1131 (qV 674), dE P "__static_attributes__" 1137 (qV 675), dE P "__doc__" 1138 .none] 2
noncomputable def ho_714 (P : Params) : Obj := qD #[dE P "__module__" 1767 yhm, dE P "__firstlineno__" 1771 (.int (1148) 1770), dE P "__init__" 1785 (qV 1116), dE P "is_net" 1792 (qV 1123), dE P "is_memory" 1799 (qV 1130), dE P "words" 1806 (qV 1137), dE P "offset" 1815 (qV 1144), dE P "place" 1824 (qV 1151), dE P "__static_attributes__" 1837 (qV 1152), dE P "__dict__" 1839 (qV 1155), dE P "__weakref__" 1841 (qV 1156), dE P "__doc__" 1842 .none] 4
noncomputable def ho_755 (P : Params) : Obj := qD #[dE P "__module__" 1852 yhm, dE P "__firstlineno__" 1856 (.int (1194) 1855), dE P "__init__" 1863 (qV 1172), dE P "add_signal" 1878 (qV 1179), dE P "add_scope" 1886 (qV 1186), dE P "add_routine" 1897 (qV 1193), dE P "add_process" 1908 (qV 1200), dE P "find" 1916 (qV 1207), dE P "routine" 1925 (qV 1214), dE P "__static_attributes__" 1937 (qV 1215), dE P "__dict__" 1939 (qV 1218), dE P "__weakref__" 1941 (qV 1219), dE P "__doc__" 1942 .none] 4
noncomputable def ho_805 (P : Params) : Obj := qD #[dE P "__module__" 1954 yo0, dE P "__firstlineno__" 1958 (.int (1237) 1957), dE P "__init__" 1969 (qV 1235), dE P "child" 1980 (qV 1242), dE P "declare" 1990 (qV 1249), dE P "module_scope" 1997 (qV 1256), dE P "lookup" 2006 (qV 1263), dE P "lookup_routine" 2016 (qV 1270), dE P "descend" 2027 (qV 1277), dE P "resolve" 2038 (qV 1284), dE P "answers_to" 2046 (qV 1291), dE P "__static_attributes__" 2056 (qV 1292), dE P "__dict__" 2058 (qV 1295), dE P "__weakref__" 2060 (qV 1296), dE P "__doc__" 2061 .none] 4
noncomputable def qh (s : Stmt) (a q : String) (t : Nat) (l n : Int) (v : Nat) (d m : Value) (x : List String) : List Obj := [yf3, ho_7, qt (t + 3) x, yf3, qR s q, qc a q t l n 3 v (t + 3 + x.length) true, qN s q d m (v + 5)]
noncomputable def qf (s : Stmt) (q : String) := qh s q q
noncomputable def qg (s : Stmt) (a q : String) (t : Nat) (l n : Int) (v : Nat) (d m : Value) : List Obj := [yf3, ho_7, qR s q, qc a q t l n 3 v (t + 3) false, qN s q d m (v + 3)]
noncomputable def g3 (l : List Obj) : Obj := l.getD 3 yf3
noncomputable def g4_ (l : List Obj) : Obj := l.getD 4 yf3
noncomputable def g5 (l : List Obj) : Obj := l.getD 5 yf3
noncomputable def g6 (l : List Obj) : Obj := l.getD 6 yf3
noncomputable def F0 := qf (stm 6) "mask" 266 16 1 67 .none qM2 ["w"]
noncomputable def F1 := qf (stm 7) "vec" 274 18 3 75 (qV 74) qM2 ["w", "a", "b", "full"]
noncomputable def F2 := qf (stm 8) "zeros" 284 21 1 82 .none qM2 ["w"]
noncomputable def F3 := qf (stm 9) "all_x" 291 23 1 89 .none qM2 ["w", "full"]
noncomputable def F4 := qf (stm 11) "from_int" 306 28 2 103 .none qM2 ["w", "n"]
noncomputable def F5 := qf (stm 12) "is_known" 314 30 1 110 .none qM2 ["v"]
noncomputable def F6 := qf (stm 13) "to_int" 321 32 2 117 .none qM2 ["v", "signed", "w", "a", "b"]
noncomputable def F7 := qf (stm 14) "code" 332 39 2 124 .none qM2 ["v", "i"]
noncomputable def F8 := qf (stm 15) "slice_vec" 340 41 3 131 .none qM2 ["v", "lo", "w", "first", "last", "inner", "shift", "outside", "a", "b"]
noncomputable def F9 := qf (stm 16) "put_slice" 356 52 3 138 .none qM2 ["v", "lo", "part", "first", "last", "inner", "skip", "keep", "a", "b"]
noncomputable def F10 := qf (stm 17) "concat" 372 63 1 145 .none qM2 ["vs", "w", "a", "b", "v"]
noncomputable def F11 := qf (stm 18) "extend" 383 72 3 152 .none qM2 ["v", "w", "signed", "fill", "top", "a", "b"]
noncomputable def F12 := qf (stm 19) "z_to_x" 396 82 1 159 .none qM2 ["v"]
noncomputable def F13 := qf (stm 20) "truth" 403 84 1 166 .none qM2 ["v"]
noncomputable def F14 := qh (met 22 0) "__init__" "Store.__init__" 424 93 2 180 .none qM3 ["self", "signals"]
noncomputable def F15 := qh (met 22 1) "get" "Store.get" 432 99 2 187 .none qM3 ["self", "key", "value", "signal"]
noncomputable def F16 := qh (met 22 3) "set_bits" "Store.set_bits" 453 116 5 201 .none qM3 ["self", "key", "place", "lo", "value", "old", "new"]
noncomputable def F17 := qh (met 23 0) "__init__" "Context.__init__" 491 136 4 223 (qV 222) qM3 ["self", "store", "frame", "now"]
noncomputable def F18 := qf (stm 25) "add" 539 154 2 258 .none qM4 ["u", "v"]
noncomputable def F19 := qf (stm 26) "sub" 547 158 2 265 .none qM4 ["u", "v"]
noncomputable def F20 := qf (stm 27) "mul" 555 162 2 272 .none qM4 ["u", "v"]
noncomputable def F21 := qf (stm 28) "neg" 563 166 1 279 .none qM4 ["v"]
noncomputable def F22 := qf (stm 29) "quotient" 570 170 2 286 .none qM4 ["m", "n", "found"]
noncomputable def F23 := qf (stm 30) "div" 579 175 3 293 .none qM4 ["u", "v", "signed", "m", "n"]
noncomputable def F24 := qf (stm 31) "mod" 590 181 3 300 .none qM4 ["u", "v", "signed", "m", "n"]
noncomputable def F25 := qf (stm 32) "raise_whole" 601 187 3 307 .none qM4 ["base", "exponent", "w", "full", "result", "square", "rest"]
noncomputable def F26 := qf (stm 33) "power" 614 198 4 314 .none qM4 ["u", "v", "usigned", "vsigned", "w", "base", "exponent"]
noncomputable def F27 := qf (stm 34) "shift_left" 627 213 2 321 .none qM4 ["u", "n", "w", "full"]
noncomputable def F28 := qf (stm 35) "shift_right" 637 221 2 328 .none qM4 ["u", "n", "w"]
noncomputable def F29 := qf (stm 36) "shift_arith" 646 228 3 335 .none qM4 ["u", "n", "signed", "w", "count", "fill", "top", "a", "b"]
noncomputable def F30 := qf (stm 37) "ordered" 661 238 3 342 .none qM4 ["u", "v", "signed", "m", "n"]
noncomputable def F31 := qf (stm 38) "less" 672 246 3 349 .none qM4 ["u", "v", "signed", "sign"]
noncomputable def F32 := qf (stm 39) "less_equal" 682 251 3 356 .none qM4 ["u", "v", "signed", "sign"]
noncomputable def F33 := qf (stm 40) "greater" 692 256 3 363 .none qM4 ["u", "v", "signed"]
noncomputable def F34 := qf (stm 41) "greater_equal" 701 258 3 370 .none qM4 ["u", "v", "signed"]
noncomputable def F35 := qf (stm 43) "one_bit" 712 261 1 377 .none qM5 ["c"]
noncomputable def F36 := qf (stm 44) "bit_not" 719 263 1 384 .none qM5 ["v", "w", "a", "b"]
noncomputable def F37 := qf (stm 45) "bit_and" 729 266 2 391 .none qM5 ["u", "v", "w", "a", "b", "c", "d", "both"]
noncomputable def F38 := qf (stm 46) "bit_or" 743 271 2 398 .none qM5 ["u", "v", "w", "a", "b", "c", "d", "either", "sure"]
noncomputable def F39 := qf (stm 47) "bit_xor" 758 277 2 405 .none qM5 ["u", "v", "b"]
noncomputable def F40 := qf (stm 48) "bit_xnor" 767 280 2 412 .none qM5 ["u", "v"]
noncomputable def F41 := qf (stm 49) "reduce_and" 775 282 1 419 .none qM5 ["v", "w", "a", "b"]
noncomputable def F42 := qf (stm 50) "reduce_nand" 785 287 1 426 .none qM5 ["v"]
noncomputable def F43 := qf (stm 51) "reduce_or" 792 289 1 433 .none qM5 ["v"]
noncomputable def F44 := qf (stm 52) "reduce_nor" 799 291 1 440 .none qM5 ["v"]
noncomputable def F45 := qf (stm 53) "reduce_xor" 806 293 1 447 .none qM5 ["v", "parity", "rest"]
noncomputable def F46 := qf (stm 54) "reduce_xnor" 815 302 1 454 .none qM5 ["v"]
noncomputable def F47 := qf (stm 55) "logic_not" 822 304 1 461 .none qM5 ["v"]
noncomputable def F48 := qf (stm 56) "logic_and" 829 306 2 468 .none qM5 ["u", "v"]
noncomputable def F49 := qf (stm 57) "logic_or" 837 308 2 475 .none qM5 ["u", "v"]
noncomputable def F50 := qf (stm 58) "equal" 845 310 2 482 .none qM5 ["u", "v", "unknown"]
noncomputable def F51 := qf (stm 59) "not_equal" 854 315 2 489 .none qM5 ["u", "v"]
noncomputable def F52 := qf (stm 60) "case_equal" 862 317 2 496 .none qM5 ["u", "v"]
noncomputable def F53 := qf (stm 61) "case_not_equal" 870 319 2 503 .none qM5 ["u", "v"]
noncomputable def F54 := qf (stm 63) "choose" 889 329 3 517 .none qM5 ["c", "t", "f", "found", "w", "same", "unknown"]
noncomputable def F55 := qf (stm 65) "unary" 904 340 2 524 .none qM6 ["op", "u"]
noncomputable def F56 := qf (stm 66) "arithmetic" 912 360 4 531 .none qM6 ["op", "u", "v", "signed"]
noncomputable def F57 := qf (stm 67) "comparison" 922 378 4 538 .none qM6 ["op", "u", "v", "signed"]
noncomputable def F58 := qf (stm 68) "bitwise" 932 396 3 545 .none qM6 ["op", "u", "v"]
noncomputable def F59 := qf (stm 69) "binary" 941 410 4 552 .none qM6 ["op", "u", "v", "signed", "value"]
noncomputable def F60 := qf (stm 70) "whole_of" 952 419 3 559 .none qM6 ["e", "signed", "ctx"]
noncomputable def F61 := qf (stm 72) "picked" 971 429 2 573 .none qM6 ["e", "ctx", "value", "index"]
noncomputable def F62 := qf (stm 73) "conditional" 981 435 2 580 .none qM6 ["e", "ctx", "condition", "known"]
noncomputable def F63 := qg (stm 77) "evaluate" "evaluate" 1011 462 2 601 .none qM6
noncomputable def F64 := qf (stm 93) "children" 1214 653 1 729 .none qM8 ["e", "tag"]
noncomputable def F65 := qf (stm 108) "last_select" 1341 792 1 816 .none qM9 ["e", "name", "index"]
noncomputable def F66 := qf (stm 109) "is_memory" 1350 797 2 823 .none qM9 ["scope", "entry"]
noncomputable def F67 := qf (stm 110) "shape" 1358 799 3 830 .none qM9 ["scope", "entry", "at", "signal"]
noncomputable def F68 := qf (stm 111) "read_entry" 1368 812 3 837 .none qM9 ["scope", "entry", "word", "width"]
noncomputable def F69 := qf (stm 112) "folds" 1378 823 1 844 .none qM9 ["e"]
noncomputable def F70 := qf (stm 113) "folded" 1385 827 1 851 .none qM9 ["e", "part"]
noncomputable def F71 := qf (stm 114) "checked_width" 1393 834 2 858 .none qM9 ["width", "at"]
noncomputable def F72 := qf (stm 115) "selected" 1401 840 3 865 .none qM9 ["value", "width", "where"]
noncomputable def F73 := qf (stm 117) "inner_join" 1419 849 1 879 .none qM9 ["e"]
noncomputable def F74 := qf (stm 118) "is_context_operator" 1426 851 1 886 .none qM9 ["op"]
noncomputable def F75 := qf (stm 119) "is_shift" 1433 853 1 893 .none qM9 ["op"]
noncomputable def F76 := qf (stm 120) "widen" 1440 855 3 900 .none qM9 ["value", "w", "signed"]
noncomputable def F77 := qf (stm 121) "number_value" 1449 859 3 907 .none qM9 ["e", "w", "signed", "number", "fill"]
noncomputable def F78 := qf (stm 125) "entry_of" 1486 888 2 928 .none yft ["scope", "e", "entry"]
noncomputable def F79 := qf (stm 126) "base_entry" 1495 895 2 935 .none yft ["scope", "e", "entry", "inner"]
noncomputable def F80 := qf (stm 127) "select_width" 1505 905 2 942 .none yft ["scope", "e"]
noncomputable def F81 := qf (stm 128) "select_where" 1513 911 3 949 .none yft ["scope", "e", "form", "msb", "lsb", "step", "left", "right", "width", "base", "index", "signed"]
noncomputable def F82 := qf (stm 129) "named_type" 1531 933 2 956 .none yft ["scope", "e", "entry", "inner"]
noncomputable def F83 := qf (stm 130) "named_value" 1541 946 2 963 .none yft ["scope", "e", "entry", "inner", "form", "word", "where"]
noncomputable def F84 := qf (stm 133) "system_type" 1576 985 2 984 .none yft ["scope", "e", "name", "count"]
noncomputable def F85 := qf (stm 134) "system_value" 1586 1003 2 991 .none yft ["scope", "e", "width", "args", "arg"]
noncomputable def F86 := qf (stm 136) "joined_parts" 1598 1012 2 998 .none yft ["scope", "e", "parts", "part"]
noncomputable def F87 := qf (stm 137) "copies" 1608 1022 2 1005 .none yft ["scope", "e", "n"]
noncomputable def F88 := qf (stm 138) "joined_width" 1617 1027 2 1012 .none yft ["scope", "e", "width", "part"]
noncomputable def F89 := qf (stm 139) "joined_value" 1627 1034 2 1019 .none yft ["scope", "e", "width", "parts", "part"]
noncomputable def F90 := qf (stm 140) "both_types" 1638 1042 3 1026 .none yft ["scope", "left", "right", "one", "other"]
noncomputable def F91 := qf (stm 141) "expr_type" 1649 1046 2 1033 .none yft ["scope", "e", "tag", "routine"]
noncomputable def F92 := qf (stm 142) "unary_value" 1659 1074 4 1040 .none yft ["scope", "e", "w", "signed", "op"]
noncomputable def F93 := qf (stm 143) "binary_value" 1670 1081 4 1047 .none yft ["scope", "e", "w", "signed", "op", "left", "right", "right_signed", "width", "both"]
noncomputable def F94 := qf (stm 144) "build" 1686 1100 4 1054 .none yft ["scope", "e", "w", "signed", "tag", "test", "then", "value"]
noncomputable def F95 := qf (stm 145) "self_determined" 1700 1123 2 1061 .none yft ["scope", "e", "width", "signed"]
noncomputable def F96 := qf (stm 146) "sized" 1710 1126 3 1068 .none yft ["scope", "e", "w", "width", "signed"]
noncomputable def F97 := qf (stm 147) "constant_vec" 1721 1129 3 1075 .none yft ["scope", "value", "at", "store"]
noncomputable def F98 := qf (stm 148) "constant" 1731 1136 2 1082 .none yft ["scope", "e", "value", "signed"]
noncomputable def F99 := qf (stm 149) "whole" 1741 1139 2 1089 .none yft ["scope", "e", "value", "signed", "number"]
noncomputable def F100 := qh (met 152 0) "__init__" "Signal.__init__" 1772 1150 8 1110 .none yhm ["self", "key", "path", "kind", "width", "signed", "msb", "lsb"]
noncomputable def F101 := qh (met 152 1) "is_net" "Signal.is_net" 1786 1164 1 1117 .none yhm ["self"]
noncomputable def F102 := qh (met 152 2) "is_memory" "Signal.is_memory" 1793 1167 1 1124 .none yhm ["self"]
noncomputable def F103 := qh (met 153 0) "__init__" "Design.__init__" 1857 1196 1 1166 .none yhm ["self"]
noncomputable def F104 := qh (met 153 1) "add_signal" "Design.add_signal" 1864 1209 8 1173 .none yhm ["self", "path", "kind", "width", "signed", "msb", "lsb", "at", "signal"]
noncomputable def F105 := qh (met 153 2) "add_scope" "Design.add_scope" 1879 1216 2 1180 .none yhm ["self", "path"]
noncomputable def F106 := qh (met 155 0) "__init__" "Scope.__init__" 1959 1239 5 1229 .none yo0 ["self", "design", "name", "parent", "kind"]
noncomputable def F107 := qh (met 155 2) "declare" "Scope.declare" 1981 1258 4 1243 .none yo0 ["self", "name", "entry", "at"]
noncomputable def F108 := qh (met 155 4) "lookup" "Scope.lookup" 1998 1266 2 1257 .none yo0 ["self", "name", "scope"]
noncomputable def F109 := qf (stm 157) "_law_row" 2066 1313 1 1299 .none qM0 ["script", "row", "cell", "number", "turn"]
noncomputable def F110 := qf (stm 158) "_law_next" 2077 1326 1 1306 .none qM0 ["row"]
noncomputable def F111 := qf (stm 159) "_law_bits" 2084 1328 2 1313 .none qM0 ["row", "wide", "bits", "turn", "number", "step"]
noncomputable def F112 := qf (stm 160) "_law_made" 2096 1336 1 1320 .none qM0 ["bits", "low", "high", "spot"]
noncomputable def F113 := qg (stm 161) "_law_number" "_law_number" 2106 1343 1 1327 .none qM0
noncomputable def F114 := qf (stm 162) "_law_small" 2112 1351 1 1332 .none qM0 ["figure"]
noncomputable def F115 := qf (stm 163) "_law_select" 2119 1353 2 1339 .none qM0 ["row", "deep", "name", "kind", "low", "wide"]
noncomputable def F116 := qf (stm 164) "_law_source" 2131 1363 2 1346 .none qM0 ["row", "deep", "kind", "op", "parts", "turn", "part", "joined", "one", "two"]
noncomputable def F117 := qf (stm 165) "_law_fit" 2147 1394 3 1353 .none qM0 ["bits", "wide", "signed"]
noncomputable def F118 := qf (stm 166) "_law_figure" 2156 1396 2 1360 .none qM0 ["bits", "signed", "total", "spot"]
noncomputable def F119 := qg (stm 167) "_law_codes" "_law_codes" 2166 1403 2 1367 .none qM0
noncomputable def F120 := qg (stm 168) "_law_vec" "_law_vec" 2172 1407 1 1372 .none qM0
noncomputable def F121 := qf (stm 169) "_law_truth" 2178 1409 1 1377 .none qM0 ["bits"]
noncomputable def F122 := qg (stm 170) "_law_type" "_law_type" 2185 1411 2 1384 .none qM0
noncomputable def F123 := qf (stm 171) "_law_alone" 2191 1438 2 1389 .none qM0 ["e", "env", "wide", "signed"]
noncomputable def F124 := qf (stm 172) "_law_and" 2201 1441 2 1396 .none qM0 ["one", "two"]
noncomputable def F125 := qf (stm 173) "_law_not" 2209 1443 1 1403 .none qM0 ["bit"]
noncomputable def F126 := qf (stm 174) "_law_xor" 2216 1445 2 1410 .none qM0 ["one", "two"]
noncomputable def F127 := qf (stm 175) "_law_bit" 2224 1447 3 1417 .none qM0 ["op", "one", "two"]
noncomputable def F128 := qf (stm 176) "_law_reduced" 2233 1453 2 1424 .none qM0 ["op", "bits", "found", "bit"]
noncomputable def F129 := qf (stm 177) "_law_power" 2243 1460 3 1431 .none qM0 ["one", "two", "wide", "total", "spot"]
noncomputable def F130 := qf (stm 178) "_law_sum" 2254 1469 4 1438 .none qM0 ["op", "one", "two", "wide", "cut"]
noncomputable def F131 := qg (stm 179) "_law_compared" "_law_compared" 2265 1481 3 1445 .none qM0
noncomputable def F132 := qf (stm 180) "_law_shifted" 2271 1498 4 1450 .none qM0 ["op", "left", "amount", "signed", "wide", "count"]
noncomputable def F133 := qg (stm 181) "_law_chosen" "_law_chosen" 2283 1506 2 1457 .none qM0
noncomputable def F134 := qg (stm 182) "_law_value" "_law_value" 2289 1518 4 1462 .none qM0
noncomputable def F135 := qg (stm 183) "law" "law" 2295 1564 1 1467 .none qM0
noncomputable def tr_0 (P : Params) : BT := yf2 .nil 0 [boot_o_0 P, boot_o_1 P, boot_o_2 P, boot_o_3 P, boot_o_4 P, boot_o_5 P, boot_o_6 P, boot_o_7 P, boot_o_8 P, boot_o_9 P, boot_o_10 P, yf3, qF (yb9.take 0).toArray, qC #[(qS "<module>" 182), (qS "<module>" 183), (qS "/claim/cut.py" 184), (qI 1), (qI 0), (qI 0), (qI 0), (qI 0), (qV 11), (.bool false), (qI 181), (qV 12), .none, .none, .none, .none, (qI 185), (qI 1), (qS "/claim/cut.py" 186)], { cls := (.type "frame"), dict := none, data := .plain, slots := #[(some (qV 13)), (some (qV 3)), (some (qV 3)), none, (some (qS "__main__" 164)), none, (some (qV 0))] }]
noncomputable def tr_1 (P : Params) : BT := yf2 ((((tr_0 P).ins 2 (qE #[dE P "type.__subclasses__.Exception.0" 228 (qI 39), dE P "type.__subclasses__.Exception.n" 229 (qI 1)] 2)).ins 3 (qD (((ygu P).take 11).set 0 (dE P "__name__" 165 qM1)).toArray 11)).ins 12 (qF (yb9.take 6).toArray)) 15 (qf (stm 0) "_wall" 187 1 1 15 .none (qS "__main__" 164) ["k"] ++ ([qT #[(.type "Exception")], (O0 0), qD #[dE P "__module__" 203 qM1, dE P "__qualname__" 205 (qS "GateloomError" 204), dE P "__firstlineno__" 207 (.int (5) 206), dE P "__init__" 220 (qV 36), dE P "__static_attributes__" 224 (qV 37)] 5, yf3, qF #[(qI 7), (qI 4), (qV 35)], qC #[(qS "GateloomError" 198), (qS "GateloomError" 199), (qS "/claim/cut.py" 200), (qI 5), (qI 0), (qI 0), (qI 0), (qI 0), (qV 25), (.bool false), (qI 181), (qV 26), .none, .none, .none, .none, (qI 201), (qI 5), (qS "/claim/cut.py" 202)], { cls := (.type "frame"), dict := none, data := .plain, slots := #[(some (qV 27)), (some (qV 3)), (some (qV 24)), none, (some qM1), none, (some (qV 0))] }, qT #[(.int (-1) 209), (qS "" 210)]] ++ (qh (met 2 0) "__init__" "GateloomError.__init__" 211 7 4 30 (qV 29) qM1 ["self", "kind", "at", "detail"] ++ [qt 221 ["at", "detail", "kind"], qD #[dE P "__module__" 203 qM1, dE P "__firstlineno__" 207 (.int (5) 206), dE P "__init__" 220 (qV 36), dE P "__static_attributes__" 224 (qV 37), dE P "__weakref__" 226 (qV 40), dE P "__doc__" 227 .none] 3, { cls := (.type "type"), dict := none, data := .cls { name := "GateloomError", bases := [(.type "Exception")], mro := [(qV 39), (.type "Exception"), (.type "BaseException"), (.type "object")], ns := 38, qualname := "GateloomError", hasDict := true, slotNames := [], subclasses := [], abstract := false, collection := none, hasDel := false }, slots := #[(some (qV 22)), none, (some (qS "GateloomError" 196)), (some (qS "GateloomError" 204)), (some (.builtin "Exception.__new__")), (some (.bool true))] }, { cls := (.type "getset_descriptor"), dict := none, data := .fields #[(qS "__weakref__" 225), (qV 39), (.builtin "ExceptionGroup.__weakref__"), .none], slots := #[] }, { cls := (.type "super"), dict := none, data := .fields #[(qV 39), (qV 39), (qV 39)], slots := #[] }, { cls := (.type "builtin_function_or_method"), dict := none, data := .fields #[(.builtin "object.__init_subclass__"), (qV 39)], slots := #[] }])))
noncomputable def tr_2 (P : Params) : BT := yf2 ((((tr_1 P).ins 3 (qD (((ygu P).take 12).set 0 (dE P "__name__" 165 qM1)).toArray 12)).ins 12 (qF (yb9.take 9).toArray)).ins 39 ({ cls := (.type "type"), dict := none, data := .cls { name := "GateloomError", bases := [(.type "Exception")], mro := [(qV 39), (.type "Exception"), (.type "BaseException"), (.type "object")], ns := 38, qualname := "GateloomError", hasDict := true, slotNames := [], subclasses := [(qV 52)], abstract := false, collection := none, hasDel := false }, slots := #[(some (qV 22)), none, (some (qS "GateloomError" 196)), (some (qS "GateloomError" 204)), (some (.builtin "Exception.__new__")), (some (.bool true))] })) 43 [(O0 1), (O0 0), qD #[dE P "__module__" 239 qM1, dE P "__qualname__" 241 (qS "DesignError" 240), dE P "__firstlineno__" 243 (.int (11) 242), dE P "__static_attributes__" 244 (qV 50)] 4, yf3, ho_7, qC #[(qS "DesignError" 234), (qS "DesignError" 235), (qS "/claim/cut.py" 236), (qI 11), (qI 0), (qI 0), (qI 0), (qI 0), (qV 46), (.bool false), (qI 181), (qV 47), .none, .none, .none, .none, (qI 237), (qI 11), (qS "/claim/cut.py" 238)], { cls := (.type "frame"), dict := none, data := .plain, slots := #[(some (qV 48)), (some (qV 3)), (some (qV 45)), none, (some qM1), none, (some (qV 0))] }, yf3, ho_36 P, (O0 2), { cls := (.type "super"), dict := none, data := .fields #[(qV 52), (qV 52), (qV 52)], slots := #[] }, { cls := (.type "builtin_function_or_method"), dict := none, data := .fields #[(.builtin "object.__init_subclass__"), (qV 52)], slots := #[] }]
noncomputable def tr_3 (P : Params) : BT := yf2 ((((tr_2 P).ins 3 (qD (((ygu P).take 18).set 0 (dE P "__name__" 165 qM2)).toArray 18)).ins 12 (qF (yb9.take 27).toArray)).ins 39 ({ cls := (.type "type"), dict := none, data := .cls { name := "GateloomError", bases := [(.type "Exception")], mro := [(qV 39), (.type "Exception"), (.type "BaseException"), (.type "object")], ns := 38, qualname := "GateloomError", hasDict := true, slotNames := [], subclasses := [(qV 52), (qV 64)], abstract := false, collection := none, hasDel := false }, slots := #[(some (qV 22)), none, (some (qS "GateloomError" 196)), (some (qS "GateloomError" 204)), (some (.builtin "Exception.__new__")), (some (.bool true))] })) 55 ([(O0 1), (O0 0), qD #[dE P "__module__" 255 qM1, dE P "__qualname__" 257 (qS "LimitReached" 256), dE P "__firstlineno__" 259 (.int (13) 258), dE P "__static_attributes__" 260 (qV 62)] 4, yf3, ho_7, qC #[(qS "LimitReached" 250), (qS "LimitReached" 251), (qS "/claim/cut.py" 252), (qI 13), (qI 0), (qI 0), (qI 0), (qI 0), (qV 58), (.bool false), (qI 181), (qV 59), .none, .none, .none, .none, (qI 253), (qI 13), (qS "/claim/cut.py" 254)], { cls := (.type "frame"), dict := none, data := .plain, slots := #[(some (qV 60)), (some (qV 3)), (some (qV 57)), none, (some qM1), none, (some (qV 0))] }, yf3, qD #[dE P "__module__" 255 qM1, dE P "__firstlineno__" 259 (.int (13) 258), dE P "__static_attributes__" 260 (qV 62), dE P "__doc__" 261 .none] 2, { cls := (.type "type"), dict := none, data := .cls { name := "LimitReached", bases := [(qV 39)], mro := [(qV 64), (qV 39), (.type "Exception"), (.type "BaseException"), (.type "object")], ns := 63, qualname := "LimitReached", hasDict := true, slotNames := [], subclasses := [], abstract := false, collection := none, hasDel := false }, slots := #[(some (qV 55)), none, (some (qS "LimitReached" 248)), (some (qS "LimitReached" 256)), (some (.builtin "Exception.__new__")), (some (.bool true))] }, { cls := (.type "super"), dict := none, data := .fields #[(qV 64), (qV 64), (qV 64)], slots := #[] }, { cls := (.type "builtin_function_or_method"), dict := none, data := .fields #[(.builtin "object.__init_subclass__"), (qV 64)], slots := #[] }] ++ (F0 ++ ([(O0 3)] ++ (F1 ++ (F2 ++ (F3 ++ (qf (stm 10) "all_z" 299 26 1 96 .none qM2 ["w"])))))))
noncomputable def tr_4 (P : Params) : BT := yf2 (((tr_3 P).ins 3 (qD (((ygu P).take 28).set 0 (dE P "__name__" 165 qM3)).toArray 28)).ins 12 (qF (yb9.take 57).toArray)) 103 (F4 ++ (F5 ++ (F6 ++ (F7 ++ (F8 ++ (F9 ++ (F10 ++ (F11 ++ (F12 ++ (F13))))))))))
noncomputable def tr_5 (P : Params) : BT := yf2 (((tr_4 P).ins 3 (qD (((ygu P).take 29).set 0 (dE P "__name__" 165 qM3)).toArray 29)).ins 12 (qF (yb9.take 60).toArray)) 173 ([yf3, (O0 0), qD #[dE P "__module__" 419 qM3, dE P "__qualname__" 421 (qS "Store" 420), dE P "__firstlineno__" 423 (.int (91) 422), dE P "__init__" 431 (qV 186), dE P "get" 441 (qV 193), dE P "word" 452 (qV 200), dE P "set_bits" 465 (qV 207), dE P "__static_attributes__" 470 (qV 208)] 8, yf3, qF #[(qI 93), (qI 4), (qV 185), (qI 99), (qI 4), (qV 192), (qI 108), (qI 4), (qV 199), (qI 116), (qI 4), (qV 206)], qC #[(qS "Store" 414), (qS "Store" 415), (qS "/claim/cut.py" 416), (qI 91), (qI 0), (qI 0), (qI 0), (qI 0), (qV 176), (.bool false), (qI 181), (qV 177), .none, .none, .none, .none, (qI 417), (qI 91), (qS "/claim/cut.py" 418)], { cls := (.type "frame"), dict := none, data := .plain, slots := #[(some (qV 178)), (some (qV 3)), (some (qV 175)), none, (some qM3), none, (some (qV 0))] }] ++ (F14 ++ (F15 ++ (qh (met 22 2) "word" "Store.word" 442 108 3 194 .none qM3 ["self", "key", "place", "words", "value"] ++ (F16 ++ [qt 466 ["memories", "random_seed", "signals", "values"], ho_136 P, (O0 4), { cls := (.type "getset_descriptor"), dict := none, data := .fields #[(qS "__dict__" 471), (qV 210), (.builtin "function.__dict__"), (.builtin "function.__dict__#set")], slots := #[] }, { cls := (.type "getset_descriptor"), dict := none, data := .fields #[(qS "__weakref__" 473), (qV 210), (.builtin "ExceptionGroup.__weakref__"), .none], slots := #[] }, { cls := (.type "super"), dict := none, data := .fields #[(qV 210), (qV 210), (qV 210)], slots := #[] }, { cls := (.type "builtin_function_or_method"), dict := none, data := .fields #[(.builtin "object.__init_subclass__"), (qV 210)], slots := #[] }])))))
noncomputable def tr_6 (P : Params) : BT := yf2 (((tr_5 P).ins 3 (qD (((ygu P).take 32).set 0 (dE P "__name__" 165 qM4)).toArray 32)).ins 12 (qF (yb9.take 69).toArray)) 215 ([yf3, (O0 0), qD #[dE P "__module__" 485 qM3, dE P "__qualname__" 487 (qS "Context" 486), dE P "__firstlineno__" 489 (.int (134) 488), dE P "__init__" 500 (qV 229), dE P "call" 509 (qV 236), dE P "next_random" 517 (qV 243), dE P "time_vec" 525 (qV 250), dE P "__static_attributes__" 529 (qV 251)] 8, yf3, qF #[(qI 136), (qI 4), (qV 228), (qI 141), (qI 4), (qV 235), (qI 144), (qI 4), (qV 242), (qI 151), (qI 4), (qV 249)], qC #[(qS "Context" 480), (qS "Context" 481), (qS "/claim/cut.py" 482), (qI 134), (qI 0), (qI 0), (qI 0), (qI 0), (qV 218), (.bool false), (qI 181), (qV 219), .none, .none, .none, .none, (qI 483), (qI 134), (qS "/claim/cut.py" 484)], { cls := (.type "frame"), dict := none, data := .plain, slots := #[(some (qV 220)), (some (qV 3)), (some (qV 217)), none, (some qM3), none, (some (qV 0))] }, (O0 5)] ++ (F17 ++ (qh (met 23 1) "call" "Context.call" 501 141 3 230 .none qM3 ["self", "number", "args"] ++ (qh (met 23 2) "next_random" "Context.next_random" 510 144 1 237 .none qM3 ["self", "seed"] ++ (qh (met 23 3) "time_vec" "Context.time_vec" 518 151 2 244 .none qM3 ["self", "width"] ++ ([qt 526 ["frame", "now", "store"], ho_166 P, { cls := (.type "type"), dict := none, data := .cls { name := "Context", bases := [(.type "object")], mro := [(qV 253), (.type "object")], ns := 252, qualname := "Context", hasDict := true, slotNames := [], subclasses := [], abstract := false, collection := none, hasDel := false }, slots := #[none, none, (some (qS "Context" 478)), (some (qS "Context" 486)), (some (.builtin "object.__new__")), (some (.bool true))] }, { cls := (.type "getset_descriptor"), dict := none, data := .fields #[(qS "__dict__" 530), (qV 253), (.builtin "function.__dict__"), (.builtin "function.__dict__#set")], slots := #[] }, { cls := (.type "getset_descriptor"), dict := none, data := .fields #[(qS "__weakref__" 532), (qV 253), (.builtin "ExceptionGroup.__weakref__"), .none], slots := #[] }, { cls := (.type "super"), dict := none, data := .fields #[(qV 253), (qV 253), (qV 253)], slots := #[] }, { cls := (.type "builtin_function_or_method"), dict := none, data := .fields #[(.builtin "object.__init_subclass__"), (qV 253)], slots := #[] }] ++ (F18 ++ (F19))))))))
noncomputable def tr_7 (P : Params) : BT := yf2 (((tr_6 P).ins 3 (qD (((ygu P).take 44).set 0 (dE P "__name__" 165 qM4)).toArray 44)).ins 12 (qF (yb9.take 105).toArray)) 272 (F20 ++ (F21 ++ (F22 ++ (F23 ++ (F24 ++ (F25 ++ (F26 ++ (F27 ++ (F28 ++ (F29 ++ (F30 ++ (F31))))))))))))
noncomputable def tr_8 (P : Params) : BT := yf2 (((tr_7 P).ins 3 (qD (((ygu P).take 56).set 0 (dE P "__name__" 165 qM5)).toArray 56)).ins 12 (qF (yb9.take 141).toArray)) 356 (F32 ++ (F33 ++ (F34 ++ (F35 ++ (F36 ++ (F37 ++ (F38 ++ (F39 ++ (F40 ++ (F41 ++ (F42 ++ (F43))))))))))))
noncomputable def tr_9 (P : Params) : BT := yf2 (((tr_8 P).ins 3 (qD (((ygu P).take 68).set 0 (dE P "__name__" 165 qM6)).toArray 68)).ins 12 (qF (yb9.take 177).toArray)) 440 (F44 ++ (F45 ++ (F46 ++ (F47 ++ (F48 ++ (F49 ++ (F50 ++ (F51 ++ (F52 ++ (F53 ++ (qf (stm 62) "matches" 878 321 3 510 .none qM5 ["kind", "u", "v", "free", "care"] ++ (F54))))))))))))
noncomputable def tr_10 (P : Params) : BT := yf2 (((tr_9 P).ins 3 (qD ((((ygu P).take 81).set 0 (dE P "__name__" 165 qM6)).set 78 (dE P "system_value" 1009 (qV 600))).toArray 81)).ins 12 (qF (yb9.take 213).toArray)) 524 (F55 ++ (F56 ++ (F57 ++ (F58 ++ (F59 ++ (F60 ++ (qf (stm 71) "memory_word" 961 421 2 566 .none qM6 ["e", "ctx", "index", "place"] ++ (F61 ++ (F62 ++ (qf (stm 74) "bits_needed" 991 443 1 587 .none qM6 ["n", "k"] ++ (qf (stm 75) "system_value" 999 448 2 594 .none qM6 ["e", "ctx", "w", "name", "n"] ++ (F63))))))))))))
noncomputable def tr_11 (P : Params) : BT := yf2 (((tr_10 P).ins 3 (qD ((((ygu P).take 86).set 0 (dE P "__name__" 165 qM7)).set 78 (dE P "system_value" 1009 (qV 600))).toArray 86)).ins 12 (qF (yb9.take 225).toArray)) 606 (qf (stm 78) "locate" 1017 493 2 606 .none qM6 ["where", "ctx", "index"] ++ (qf (stm 79) "holder_width" 1026 500 2 613 .none qM6 ["part", "ctx"] ++ (qf (stm 80) "resolve_target" 1034 504 2 620 .none qM6 ["lv", "ctx", "rows", "take", "part", "kind", "w", "ref", "word", "where", "place", "index", "lo"] ++ (qf (stm 81) "store_rows" 1053 523 3 627 .none qM6 ["rows", "value", "ctx", "changed", "kind", "ref", "place", "lo", "w", "take", "piece"]))))
noncomputable def tr_12 (P : Params) : BT := yf2 ((((tr_11 P).ins 3 (qD ((((ygu P).take 87).set 0 (dE P "__name__" 165 qM7)).set 78 (dE P "system_value" 1009 (qV 600))).toArray 87)).ins 12 (qF (yb9.take 228).toArray)).ins 253 ((O0 6))) 634 ([qT #[(qV 253)], (O0 0), qD #[dE P "__module__" 1081 qM7, dE P "__qualname__" 1083 (qS "FunctionContext" 1082), dE P "__firstlineno__" 1085 (.int (535) 1084), dE P "__init__" 1098 (qV 648), dE P "call" 1110 (qV 655), dE P "new_frame" 1116 (qV 660), dE P "burn" 1123 (qV 667), dE P "is_true" 1131 (qV 674), dE P "__static_attributes__" 1137 (qV 675)] 9, yf3, qF #[(qI 537), (qI 4), (qV 647), (qI 544), (qI 4), (qV 654), (qI 559), (qI 4), (qV 659), (qI 571), (qI 4), (qV 666), (qI 576), (qI 4), (qV 673)], qC #[(qS "FunctionContext" 1076), (qS "FunctionContext" 1077), (qS "/claim/cut.py" 1078), (qI 535), (qI 0), (qI 0), (qI 0), (qI 0), (qV 637), (.bool false), (qI 181), (qV 638), .none, .none, .none, .none, (qI 1079), (qI 535), (qS "/claim/cut.py" 1080)], { cls := (.type "frame"), dict := none, data := .plain, slots := #[(some (qV 639)), (some (qV 3)), (some (qV 636)), none, (some qM7), none, (some (qV 0))] }, qT #[(.int (10000) 1086)]] ++ (qh (met 84 0) "__init__" "FunctionContext.__init__" 1087 537 6 642 (qV 641) qM7 ["self", "design", "store", "frame", "now", "fuel"] ++ (qh (met 84 1) "call" "FunctionContext.call" 1099 544 3 649 .none qM7 ["self", "number", "args", "routine", "caller", "value"] ++ (qg (met 84 2) "new_frame" "FunctionContext.new_frame" 1111 559 3 656 .none qM7 ++ (qh (met 84 3) "burn" "FunctionContext.burn" 1117 571 1 661 .none qM7 ["self"] ++ (qh (met 84 4) "is_true" "FunctionContext.is_true" 1124 576 2 668 .none qM7 ["self", "e"] ++ [qt 1132 ["depth", "design", "frame", "fuel", "written"], ho_426 P, (O0 7), { cls := (.type "super"), dict := none, data := .fields #[(qV 677), (qV 677), (qV 677)], slots := #[] }, { cls := (.type "builtin_function_or_method"), dict := none, data := .fields #[(.builtin "object.__init_subclass__"), (qV 677)], slots := #[] }]))))))
noncomputable def tr_13 (P : Params) : BT := yf2 (((tr_12 P).ins 3 (qD ((((ygu P).take 99).set 0 (dE P "__name__" 165 qM8)).set 78 (dE P "system_value" 1009 (qV 600))).toArray 99)).ins 12 (qF (yb9.take 264).toArray)) 680 (qf (stm 85) "run_block" 1141 578 2 680 .none qM7 ["s", "ctx", "inner", "disabled"] ++ (qf (stm 86) "run_set" 1151 586 2 687 .none qM7 ["s", "ctx", "value", "key"] ++ (qf (stm 87) "run_case" 1161 593 2 694 .none qM7 ["s", "ctx", "value", "default", "labels", "inner", "label"] ++ (qf (stm 88) "run_while" 1174 604 4 701 .none qM7 ["condition", "body", "step", "ctx", "disabled"] ++ (qf (stm 89) "run_repeat" 1185 612 2 708 .none qM7 ["s", "ctx", "count", "disabled"] ++ (qf (stm 90) "run_for" 1195 623 2 715 .none qM7 ["s", "ctx"] ++ (qf (stm 91) "run_statement" 1203 626 2 722 .none qM7 ["s", "ctx", "tag"] ++ (F64 ++ (qf (stm 94) "subexpressions" 1222 672 1 736 .none qM8 ["e", "found", "stack", "node", "part"] ++ (qf (stm 95) "expr_reads" 1233 681 1 743 .none qM8 ["e", "keys", "node"] ++ (qf (stm 96) "expr_calls" 1242 687 1 750 .none qM8 ["e", "numbers", "node"] ++ (qf (stm 97) "target_indexes" 1251 693 1 757 .none qM8 ["lv", "found", "part"]))))))))))))
noncomputable def tr_14 (P : Params) : BT := yf2 (((tr_13 P).ins 3 (qD ((((ygu P).take 112).set 0 (dE P "__name__" 165 qM9)).set 78 (dE P "system_value" 1009 (qV 600))).toArray 112)).ins 12 (qF (yb9.take 300).toArray)) 764 (qf (stm 98) "target_writes" 1260 701 1 764 .none qM8 ["lv", "keys", "part"] ++ (qg (stm 99) "stmt_parts" "stmt_parts" 1269 707 1 771 .none qM8 ++ (qf (stm 100) "substatements" 1275 725 1 776 .none qM8 ["s", "found", "stack", "node", "part"] ++ (qg (stm 101) "stmt_targets" "stmt_targets" 1286 736 1 783 .none qM8 ++ (qf (stm 102) "stmt_exprs" 1292 742 1 788 .none qM8 ["s", "tag", "found", "row", "arg", "lv"] ++ (qf (stm 103) "stmt_reads" 1304 767 1 795 .none qM8 ["s", "keys", "node", "e", "key"] ++ (qf (stm 104) "stmt_writes" 1315 774 1 802 .none qM8 ["s", "keys", "node", "lv", "key"] ++ (qf (stm 105) "stmt_calls" 1326 781 1 809 .none qM8 ["s", "numbers", "node", "e", "number"] ++ (F65 ++ (F66 ++ (F67 ++ (F68))))))))))))
noncomputable def tr_15 (P : Params) : BT := yf2 (((tr_14 P).ins 3 (qD ((((ygu P).take 124).set 0 (dE P "__name__" 165 yft)).set 78 (dE P "system_value" 1009 (qV 600))).toArray 124)).ins 12 (qF (yb9.take 336).toArray)) 844 (F69 ++ (F70 ++ (F71 ++ (F72 ++ (qf (stm 116) "text_vec" 1410 844 1 872 .none qM9 ["text", "value", "sign"] ++ (F73 ++ (F74 ++ (F75 ++ (F76 ++ (F77 ++ (qf (stm 122) "is_constant" 1460 863 2 914 .none qM9 ["design", "e", "node", "numbers", "seen", "n", "body"] ++ (qf (stm 124) "path_names" 1475 881 2 921 .none yft ["scope", "e", "names", "name", "index"]))))))))))))
noncomputable def tr_16 (P : Params) : BT := yf2 (((tr_15 P).ins 3 (qD (((ygu P).take 135).set 0 (dE P "__name__" 165 yft)).toArray 135)).ins 12 (qF (yb9.take 369).toArray)) 928 (F78 ++ (F79 ++ (F80 ++ (F81 ++ (F82 ++ (F83 ++ (qf (stm 131) "function_of" 1554 965 2 970 .none yft ["scope", "e", "entry", "routine"] ++ (qf (stm 132) "call_value" 1564 977 2 977 .none yft ["scope", "e", "routine", "args", "at", "port"] ++ (F84 ++ (F85 ++ (F86)))))))))))
noncomputable def tr_17 (P : Params) : BT := yf2 (((tr_16 P).ins 3 (qD (((ygu P).take 147).set 0 (dE P "__name__" 165 yft)).toArray 147)).ins 12 (qF (yb9.take 405).toArray)) 1005 (F87 ++ (F88 ++ (F89 ++ (F90 ++ (F91 ++ (F92 ++ (F93 ++ (F94 ++ (F95 ++ (F96 ++ (F97 ++ (F98))))))))))))
noncomputable def tr_18 (P : Params) : BT := yf2 (((tr_17 P).ins 3 (qD (((ygu P).take 149).set 0 (dE P "__name__" 165 yhm)).toArray 149)).ins 12 (qF (yb9.take 411).toArray)) 1089 (F99 ++ [yf3, ho_7, yf3, yf3, qR (stm 151) "net_kinds", (O0 8), (O0 9)])
noncomputable def tr_19 (P : Params) : BT := yf2 (((tr_18 P).ins 3 (qD (((ygu P).take 150).set 0 (dE P "__name__" 165 yhm)).toArray 150)).ins 12 (qF (yb9.take 414).toArray)) 1103 ([yf3, (O0 0), qD #[dE P "__module__" 1767 yhm, dE P "__qualname__" 1769 (qS "Signal" 1768), dE P "__firstlineno__" 1771 (.int (1148) 1770), dE P "__init__" 1785 (qV 1116), dE P "is_net" 1792 (qV 1123), dE P "is_memory" 1799 (qV 1130), dE P "words" 1806 (qV 1137), dE P "offset" 1815 (qV 1144), dE P "place" 1824 (qV 1151), dE P "__static_attributes__" 1837 (qV 1152)] 10, yf3, qF #[(qI 1150), (qI 4), (qV 1115), (qI 1164), (qI 4), (qV 1122), (qI 1167), (qI 4), (qV 1129), (qI 1170), (qI 4), (qV 1136), (qI 1175), (qI 4), (qV 1143), (qI 1184), (qI 4), (qV 1150)], qC #[(qS "Signal" 1762), (qS "Signal" 1763), (qS "/claim/cut.py" 1764), (qI 1148), (qI 0), (qI 0), (qI 0), (qI 0), (qV 1106), (.bool false), (qI 181), (qV 1107), .none, .none, .none, .none, (qI 1765), (qI 1148), (qS "/claim/cut.py" 1766)], { cls := (.type "frame"), dict := none, data := .plain, slots := #[(some (qV 1108)), (some (qV 3)), (some (qV 1105)), none, (some yhm), none, (some (qV 0))] }] ++ (F100 ++ (F101 ++ (F102 ++ (qh (met 152 3) "words" "Signal.words" 1800 1170 1 1131 .none yhm ["self"] ++ (qh (met 152 4) "offset" "Signal.offset" 1807 1175 2 1138 .none yhm ["self", "index", "place"] ++ (qh (met 152 5) "place" "Signal.place" 1816 1184 2 1145 .none yhm ["self", "index", "place"] ++ [qt 1825 ["at", "first", "init", "key", "kind", "last", "lsb", "msb", "path", "scalar", "signed", "width"], ho_714 P, (O0 10), { cls := (.type "getset_descriptor"), dict := none, data := .fields #[(qS "__dict__" 1838), (qV 1154), (.builtin "function.__dict__"), (.builtin "function.__dict__#set")], slots := #[] }, { cls := (.type "getset_descriptor"), dict := none, data := .fields #[(qS "__weakref__" 1840), (qV 1154), (.builtin "ExceptionGroup.__weakref__"), .none], slots := #[] }, { cls := (.type "super"), dict := none, data := .fields #[(qV 1154), (qV 1154), (qV 1154)], slots := #[] }, { cls := (.type "builtin_function_or_method"), dict := none, data := .fields #[(.builtin "object.__init_subclass__"), (qV 1154)], slots := #[] }])))))))
noncomputable def tr_20 (P : Params) : BT := yf2 (((tr_19 P).ins 3 (qD (((ygu P).take 151).set 0 (dE P "__name__" 165 yhm)).toArray 151)).ins 12 (qF (yb9.take 417).toArray)) 1159 ([yf3, (O0 0), qD #[dE P "__module__" 1852 yhm, dE P "__qualname__" 1854 (qS "Design" 1853), dE P "__firstlineno__" 1856 (.int (1194) 1855), dE P "__init__" 1863 (qV 1172), dE P "add_signal" 1878 (qV 1179), dE P "add_scope" 1886 (qV 1186), dE P "add_routine" 1897 (qV 1193), dE P "add_process" 1908 (qV 1200), dE P "find" 1916 (qV 1207), dE P "routine" 1925 (qV 1214), dE P "__static_attributes__" 1937 (qV 1215)] 11, yf3, qF #[(qI 1196), (qI 4), (qV 1171), (qI 1209), (qI 4), (qV 1178), (qI 1216), (qI 4), (qV 1185), (qI 1220), (qI 4), (qV 1192), (qI 1223), (qI 4), (qV 1199), (qI 1226), (qI 4), (qV 1206), (qI 1229), (qI 4), (qV 1213)], qC #[(qS "Design" 1847), (qS "Design" 1848), (qS "/claim/cut.py" 1849), (qI 1194), (qI 0), (qI 0), (qI 0), (qI 0), (qV 1162), (.bool false), (qI 181), (qV 1163), .none, .none, .none, .none, (qI 1850), (qI 1194), (qS "/claim/cut.py" 1851)], { cls := (.type "frame"), dict := none, data := .plain, slots := #[(some (qV 1164)), (some (qV 3)), (some (qV 1161)), none, (some yhm), none, (some (qV 0))] }] ++ (F103 ++ (F104 ++ (F105 ++ (qh (met 153 3) "add_routine" "Design.add_routine" 1887 1220 5 1187 .none yhm ["self", "path", "is_function", "automatic", "at"] ++ (qh (met 153 4) "add_process" "Design.add_process" 1898 1223 5 1194 .none yhm ["self", "kind", "body", "path", "at"] ++ (qh (met 153 5) "find" "Design.find" 1909 1226 2 1201 .none yhm ["self", "path"] ++ (qh (met 153 6) "routine" "Design.routine" 1917 1229 2 1208 .none yhm ["self", "n", "routine"] ++ [qt 1926 ["assigns", "by_path", "gates", "maker", "ports", "processes", "routines", "scopes", "signals", "tops", "udps"], ho_755 P, (O0 11), { cls := (.type "getset_descriptor"), dict := none, data := .fields #[(qS "__dict__" 1938), (qV 1217), (.builtin "function.__dict__"), (.builtin "function.__dict__#set")], slots := #[] }, { cls := (.type "getset_descriptor"), dict := none, data := .fields #[(qS "__weakref__" 1940), (qV 1217), (.builtin "ExceptionGroup.__weakref__"), .none], slots := #[] }, { cls := (.type "super"), dict := none, data := .fields #[(qV 1217), (qV 1217), (qV 1217)], slots := #[] }, { cls := (.type "builtin_function_or_method"), dict := none, data := .fields #[(.builtin "object.__init_subclass__"), (qV 1217)], slots := #[] }]))))))))
noncomputable def tr_21 (P : Params) : BT := yf2 ((tr_20 P).ins 3 (qD (((ygu P).take 151).set 0 (dE P "__name__" 165 yo0)).toArray 151)) 1222 []
noncomputable def tr_22 (P : Params) : BT := yf2 (((tr_21 P).ins 3 (qD (((ygu P).take 152).set 0 (dE P "__name__" 165 yo0)).toArray 152)).ins 12 (qF (yb9.take 420).toArray)) 1222 ([yf3, (O0 0), qD #[dE P "__module__" 1954 yo0, dE P "__qualname__" 1956 (qS "Scope" 1955), dE P "__firstlineno__" 1958 (.int (1237) 1957), dE P "__init__" 1969 (qV 1235), dE P "child" 1980 (qV 1242), dE P "declare" 1990 (qV 1249), dE P "module_scope" 1997 (qV 1256), dE P "lookup" 2006 (qV 1263), dE P "lookup_routine" 2016 (qV 1270), dE P "descend" 2027 (qV 1277), dE P "resolve" 2038 (qV 1284), dE P "answers_to" 2046 (qV 1291), dE P "__static_attributes__" 2056 (qV 1292)] 13, yf3, qF #[(qI 1239), (qI 4), (qV 1234), (qI 1253), (qI 4), (qV 1241), (qI 1258), (qI 4), (qV 1248), (qI 1263), (qI 4), (qV 1255), (qI 1266), (qI 4), (qV 1262), (qI 1276), (qI 4), (qV 1269), (qI 1287), (qI 4), (qV 1276), (qI 1299), (qI 4), (qV 1283), (qI 1310), (qI 4), (qV 1290)], qC #[(qS "Scope" 1949), (qS "Scope" 1950), (qS "/claim/cut.py" 1951), (qI 1237), (qI 0), (qI 0), (qI 0), (qI 0), (qV 1225), (.bool false), (qI 181), (qV 1226), .none, .none, .none, .none, (qI 1952), (qI 1237), (qS "/claim/cut.py" 1953)], { cls := (.type "frame"), dict := none, data := .plain, slots := #[(some (qV 1227)), (some (qV 3)), (some (qV 1224)), none, (some yo0), none, (some (qV 0))] }] ++ (F106 ++ (qh (met 155 1) "child" "Scope.child" 1970 1253 4 1236 .none yo0 ["self", "name", "kind", "at", "inner"] ++ (F107 ++ (qh (met 155 3) "module_scope" "Scope.module_scope" 1991 1263 1 1250 .none yo0 ["self"] ++ (F108 ++ (qh (met 155 5) "lookup_routine" "Scope.lookup_routine" 2007 1276 2 1264 .none yo0 ["self", "name", "scope", "entry"] ++ (qh (met 155 6) "descend" "Scope.descend" 2017 1287 2 1271 .none yo0 ["self", "parts", "scope", "entry", "name"] ++ (qh (met 155 7) "resolve" "Scope.resolve" 2028 1299 3 1278 .none yo0 ["self", "parts", "at", "scope", "entry"] ++ (qh (met 155 8) "answers_to" "Scope.answers_to" 2039 1310 2 1285 .none yo0 ["self", "name"] ++ [qt 2047 ["design", "entries", "kind", "module_name", "name", "nettype", "number", "parent", "path"], ho_805 P, (O0 12), { cls := (.type "getset_descriptor"), dict := none, data := .fields #[(qS "__dict__" 2057), (qV 1294), (.builtin "function.__dict__"), (.builtin "function.__dict__#set")], slots := #[] }, { cls := (.type "getset_descriptor"), dict := none, data := .fields #[(qS "__weakref__" 2059), (qV 1294), (.builtin "ExceptionGroup.__weakref__"), .none], slots := #[] }, { cls := (.type "super"), dict := none, data := .fields #[(qV 1294), (qV 1294), (qV 1294)], slots := #[] }, { cls := (.type "builtin_function_or_method"), dict := none, data := .fields #[(.builtin "object.__init_subclass__"), (qV 1294)], slots := #[] }]))))))))))
noncomputable def tr_23 (P : Params) : BT := yf2 (((tr_22 P).ins 3 (qD ((ygu P).take 164).toArray 164)).ins 12 (qF (yb9.take 456).toArray)) 1299 (F109 ++ (F110 ++ (F111 ++ (F112 ++ (F113 ++ (F114 ++ (F115 ++ (F116 ++ (F117 ++ (F118 ++ (F119 ++ (F120))))))))))))
noncomputable def tr_24 (P : Params) : BT := yf2 (((tr_23 P).ins 3 (qD ((ygu P).take 177).toArray 177)).ins 12 (qF (yb9.take 495).toArray)) 1377 (F121 ++ (F122 ++ (F123 ++ (F124 ++ (F125 ++ (F126 ++ (F127 ++ (F128 ++ (F129 ++ (F130 ++ (F131 ++ (F132 ++ (F133)))))))))))))
noncomputable def tr_25 (P : Params) : BT := yf2 (((tr_24 P).ins 3 (qD ((ygu P).take 179).toArray 179)).ins 12 (qF (yb9.take 501).toArray)) 1462 (F134 ++ (F135))
noncomputable def yfj : Env := { scope := PySem.Challenge.pw_nn0344_01.main.scope, locals := mainNs, globals := mainNs, cells := [], code := .ref 13, frame := some 14 }
noncomputable def hB : List Stmt := behindTheImports PySem.Challenge.pw_nn0344_01
noncomputable abbrev hC : Code := .body hB yfj
noncomputable abbrev hL : Life := ⟨[], [], [], 0, [], [], false, #[], [], 0, false, false, false, 0, [2000, 10, 10], false, 0, true, [], [], 0, false⟩
noncomputable abbrev hT_0 (w : World) (os : OsState) : SharedT := ⟨tr_0 w.params, 15, hL, Array.mk [], ⟨0, 0, 0, 0⟩, 187, os⟩
noncomputable abbrev hT_1 (w : World) (os : OsState) : SharedT := ⟨tr_1 w.params, 43, hL, Array.mk [], ⟨0, 0, 0, 0⟩, 232, os⟩
noncomputable abbrev hT_2 (w : World) (os : OsState) : SharedT := ⟨tr_2 w.params, 55, hL, Array.mk [], ⟨0, 0, 0, 0⟩, 248, os⟩
noncomputable abbrev hT_3 (w : World) (os : OsState) : SharedT := ⟨tr_3 w.params, 103, hL, Array.mk [], ⟨0, 0, 0, 0⟩, 306, os⟩
noncomputable abbrev hT_4 (w : World) (os : OsState) : SharedT := ⟨tr_4 w.params, 173, hL, Array.mk [], ⟨0, 0, 0, 0⟩, 412, os⟩
noncomputable abbrev hT_5 (w : World) (os : OsState) : SharedT := ⟨tr_5 w.params, 215, hL, Array.mk [], ⟨0, 0, 0, 0⟩, 478, os⟩
noncomputable abbrev hT_6 (w : World) (os : OsState) : SharedT := ⟨tr_6 w.params, 272, hL, Array.mk [], ⟨0, 0, 0, 0⟩, 555, os⟩
noncomputable abbrev hT_7 (w : World) (os : OsState) : SharedT := ⟨tr_7 w.params, 356, hL, Array.mk [], ⟨0, 0, 0, 0⟩, 682, os⟩
noncomputable abbrev hT_8 (w : World) (os : OsState) : SharedT := ⟨tr_8 w.params, 440, hL, Array.mk [], ⟨0, 0, 0, 0⟩, 799, os⟩
noncomputable abbrev hT_9 (w : World) (os : OsState) : SharedT := ⟨tr_9 w.params, 524, hL, Array.mk [], ⟨0, 0, 0, 0⟩, 904, os⟩
noncomputable abbrev hT_10 (w : World) (os : OsState) : SharedT := ⟨tr_10 w.params, 606, hL, Array.mk [], ⟨0, 0, 0, 0⟩, 1017, os⟩
noncomputable abbrev hT_11 (w : World) (os : OsState) : SharedT := ⟨tr_11 w.params, 634, hL, Array.mk [], ⟨0, 0, 0, 0⟩, 1074, os⟩
noncomputable abbrev hT_12 (w : World) (os : OsState) : SharedT := ⟨tr_12 w.params, 680, hL, Array.mk [], ⟨0, 0, 0, 0⟩, 1141, os⟩
noncomputable abbrev hT_13 (w : World) (os : OsState) : SharedT := ⟨tr_13 w.params, 764, hL, Array.mk [], ⟨0, 0, 0, 0⟩, 1260, os⟩
noncomputable abbrev hT_14 (w : World) (os : OsState) : SharedT := ⟨tr_14 w.params, 844, hL, Array.mk [], ⟨0, 0, 0, 0⟩, 1378, os⟩
noncomputable abbrev hT_15 (w : World) (os : OsState) : SharedT := ⟨tr_15 w.params, 928, hL, Array.mk [], ⟨0, 0, 0, 0⟩, 1486, os⟩
noncomputable abbrev hT_16 (w : World) (os : OsState) : SharedT := ⟨tr_16 w.params, 1005, hL, Array.mk [], ⟨0, 0, 0, 0⟩, 1608, os⟩
noncomputable abbrev hT_17 (w : World) (os : OsState) : SharedT := ⟨tr_17 w.params, 1089, hL, Array.mk [], ⟨0, 0, 0, 0⟩, 1741, os⟩
noncomputable abbrev hT_18 (w : World) (os : OsState) : SharedT := ⟨tr_18 w.params, 1103, hL, Array.mk [], ⟨0, 0, 0, 0⟩, 1760, os⟩
noncomputable abbrev hT_19 (w : World) (os : OsState) : SharedT := ⟨tr_19 w.params, 1159, hL, Array.mk [], ⟨0, 0, 0, 0⟩, 1845, os⟩
noncomputable abbrev hT_20 (w : World) (os : OsState) : SharedT := ⟨tr_20 w.params, 1222, hL, Array.mk [], ⟨0, 0, 0, 0⟩, 1945, os⟩
noncomputable abbrev hT_21 (w : World) (os : OsState) : SharedT := ⟨tr_21 w.params, 1222, hL, Array.mk [], ⟨0, 0, 0, 0⟩, 1947, os⟩
noncomputable abbrev hT_22 (w : World) (os : OsState) : SharedT := ⟨tr_22 w.params, 1299, hL, Array.mk [], ⟨0, 0, 0, 0⟩, 2064, os⟩
noncomputable abbrev hT_23 (w : World) (os : OsState) : SharedT := ⟨tr_23 w.params, 1377, hL, Array.mk [], ⟨0, 0, 0, 0⟩, 2178, os⟩
noncomputable abbrev hT_24 (w : World) (os : OsState) : SharedT := ⟨tr_24 w.params, 1462, hL, Array.mk [], ⟨0, 0, 0, 0⟩, 2289, os⟩
noncomputable abbrev yn9 (w : World) (os : OsState) : SharedT := ⟨tr_25 w.params, 1472, hL, Array.mk [], ⟨0, 0, 0, 0⟩, 2301, os⟩
noncomputable def hS_0 : List Stmt := (hB.drop 0).take 3
noncomputable def hS_1 : List Stmt := (hB.drop 3).take 1
noncomputable def hS_2 : List Stmt := (hB.drop 4).take 7
noncomputable def hS_3 : List Stmt := (hB.drop 11).take 11
noncomputable def hS_4 : List Stmt := (hB.drop 22).take 1
noncomputable def hS_5 : List Stmt := (hB.drop 23).take 4
noncomputable def hS_6 : List Stmt := (hB.drop 27).take 12
noncomputable def hS_7 : List Stmt := (hB.drop 39).take 13
noncomputable def hS_8 : List Stmt := (hB.drop 52).take 13
noncomputable def hS_9 : List Stmt := (hB.drop 65).take 13
noncomputable def hS_10 : List Stmt := (hB.drop 78).take 6
noncomputable def hS_11 : List Stmt := (hB.drop 84).take 1
noncomputable def hS_12 : List Stmt := (hB.drop 85).take 13
noncomputable def hS_13 : List Stmt := (hB.drop 98).take 14
noncomputable def hS_14 : List Stmt := (hB.drop 112).take 13
noncomputable def hS_15 : List Stmt := (hB.drop 125).take 12
noncomputable def hS_16 : List Stmt := (hB.drop 137).take 12
noncomputable def hS_17 : List Stmt := (hB.drop 149).take 3
noncomputable def hS_18 : List Stmt := (hB.drop 152).take 1
noncomputable def hS_19 : List Stmt := (hB.drop 153).take 1
noncomputable def hS_20 : List Stmt := (hB.drop 154).take 1
noncomputable def hS_21 : List Stmt := (hB.drop 155).take 1
noncomputable def hS_22 : List Stmt := (hB.drop 156).take 13
noncomputable def hS_23 : List Stmt := (hB.drop 169).take 13
noncomputable def hS_24 : List Stmt := (hB.drop 182).take 2
theorem hp_pre (w : World) : (fun os => topGo treeTable PySem.Challenge.pw_nn0344_01 w 11 (some (.ref 6)) 12 ⟨boot_heap w.params, Array.mk [], boot_drawn, boot_toks, os⟩ (topStub PySem.Challenge.pw_nn0344_01)) = fun os => some ((hT_0 w os).abs, ⟨denote treeTable hC, hC, ⟨0, 0, 0, 0⟩, [topFrame ⟨0, 0, 0, 0⟩]⟩) := by
 rw [PySem.W.Fast.te15667345088766844465, PySem.W.Fast.te14364793385576792824, PySem.W.Fast.te11892475500146522536]; kernel_rfl
theorem hp_block (w : World) : (fun os => segRun treeTable PySem.Challenge.pw_nn0344_01 w 11 (some (.ref 6)) 1 1 (hT_0 w os).abs (blockOf hB yfj hC ⟨0, 0, 0, 0⟩ [topFrame ⟨0, 0, 0, 0⟩])) = fun os => some (.next, (hT_0 w os).abs, hC, ⟨0, 0, 0, 0⟩) := by
 rw [PySem.W.Fast.te14374325043358763698, PySem.W.Fast.te14364793385576792824]; kernel_rfl
theorem hp_0 (w : World) : (fun os => segRunT treeTable PySem.Challenge.pw_nn0344_01 w 11 (some (.ref 6)) 1 279 (hT_0 w os) (piecesOf hS_0 yfj hC ⟨0, 0, 0, 0⟩ [topFrame ⟨0, 0, 0, 0⟩])) = fun os => some (.next, hT_1 w os, hC, ⟨5, 0, 10, 28⟩) := by
 rw [PySem.W.Fast.te10110043849684766642, PySem.W.Fast.te14364793385576792824]; kernel_rfl
theorem hp_1 (w : World) : (fun os => segRunT treeTable PySem.Challenge.pw_nn0344_01 w 11 (some (.ref 6)) 1 214 (hT_1 w os) (piecesOf hS_1 yfj hC ⟨5, 0, 10, 28⟩ [topFrame ⟨0, 0, 0, 0⟩])) = fun os => some (.next, hT_2 w os, hC, ⟨11, 0, 12, 8⟩) := by
 rw [PySem.W.Fast.te10110043849684766642, PySem.W.Fast.te14364793385576792824]; kernel_rfl
theorem hp_2 (w : World) : (fun os => segRunT treeTable PySem.Challenge.pw_nn0344_01 w 11 (some (.ref 6)) 1 374 (hT_2 w os) (piecesOf hS_2 yfj hC ⟨11, 0, 12, 8⟩ [topFrame ⟨0, 0, 0, 0⟩])) = fun os => some (.next, hT_3 w os, hC, ⟨26, 0, 27, 26⟩) := by
 rw [PySem.W.Fast.te10110043849684766642, PySem.W.Fast.te14364793385576792824]; kernel_rfl
theorem hp_3 (w : World) : (fun os => segRunT treeTable PySem.Challenge.pw_nn0344_01 w 11 (some (.ref 6)) 1 334 (hT_3 w os) (piecesOf hS_3 yfj hC ⟨26, 0, 27, 26⟩ [topFrame ⟨0, 0, 0, 0⟩])) = fun os => some (.next, hT_4 w os, hC, ⟨90, 0, 90, 8⟩) := by
 rw [PySem.W.Fast.te10110043849684766642, PySem.W.Fast.te14364793385576792824]; kernel_rfl
theorem hp_4 (w : World) : (fun os => segRunT treeTable PySem.Challenge.pw_nn0344_01 w 11 (some (.ref 6)) 1 332 (hT_4 w os) (piecesOf hS_4 yfj hC ⟨90, 0, 90, 8⟩ [topFrame ⟨0, 0, 0, 0⟩])) = fun os => some (.next, hT_5 w os, hC, ⟨91, 0, 133, 19⟩) := by
 rw [PySem.W.Fast.te10110043849684766642, PySem.W.Fast.te14364793385576792824]; kernel_rfl
theorem hp_5 (w : World) : (fun os => segRunT treeTable PySem.Challenge.pw_nn0344_01 w 11 (some (.ref 6)) 1 395 (hT_5 w os) (piecesOf hS_5 yfj hC ⟨91, 0, 133, 19⟩ [topFrame ⟨0, 0, 0, 0⟩])) = fun os => some (.next, hT_6 w os, hC, ⟨158, 0, 161, 38⟩) := by
 rw [PySem.W.Fast.te10110043849684766642, PySem.W.Fast.te14364793385576792824]; kernel_rfl
theorem hp_6 (w : World) : (fun os => segRunT treeTable PySem.Challenge.pw_nn0344_01 w 11 (some (.ref 6)) 1 392 (hT_6 w os) (piecesOf hS_6 yfj hC ⟨158, 0, 161, 38⟩ [topFrame ⟨0, 0, 0, 0⟩])) = fun os => some (.next, hT_7 w os, hC, ⟨246, 0, 250, 39⟩) := by
 rw [PySem.W.Fast.te10110043849684766642, PySem.W.Fast.te14364793385576792824]; kernel_rfl
theorem hp_7 (w : World) : (fun os => segRunT treeTable PySem.Challenge.pw_nn0344_01 w 11 (some (.ref 6)) 1 389 (hT_7 w os) (piecesOf hS_7 yfj hC ⟨246, 0, 250, 39⟩ [topFrame ⟨0, 0, 0, 0⟩])) = fun os => some (.next, hT_8 w os, hC, ⟨289, 0, 290, 28⟩) := by
 rw [PySem.W.Fast.te10110043849684766642, PySem.W.Fast.te14364793385576792824]; kernel_rfl
theorem hp_8 (w : World) : (fun os => segRunT treeTable PySem.Challenge.pw_nn0344_01 w 11 (some (.ref 6)) 1 377 (hT_8 w os) (piecesOf hS_8 yfj hC ⟨289, 0, 290, 28⟩ [topFrame ⟨0, 0, 0, 0⟩])) = fun os => some (.next, hT_9 w os, hC, ⟨339, 0, 339, 8⟩) := by
 rw [PySem.W.Fast.te10110043849684766642, PySem.W.Fast.te14364793385576792824]; kernel_rfl
theorem hp_9 (w : World) : (fun os => segRunT treeTable PySem.Challenge.pw_nn0344_01 w 11 (some (.ref 6)) 1 385 (hT_9 w os) (piecesOf hS_9 yfj hC ⟨339, 0, 339, 8⟩ [topFrame ⟨0, 0, 0, 0⟩])) = fun os => some (.next, hT_10 w os, hC, ⟨462, 0, 492, 52⟩) := by
 rw [PySem.W.Fast.te10110043849684766642, PySem.W.Fast.te14364793385576792824]; kernel_rfl
theorem hp_10 (w : World) : (fun os => segRunT treeTable PySem.Challenge.pw_nn0344_01 w 11 (some (.ref 6)) 1 160 (hT_10 w os) (piecesOf hS_10 yfj hC ⟨462, 0, 492, 52⟩ [topFrame ⟨0, 0, 0, 0⟩])) = fun os => some (.next, hT_11 w os, hC, ⟨534, 0, 534, 11⟩) := by
 rw [PySem.W.Fast.te10110043849684766642, PySem.W.Fast.te14364793385576792824]; kernel_rfl
theorem hp_11 (w : World) : (fun os => segRunT treeTable PySem.Challenge.pw_nn0344_01 w 11 (some (.ref 6)) 1 383 (hT_11 w os) (piecesOf hS_11 yfj hC ⟨534, 0, 534, 11⟩ [topFrame ⟨0, 0, 0, 0⟩])) = fun os => some (.next, hT_12 w os, hC, ⟨535, 0, 577, 44⟩) := by
 rw [PySem.W.Fast.te10110043849684766642, PySem.W.Fast.te14364793385576792824]; kernel_rfl
theorem hp_12 (w : World) : (fun os => segRunT treeTable PySem.Challenge.pw_nn0344_01 w 11 (some (.ref 6)) 1 391 (hT_12 w os) (piecesOf hS_12 yfj hC ⟨535, 0, 577, 44⟩ [topFrame ⟨0, 0, 0, 0⟩])) = fun os => some (.next, hT_13 w os, hC, ⟨693, 0, 700, 16⟩) := by
 rw [PySem.W.Fast.te10110043849684766642, PySem.W.Fast.te14364793385576792824]; kernel_rfl
theorem hp_13 (w : World) : (fun os => segRunT treeTable PySem.Challenge.pw_nn0344_01 w 11 (some (.ref 6)) 1 393 (hT_13 w os) (piecesOf hS_13 yfj hC ⟨693, 0, 700, 16⟩ [topFrame ⟨0, 0, 0, 0⟩])) = fun os => some (.next, hT_14 w os, hC, ⟨812, 0, 822, 46⟩) := by
 rw [PySem.W.Fast.te10110043849684766642, PySem.W.Fast.te14364793385576792824]; kernel_rfl
theorem hp_14 (w : World) : (fun os => segRunT treeTable PySem.Challenge.pw_nn0344_01 w 11 (some (.ref 6)) 1 380 (hT_14 w os) (piecesOf hS_14 yfj hC ⟨812, 0, 822, 46⟩ [topFrame ⟨0, 0, 0, 0⟩])) = fun os => some (.next, hT_15 w os, hC, ⟨881, 0, 887, 16⟩) := by
 rw [PySem.W.Fast.te10110043849684766642, PySem.W.Fast.te14364793385576792824]; kernel_rfl
theorem hp_15 (w : World) : (fun os => segRunT treeTable PySem.Challenge.pw_nn0344_01 w 11 (some (.ref 6)) 1 374 (hT_15 w os) (piecesOf hS_15 yfj hC ⟨881, 0, 887, 16⟩ [topFrame ⟨0, 0, 0, 0⟩])) = fun os => some (.next, hT_16 w os, hC, ⟨1012, 0, 1021, 16⟩) := by
 rw [PySem.W.Fast.te10110043849684766642, PySem.W.Fast.te14364793385576792824]; kernel_rfl
theorem hp_16 (w : World) : (fun os => segRunT treeTable PySem.Challenge.pw_nn0344_01 w 11 (some (.ref 6)) 1 398 (hT_16 w os) (piecesOf hS_16 yfj hC ⟨1012, 0, 1021, 16⟩ [topFrame ⟨0, 0, 0, 0⟩])) = fun os => some (.next, hT_17 w os, hC, ⟨1136, 0, 1138, 53⟩) := by
 rw [PySem.W.Fast.te10110043849684766642, PySem.W.Fast.te14364793385576792824]; kernel_rfl
theorem hp_17 (w : World) : (fun os => segRunT treeTable PySem.Challenge.pw_nn0344_01 w 11 (some (.ref 6)) 1 71 (hT_17 w os) (piecesOf hS_17 yfj hC ⟨1136, 0, 1138, 53⟩ [topFrame ⟨0, 0, 0, 0⟩])) = fun os => some (.next, hT_18 w os, hC, ⟨1146, 0, 1147, 89⟩) := by
 rw [PySem.W.Fast.te10110043849684766642, PySem.W.Fast.te14364793385576792824]; kernel_rfl
theorem hp_18 (w : World) : (fun os => segRunT treeTable PySem.Challenge.pw_nn0344_01 w 11 (some (.ref 6)) 1 399 (hT_18 w os) (piecesOf hS_18 yfj hC ⟨1146, 0, 1147, 89⟩ [topFrame ⟨0, 0, 0, 0⟩])) = fun os => some (.next, hT_19 w os, hC, ⟨1148, 0, 1193, 20⟩) := by
 rw [PySem.W.Fast.te10110043849684766642, PySem.W.Fast.te14364793385576792824]; kernel_rfl
theorem hp_19 (w : World) : (fun os => segRunT treeTable PySem.Challenge.pw_nn0344_01 w 11 (some (.ref 6)) 1 438 (hT_19 w os) (piecesOf hS_19 yfj hC ⟨1148, 0, 1193, 20⟩ [topFrame ⟨0, 0, 0, 0⟩])) = fun os => some (.next, hT_20 w os, hC, ⟨1194, 0, 1235, 22⟩) := by
 rw [PySem.W.Fast.te10110043849684766642, PySem.W.Fast.te14364793385576792824]; kernel_rfl
theorem hp_20 (w : World) : (fun os => segRunT treeTable PySem.Challenge.pw_nn0344_01 w 11 (some (.ref 6)) 1 10 (hT_20 w os) (piecesOf hS_20 yfj hC ⟨1194, 0, 1235, 22⟩ [topFrame ⟨0, 0, 0, 0⟩])) = fun os => some (.next, hT_21 w os, hC, ⟨1236, 0, 1236, 8⟩) := by
 rw [PySem.W.Fast.te10110043849684766642, PySem.W.Fast.te14364793385576792824]; kernel_rfl
theorem hp_21 (w : World) : (fun os => segRunT treeTable PySem.Challenge.pw_nn0344_01 w 11 (some (.ref 6)) 1 503 (hT_21 w os) (piecesOf hS_21 yfj hC ⟨1236, 0, 1236, 8⟩ [topFrame ⟨0, 0, 0, 0⟩])) = fun os => some (.next, hT_22 w os, hC, ⟨1237, 0, 1311, 88⟩) := by
 rw [PySem.W.Fast.te10110043849684766642, PySem.W.Fast.te14364793385576792824]; kernel_rfl
theorem hp_22 (w : World) : (fun os => segRunT treeTable PySem.Challenge.pw_nn0344_01 w 11 (some (.ref 6)) 1 380 (hT_22 w os) (piecesOf hS_22 yfj hC ⟨1237, 0, 1311, 88⟩ [topFrame ⟨0, 0, 0, 0⟩])) = fun os => some (.next, hT_23 w os, hC, ⟨1407, 0, 1408, 86⟩) := by
 rw [PySem.W.Fast.te10110043849684766642, PySem.W.Fast.te14364793385576792824]; kernel_rfl
theorem hp_23 (w : World) : (fun os => segRunT treeTable PySem.Challenge.pw_nn0344_01 w 11 (some (.ref 6)) 1 392 (hT_23 w os) (piecesOf hS_23 yfj hC ⟨1407, 0, 1408, 86⟩ [topFrame ⟨0, 0, 0, 0⟩])) = fun os => some (.next, hT_24 w os, hC, ⟨1506, 0, 1517, 90⟩) := by
 rw [PySem.W.Fast.te10110043849684766642, PySem.W.Fast.te14364793385576792824]; kernel_rfl
theorem hp_24 (w : World) : (fun os => segRunT treeTable PySem.Challenge.pw_nn0344_01 w 11 (some (.ref 6)) 1 53 (hT_24 w os) (piecesOf hS_24 yfj hC ⟨1506, 0, 1517, 90⟩ [topFrame ⟨0, 0, 0, 0⟩])) = fun os => some (.next, yn9 w os, hC, ⟨1564, 0, 1590, 68⟩) := by
 rw [PySem.W.Fast.te10110043849684766642, PySem.W.Fast.te14364793385576792824]; kernel_rfl
theorem hp_fin (w : World) : (fun os => topRun treeTable PySem.Challenge.pw_nn0344_01 w 11 (some (.ref 6)) 2 (yn9 w os).abs ⟨doneF .next, hC, ⟨1564, 0, 1590, 68⟩, [topFrame ⟨0, 0, 0, 0⟩]⟩) = fun os => some (yn9 w os).abs := by
 rw [PySem.W.Fast.te14082659384304107361, PySem.W.Fast.te14364793385576792824]; kernel_rfl
theorem hB_eq : hB = hS_0 ++ (hS_1 ++ (hS_2 ++ (hS_3 ++ (hS_4 ++ (hS_5 ++ (hS_6 ++ (hS_7 ++ (hS_8 ++ (hS_9 ++ (hS_10 ++ (hS_11 ++ (hS_12 ++ (hS_13 ++ (hS_14 ++ (hS_15 ++ (hS_16 ++ (hS_17 ++ (hS_18 ++ (hS_19 ++ (hS_20 ++ (hS_21 ++ (hS_22 ++ (hS_23 ++ (hS_24 ++ ([]))))))))))))))))))))))))) := by kernel_rfl
theorem hp_rest (w : World) (os : OsState) : topRun treeTable PySem.Challenge.pw_nn0344_01 w 11 (some (.ref 6)) (279 + (214 + (374 + (334 + (332 + (395 + (392 + (389 + (377 + (385 + (160 + (383 + (391 + (393 + (380 + (374 + (398 + (71 + (399 + (438 + (10 + (503 + (380 + (392 + (53 + (2)))))))))))))))))))))))))) (hT_0 w os).abs (restOf hB yfj hC ⟨0, 0, 0, 0⟩ [topFrame ⟨0, 0, 0, 0⟩]) = some (yn9 w os).abs :=
 (congrArg (fun b => topRun treeTable PySem.Challenge.pw_nn0344_01 w 11 (some (.ref 6)) (279 + (214 + (374 + (334 + (332 + (395 + (392 + (389 + (377 + (385 + (160 + (383 + (391 + (393 + (380 + (374 + (398 + (71 + (399 + (438 + (10 + (503 + (380 + (392 + (53 + (2)))))))))))))))))))))))))) (hT_0 w os).abs (restOf b yfj hC ⟨0, 0, 0, 0⟩ [topFrame ⟨0, 0, 0, 0⟩]) = some (yn9 w os).abs) hB_eq).mpr (piece_app (segRun_of (congrFun (hp_0 w) os)) (piece_app (segRun_of (congrFun (hp_1 w) os)) (piece_app (segRun_of (congrFun (hp_2 w) os)) (piece_app (segRun_of (congrFun (hp_3 w) os)) (piece_app (segRun_of (congrFun (hp_4 w) os)) (piece_app (segRun_of (congrFun (hp_5 w) os)) (piece_app (segRun_of (congrFun (hp_6 w) os)) (piece_app (segRun_of (congrFun (hp_7 w) os)) (piece_app (segRun_of (congrFun (hp_8 w) os)) (piece_app (segRun_of (congrFun (hp_9 w) os)) (piece_app (segRun_of (congrFun (hp_10 w) os)) (piece_app (segRun_of (congrFun (hp_11 w) os)) (piece_app (segRun_of (congrFun (hp_12 w) os)) (piece_app (segRun_of (congrFun (hp_13 w) os)) (piece_app (segRun_of (congrFun (hp_14 w) os)) (piece_app (segRun_of (congrFun (hp_15 w) os)) (piece_app (segRun_of (congrFun (hp_16 w) os)) (piece_app (segRun_of (congrFun (hp_17 w) os)) (piece_app (segRun_of (congrFun (hp_18 w) os)) (piece_app (segRun_of (congrFun (hp_19 w) os)) (piece_app (segRun_of (congrFun (hp_20 w) os)) (piece_app (segRun_of (congrFun (hp_21 w) os)) (piece_app (segRun_of (congrFun (hp_22 w) os)) (piece_app (segRun_of (congrFun (hp_23 w) os)) (piece_app (segRun_of (congrFun (hp_24 w) os)) (congrFun (hp_fin w) os))))))))))))))))))))))))))
theorem hp_run (w : World) (os : OsState) : topRun treeTable PySem.Challenge.pw_nn0344_01 w 11 (some (.ref 6)) (12 + (1 + (279 + (214 + (374 + (334 + (332 + (395 + (392 + (389 + (377 + (385 + (160 + (383 + (391 + (393 + (380 + (374 + (398 + (71 + (399 + (438 + (10 + (503 + (380 + (392 + (53 + (2)))))))))))))))))))))))))))) ⟨boot_heap w.params, Array.mk [], boot_drawn, boot_toks, os⟩ (topStub PySem.Challenge.pw_nn0344_01) = some (yn9 w os).abs :=
 go_top (congrFun (hp_pre w) os) (piece_block (congrFun (hp_block w) os) (hp_rest w os))
end NN
end
section
open PySem PySem.W PyProof.Rows PySem.Calls
set_option maxRecDepth 100000
set_option linter.all false
set_option backward.match.sparseCases false
namespace NN
noncomputable def K3 (P : Params) : Frag := [(73, (g6 F0)), (72, (g5 F0)), (81, (g6 F1)), (80, (g5 F1)), (74, (O0 3)), (88, (g6 F2)), (87, (g5 F2)), (95, (g6 F3)), (94, (g5 F3)), (109, (g6 F4)), (108, (g5 F4)), (116, (g6 F5)), (115, (g5 F5)), (123, (g6 F6)), (122, (g5 F6)), (130, (g6 F7)), (129, (g5 F7)), (137, (g6 F8)), (136, (g5 F8)), (144, (g6 F9)), (143, (g5 F9)), (151, (g6 F10)), (150, (g5 F10)), (158, (g6 F11)), (157, (g5 F11)), (165, (g6 F12)), (164, (g5 F12)), (172, (g6 F13)), (171, (g5 F13)), (264, (g6 F18)), (263, (g5 F18)), (271, (g6 F19)), (270, (g5 F19)), (278, (g6 F20)), (277, (g5 F20)), (285, (g6 F21)), (284, (g5 F21)), (292, (g6 F22)), (291, (g5 F22)), (299, (g6 F23)), (298, (g5 F23)), (306, (g6 F24)), (305, (g5 F24)), (313, (g6 F25)), (312, (g5 F25)), (320, (g6 F26)), (319, (g5 F26)), (327, (g6 F27)), (326, (g5 F27)), (334, (g6 F28)), (333, (g5 F28)), (341, (g6 F29)), (340, (g5 F29)), (348, (g6 F30)), (347, (g5 F30)), (355, (g6 F31)), (354, (g5 F31)), (362, (g6 F32)), (361, (g5 F32)), (369, (g6 F33)), (368, (g5 F33)), (376, (g6 F34)), (375, (g5 F34)), (383, (g6 F35)), (382, (g5 F35)), (390, (g6 F36)), (389, (g5 F36)), (397, (g6 F37)), (396, (g5 F37)), (404, (g6 F38)), (403, (g5 F38)), (411, (g6 F39)), (410, (g5 F39)), (418, (g6 F40)), (417, (g5 F40)), (425, (g6 F41)), (424, (g5 F41)), (432, (g6 F42)), (431, (g5 F42)), (439, (g6 F43)), (438, (g5 F43)), (446, (g6 F44)), (445, (g5 F44)), (453, (g6 F45)), (452, (g5 F45)), (460, (g6 F46)), (459, (g5 F46)), (467, (g6 F47)), (466, (g5 F47)), (474, (g6 F48)), (473, (g5 F48)), (481, (g6 F49)), (480, (g5 F49)), (488, (g6 F50)), (487, (g5 F50)), (495, (g6 F51)), (494, (g5 F51)), (502, (g6 F52)), (501, (g5 F52)), (509, (g6 F53)), (508, (g5 F53)), (523, (g6 F54)), (522, (g5 F54)), (530, (g6 F55)), (529, (g5 F55)), (537, (g6 F56)), (536, (g5 F56)), (544, (g6 F57)), (543, (g5 F57)), (551, (g6 F58)), (550, (g5 F58)), (558, (g6 F59)), (557, (g5 F59)), (565, (g6 F60)), (564, (g5 F60)), (579, (g6 F61)), (578, (g5 F61)), (586, (g6 F62)), (585, (g5 F62)), (605, (g4_ F63)), (604, (g3 F63)), (735, (g6 F64)), (734, (g5 F64)), (822, (g6 F65)), (821, (g5 F65)), (829, (g6 F66)), (828, (g5 F66)), (836, (g6 F67)), (835, (g5 F67)), (843, (g6 F68)), (842, (g5 F68)), (850, (g6 F69)), (849, (g5 F69)), (857, (g6 F70)), (856, (g5 F70)), (864, (g6 F71)), (863, (g5 F71)), (871, (g6 F72)), (870, (g5 F72)), (885, (g6 F73)), (884, (g5 F73)), (892, (g6 F74)), (891, (g5 F74)), (899, (g6 F75)), (898, (g5 F75)), (906, (g6 F76)), (905, (g5 F76)), (913, (g6 F77)), (912, (g5 F77)), (934, (g6 F78)), (933, (g5 F78)), (941, (g6 F79)), (940, (g5 F79)), (948, (g6 F80)), (947, (g5 F80)), (955, (g6 F81)), (954, (g5 F81)), (962, (g6 F82)), (961, (g5 F82)), (969, (g6 F83)), (968, (g5 F83)), (990, (g6 F84)), (989, (g5 F84)), (997, (g6 F85)), (996, (g5 F85)), (1004, (g6 F86)), (1003, (g5 F86)), (1011, (g6 F87)), (1010, (g5 F87)), (1018, (g6 F88)), (1017, (g5 F88)), (1025, (g6 F89)), (1024, (g5 F89)), (1032, (g6 F90)), (1031, (g5 F90)), (1039, (g6 F91)), (1038, (g5 F91)), (1046, (g6 F92)), (1045, (g5 F92)), (1053, (g6 F93)), (1052, (g5 F93)), (1060, (g6 F94)), (1059, (g5 F94)), (1067, (g6 F95)), (1066, (g5 F95)), (1074, (g6 F96)), (1073, (g5 F96)), (1081, (g6 F97)), (1080, (g5 F97)), (1088, (g6 F98)), (1087, (g5 F98)), (1095, (g6 F99)), (1094, (g5 F99)), (1102, (O0 9)), (1101, (O0 8)), (1305, (g6 F109)), (1304, (g5 F109)), (1312, (g6 F110)), (1311, (g5 F110)), (1319, (g6 F111)), (1318, (g5 F111)), (1326, (g6 F112)), (1325, (g5 F112)), (1331, (g4_ F113)), (1330, (g3 F113)), (1338, (g6 F114)), (1337, (g5 F114)), (1345, (g6 F115)), (1344, (g5 F115)), (1352, (g6 F116)), (1351, (g5 F116)), (1359, (g6 F117)), (1358, (g5 F117)), (1366, (g6 F118)), (1365, (g5 F118)), (1371, (g4_ F119)), (1370, (g3 F119)), (1376, (g4_ F120)), (1375, (g3 F120)), (1383, (g6 F121)), (1382, (g5 F121)), (1388, (g4_ F122)), (1387, (g3 F122)), (1395, (g6 F123)), (1394, (g5 F123)), (1402, (g6 F124)), (1401, (g5 F124)), (1409, (g6 F125)), (1408, (g5 F125)), (1416, (g6 F126)), (1415, (g5 F126)), (1423, (g6 F127)), (1422, (g5 F127)), (1430, (g6 F128)), (1429, (g5 F128)), (1437, (g6 F129)), (1436, (g5 F129)), (1444, (g6 F130)), (1443, (g5 F130)), (1449, (g4_ F131)), (1448, (g3 F131)), (1456, (g6 F132)), (1455, (g5 F132)), (1461, (g4_ F133)), (1460, (g3 F133)), (1466, (g4_ F134)), (1465, (g3 F134)), (1471, (g4_ F135)), (1470, (g3 F135)), (52, (O0 2)), (51, ho_36 P), (210, (O0 4)), (209, ho_136 P), (253, (O0 6)), (252, ho_166 P), (677, (O0 7)), (676, ho_426 P), (1154, (O0 10)), (1153, ho_714 P), (1217, (O0 11)), (1216, ho_755 P), (1294, (O0 12)), (1293, ho_805 P), (186, (g6 F14)), (185, (g5 F14)), (193, (g6 F15)), (192, (g5 F15)), (207, (g6 F16)), (206, (g5 F16)), (229, (g6 F17)), (228, (g5 F17)), (222, (O0 5)), (1116, (g6 F100)), (1115, (g5 F100)), (1123, (g6 F101)), (1122, (g5 F101)), (1130, (g6 F102)), (1129, (g5 F102)), (1172, (g6 F103)), (1171, (g5 F103)), (1179, (g6 F104)), (1178, (g5 F104)), (1186, (g6 F105)), (1185, (g5 F105)), (1235, (g6 F106)), (1234, (g5 F106)), (1249, (g6 F107)), (1248, (g5 F107)), (1263, (g6 F108)), (1262, (g5 F108))]
noncomputable def as3 : List Addr := [73, 72, 81, 80, 74, 88, 87, 95, 94, 109, 108, 116, 115, 123, 122, 130, 129, 137, 136, 144, 143, 151, 150, 158, 157, 165, 164, 172, 171, 264, 263, 271, 270, 278, 277, 285, 284, 292, 291, 299, 298, 306, 305, 313, 312, 320, 319, 327, 326, 334, 333, 341, 340, 348, 347, 355, 354, 362, 361, 369, 368, 376, 375, 383, 382, 390, 389, 397, 396, 404, 403, 411, 410, 418, 417, 425, 424, 432, 431, 439, 438, 446, 445, 453, 452, 460, 459, 467, 466, 474, 473, 481, 480, 488, 487, 495, 494, 502, 501, 509, 508, 523, 522, 530, 529, 537, 536, 544, 543, 551, 550, 558, 557, 565, 564, 579, 578, 586, 585, 605, 604, 735, 734, 822, 821, 829, 828, 836, 835, 843, 842, 850, 849, 857, 856, 864, 863, 871, 870, 885, 884, 892, 891, 899, 898, 906, 905, 913, 912, 934, 933, 941, 940, 948, 947, 955, 954, 962, 961, 969, 968, 990, 989, 997, 996, 1004, 1003, 1011, 1010, 1018, 1017, 1025, 1024, 1032, 1031, 1039, 1038, 1046, 1045, 1053, 1052, 1060, 1059, 1067, 1066, 1074, 1073, 1081, 1080, 1088, 1087, 1095, 1094, 1102, 1101, 1305, 1304, 1312, 1311, 1319, 1318, 1326, 1325, 1331, 1330, 1338, 1337, 1345, 1344, 1352, 1351, 1359, 1358, 1366, 1365, 1371, 1370, 1376, 1375, 1383, 1382, 1388, 1387, 1395, 1394, 1402, 1401, 1409, 1408, 1416, 1415, 1423, 1422, 1430, 1429, 1437, 1436, 1444, 1443, 1449, 1448, 1456, 1455, 1461, 1460, 1466, 1465, 1471, 1470, 52, 51, 210, 209, 253, 252, 677, 676, 1154, 1153, 1217, 1216, 1294, 1293, 186, 185, 193, 192, 207, 206, 229, 228, 222, 1116, 1115, 1123, 1122, 1130, 1129, 1172, 1171, 1179, 1178, 1186, 1185, 1235, 1234, 1249, 1248, 1263, 1262]
theorem as3_ok (P : Params) : as3 = (K3 P).map (·.1) := by rfl
end NN
end
section
set_option maxRecDepth 100000
set_option Elab.async false
set_option maxHeartbeats 0
open PySem PySem.W PyProof.Rows PySem.Calls
namespace NN
theorem said1 : OpenLaw.wellSaid PySem.Challenge.rw_nn0344_01 = true := by
 unfold OpenLaw.wellSaid OpenRow.wellSaid OpenRow.partSaid looksOpen
 repeat' (with_reducible refine look_both ?_ ?_)
 all_goals (
  try rw [PySem.W.Fast.te11788848310118352699]
  try rw [PySem.W.Fast.te2368527892694137696]
  try rw [PySem.W.Fast.te9807087744658564304]
  try rw [PySem.W.Fast.te12862048085361865435]
  try rw [PySem.W.Fast.te8377067652309620493]
  try rw [PySem.W.R.allR_eq]
  try rw [PySem.W.Fast.te18344453789297297638]
  try rw [PySem.W.Fast.te3471404346716756564]
  try rw [PySem.W.Fast.sDec_eq]
  try rw [PySem.W.Fast.te14412699480532031325]
  try rw [PySem.W.Fast.te8326940854005059898]
  try rw [PySem.W.Fast.te5923862056798008813]
  try rw [PySem.W.Fast.te17691160309236699985]
  try rw [PySem.W.R.filterR_eq]
  try rw [PySem.W.Fast.te13343964577679436407]
  try rw [PySem.W.Fast.te17119622794617984870]
  try rw [PySem.W.Fast.te17868728402115742887]
  try rw [PySem.W.Fast.te9706382859710513879]
  try rw [PySem.W.S.strDecS_eq]
  try rw [PySem.W.Fast.te2357444279172408678]
  try rw [PySem.W.R.mapR_eq]
  try rw [PySem.W.Fast.te4857012375875476094]
  try rw [PySem.W.Fast.named_eq]
  try rw [PySem.W.Fast.te13582783067957832011]
  try rw [PySem.W.Fast.te5318747976498570220]
  try rw [PySem.W.Fast.te4579403493507170074]
  try rw [PySem.W.R.anyR_eq]
  try rw [PySem.W.Fast.te4274047373036748609]
  try rw [PySem.W.Fast.te12749700546528644094]
  try rw [PySem.W.Fast.te10501279942588096481]
  try rw [PySem.W.Fast.te8179353310426384613]
  try rw [PySem.W.Fast.te797321630700447069]
  try rw [PySem.W.Fast.te9572597257264208301]
  try rw [PySem.W.Fast.te9558739934217749035]
  try rw [PySem.W.Fast.te16286561074155671207]
  try rw [PySem.W.Fast.te6984425678791042302]
  try rw [PySem.W.Fast.te17095254045102204799]
  try rw [PySem.W.Fast.te12879404354523853263]
  try rw [PySem.W.Fast.te482687673346738481]
  try rw [PySem.W.Fast.te10792542408131684335]
  try rw [PySem.W.Fast.te7723801398212525404]
  decide +kernel)
end NN
end
section
open PySem PySem.W PyProof.Rows PySem.Calls
set_option maxRecDepth 100000
set_option linter.all false
set_option maxHeartbeats 0
namespace NN
noncomputable def qv : Program := view PySem.Challenge.pw_nn0344_01 [183]
noncomputable def yc1 : List Str := (PySem.Challenge.pw_nn0344_01.boundNames).filter fun n => !(n == ("law" : Str))
noncomputable def frO (ob : Obj) : Bool := match ob.data with
 | .dict .. => !(ob.cls == .type "frame")
 | _ => true
noncomputable def smO (s : Shared) : Bool := match s.heap.get? sysModules with
 | some ob => !(ob.cls == .type "frame")
 | none => false
noncomputable def yf (s : Shared) : List (Option Obj) × List (Option Value) × Bool := (as3.map s.heap.get?, G3.map fun p => s.heap.nsMap mainGlobals p.1, s.heap.objs.toList.all frO && smO s)
noncomputable def ya (w : World) : List (Option Obj) × List (Option Value) × Bool := ((K3 w.params).map fun p => some p.2, G3.map fun p => p.2, true)
noncomputable abbrev hH1 (P : Params) : Heap := absHeap (tr_25 P) 1472 hL
noncomputable abbrev hS1 (w : World) (os : OsState) : Shared := ⟨hH1 w.params, Array.mk [], ⟨0, 0, 0, 0⟩, 2301, os⟩
theorem hl_0 (w : World) : (fun os => staticsOk (importedModules PySem.Challenge.pw_nn0344_01.main.body) (boot_heap w.params) (hH1 w.params) && namesBound PySem.Challenge.pw_nn0344_01 (hH1 w.params) && gensDone (hS1 w os) && laidKept (boot_heap w.params) (hH1 w.params)) = fun _ => true := by
 rw [PySem.W.Fast.te5923862056798008813]; kernel_rfl
theorem hl_1 (w : World) : (fun os => seen ((recsOf qv).map (·.name)) (ownsOf qv) [] { hS1 w os with gens := #[] }) = fun _ => expectedOf qv := by
 rw [PySem.W.Fast.te5160383126252970620, PySem.W.R.mapR_eq, PySem.W.Fast.te3399658132070893891, PySem.W.Fast.te5991557255702980513]; kernel_rfl
theorem hl_2 (w : World) : (fun os => (hS1 w os).heap.bltView) = fun _ => bltViewBooted := by
 kernel_rfl
theorem hl_3 (w : World) : (fun os => (hS1 w os).heap.keysOk (looseW qv yc1) ((recsOf qv).map (·.name)) ((litsOf qv).map (·.1)) ((clssOf qv (looseW qv yc1)).map (·.name)) && (hS1 w os).heap.accountedOkI (importedModules PySem.Challenge.pw_nn0344_01.main.body) && (hS1 w os).heap.isNs mainGlobals && (hS1 w os).heap.isNs builtinsNs && tablesOk qv (hS1 w os).heap && (fun _ => true) (hS1 w os) && (if true then (hS1 w os).gens.size == 0 else !leftWithCleanup (hS1 w os).gens)) = fun _ => true := by
 rw [PySem.W.Fast.te10880121769531294198, PySem.W.Fast.te821141287760084731, PySem.W.Fast.te3399658132070893891, PySem.W.Fast.te7409074990110511671, PySem.W.Fast.te13664370479719496447, PySem.W.Fast.te14722251495701143533, PySem.W.Fast.te5923862056798008813, PySem.W.Fast.te10994771534591457954]; kernel_rfl
theorem hl_4 (w : World) : (fun os => tabsOk qv (hS1 w os)) = fun _ => true := by
 rw [PySem.W.Fast.te479339242167458305]; kernel_rfl
theorem hl_5 (w : World) : (fun os => pinSeenD qv (drecsOf qv) (hS1 w os)) = fun _ => pinGoodD (drecsOf qv) := by
 rw [PySem.W.Fast.te16090120013241838585, PySem.W.Fast.te3247288618530077131]; kernel_rfl
theorem hl_6 (w : World) : (fun os => plainSeenE qv (looseW qv yc1) (hS1 w os)) = fun _ => plainGoodE qv (looseW qv yc1) := by
 rw [PySem.W.Fast.te2386780881361962483, PySem.W.Fast.te821141287760084731]; kernel_rfl
theorem hl_7 (w : World) : (fun os => plainSeenD qv yc1 (hS1 w os)) = fun _ => plainGoodD qv yc1 := by
 rw [PySem.W.Fast.te11698064438423848299]; kernel_rfl
theorem hl_8 (w : World) : (fun os => wideSeen qv (hS1 w os)) = fun _ => wideGood qv := by
 rw [PySem.W.Fast.te7317090234206586261]; kernel_rfl
theorem hl_9 (w : World) : (fun os => clsSeenW qv yc1 (hS1 w os)) = fun _ => clsGoodW qv yc1 := by
 rw [PySem.W.Fast.te7369524293546568484]; kernel_rfl
theorem hl_10 (w : World) : (fun os => yf (hS1 w os)) = fun _ => ya w := by
 kernel_rfl
theorem hl_size (w : World) : ((boot_heap w.params).isNs mainGlobals && (Array.mk [] : Array GenState).size == 0, (boot_heap w.params).objs.size, (boot_heap w.params).nsMap mainGlobals "__annotations__") = (true, 11, some (.ref 6)) := by
 rw [PySem.W.Fast.te8920871248978507458]; kernel_rfl
theorem hl_open (w : World) : (fencedOpening treeTable PySem.Challenge.pw_nn0344_01 w 15000).map (fun s => (s.heap, s.gens, s.drawn, s.toks)) = some (boot_heap w.params, Array.mk [], boot_drawn, boot_toks) :=
 boot_open (by kernel_rfl) (by kernel_rfl) (fun s => by kernel_rfl) w
theorem hT_abs (w : World) (os : OsState) : (yn9 w os).abs = hS1 w os := by kernel_rfl
theorem left3 : LeftO PySem.Challenge.pw_nn0344_01 qv yc1 (fun _ => true) yf ya 15000 := by
 refine leftMk (p := PySem.Challenge.pw_nn0344_01) (q := qv) (loose := yc1) (Xt := fun _ => true) (Yf := yf) (Ya := ya) (N := 15000) (S := hS1) (H₀ := boot_heap) (H₁ := hH1) (gs₀ := Array.mk []) (gs₁ := Array.mk []) (d₀ := boot_drawn) (d₁ := ⟨0, 0, 0, 0⟩) (k₀ := boot_toks) (k₁ := 2301) (m₀ := 11) (ann := some (.ref 6)) (M := (12 + (1 + (279 + (214 + (374 + (334 + (332 + (395 + (392 + (389 + (377 + (385 + (160 + (383 + (391 + (393 + (380 + (374 + (398 + (71 + (399 + (438 + (10 + (503 + (380 + (392 + (53 + (2))))))))))))))))))))))))))))) ?a ?b ?c ?d ?e ?l0 ?l1 ?l2 ?l3 ?l4 ?l5 ?l6 ?l7 ?l8 ?l9 ?l10
 case a => exact fun _ _ => rfl
 case b => exact hl_open
 case c => exact hl_size
 case d => exact fun w os => (hp_run w os).trans (congrArg some (hT_abs w os))
 case e => decide +kernel
 case l0 => exact hl_0
 case l1 => exact hl_1
 case l2 => exact hl_2
 case l3 => exact hl_3
 case l4 => exact hl_4
 case l5 => exact hl_5
 case l6 => exact hl_6
 case l7 => exact hl_7
 case l8 => exact hl_8
 case l9 => exact hl_9
 case l10 => exact hl_10
theorem head3 (call : ∀ (d : DefRec) (kwd : List (Str × Expr)), d.name = Str.ofString "law" → WalkX qv yc1 (fun _ _ => True) yf ya PySem.Challenge.rw_nn0344_01.row.toRowW d kwd (fun f vs => PySem.call f vs)) : PySem.Challenge.rw_nn0344_01.Holds := by
 w_on
 refine holds_law said1 fun ws => ?_
 refine holds_openX (q := qv) (loose := yc1) (Xt := fun _ => true) (XP := fun _ _ => True) (Yf := yf) (Ya := ya) (N := 15000) left3 (fun _ _ => trivial) (fun _ _ _ _ _ => trivial) (by rfl) (by rfl) (by rfl) (fun s e => recFacts_nil rfl) (by rfl) ws (by decide +kernel) ⟨rfl, rfl, rfl, rfl, rfl, by decide +kernel⟩ ?hw ?hc
 case hw => w_witness2
 exact call _ _ rfl
end NN
end
set_option hygiene false
set_option tactic.hygienic false
section
open PySem PySem.W PyProof.Rows PySem.Calls
set_option maxRecDepth 100000
set_option linter.all false
namespace NN
set_option genCtorIdx true in
set_option genInjectivity true in
inductive V where
 | none | bool (b : Bool) | int (i : Int) | str (x : Str) | tup (vs : List V) | ptr (a : Addr) | obj (a C dx : Addr) | rng (lo hi : Int) | rgd (lo hi : Int) | raw (v : Value)
 deriving Inhabited
mutual
inductive VR (h : Heap) : V -> Value -> Prop
 | none : VR h .none .none
 | bool (b) : VR h (.bool b) (.bool b)
 | int (i t) : VR h (.int i) (.int i t)
 | str (x t) : VR h (.str x) (.str x t)
 | tup {vs ws a n} : IsT h a ws.toArray n -> VRs h vs ws -> VR h (.tup vs) (.ref a)
 | ptr (a) : VR h (.ptr a) (.ref a)
 | obj {a C dx ob} : h.get? a = some ob -> ob.cls = .ref C -> ob.data = .plain -> ob.dict = some dx -> VR h (.obj a C dx) (.ref a)
 | rng {lo hi a t u v} : h.get? a = some { cls := .type "range", dict := none, data := .fields #[.int lo t, .int hi u, .int 1 v], slots := #[] } -> VR h (.rng lo hi) (.ref a)
 | rgd {lo hi a t u v} : h.get? a = some { cls := .type "range", dict := none, data := .fields #[.int lo t, .int hi u, .int (-1) v], slots := #[] } -> VR h (.rgd lo hi) (.ref a)
 | raw (v) : VR h (.raw v) v
inductive VRs (h : Heap) : List V -> List Value -> Prop
 | nil : VRs h [] []
 | cons {x xs v vs} : VR h x v -> VRs h xs vs -> VRs h (x :: xs) (v :: vs)
end
theorem VRs.ind {h : Heap} {P : List V -> List Value -> Prop} (n : P [] []) (c : ∀ {x xs v vs}, VR h x v -> VRs h xs vs -> P xs vs -> P (x :: xs) (v :: vs)) {xs : List V} {vs : List Value} (r : VRs h xs vs) : P xs vs :=
 @VRs.rec h (fun O O O => True) (fun xs vs O => P xs vs) trivial (fun O => trivial) (fun O O => trivial) (fun O O => trivial) (fun O O O => trivial) (fun O => trivial) (fun O O O O => trivial) (fun O => trivial) (fun O => trivial) (fun O => trivial) n (fun a r O ih => c a r ih) _ _ r
theorem VRs.length {h : Heap} {xs : List V} {vs : List Value} (r : VRs h xs vs) : xs.length = vs.length := r.ind (P := fun xs vs => xs.length = vs.length) rfl fun O O ih => congrArg Nat.succ ih
theorem VRs.get {h : Heap} {xs : List V} {vs : List Value} (r : VRs h xs vs) {i : Nat} {x : V} (e : xs[i]? = some x) : ∃ v, vs[i]? = some v /\ VR h x v :=
 r.ind (P := fun xs vs => ∀ i : Nat, xs[i]? = some x -> ∃ v, vs[i]? = some v /\ VR h x v) (fun i e => nomatch List.getElem?_nil.symm.trans e) (fun a O ih i e => match i, e with
  | 0, e => ⟨_, rfl, Option.some.inj e ▸ a⟩
  | i + 1, e => ih i e) i e
theorem VRs.append {h : Heap} {xs ys : List V} {vs ws : List Value} (r : VRs h xs vs) (r' : VRs h ys ws) : VRs h (xs ++ ys) (vs ++ ws) := r.ind (P := fun xs vs => VRs h (xs ++ ys) (vs ++ ws)) r' fun a O ih => .cons a ih
theorem VRs.reverse {h : Heap} {xs : List V} {vs : List Value} (r : VRs h xs vs) : VRs h xs.reverse vs.reverse := r.ind (P := fun xs vs => VRs h xs.reverse vs.reverse) .nil fun a O ih => by rw [List.reverse_cons, List.reverse_cons]; exact ih.append (.cons a .nil)
theorem VRs.take {h : Heap} {xs : List V} {vs : List Value} (r : VRs h xs vs) (n : Nat) : VRs h (xs.take n) (vs.take n) :=
 r.ind (P := fun xs vs => ∀ n, VRs h (xs.take n) (vs.take n)) (fun n => by induction n <;> exact .nil) (fun a O ih n => match n with
  | 0 => .nil
  | n + 1 => .cons a (ih n)) n
theorem VRs.drop {h : Heap} {xs : List V} {vs : List Value} (r : VRs h xs vs) (n : Nat) : VRs h (xs.drop n) (vs.drop n) :=
 r.ind (P := fun xs vs => ∀ n, VRs h (xs.drop n) (vs.drop n)) (fun n => by induction n <;> exact .nil) (fun a r ih n => match n with
  | 0 => .cons a r
  | n + 1 => ih n) n
theorem Ja.no {α : Type} {a : α} {P : Prop} (h : none = some a) : P := nomatch h
theorem Jb.no {α : Type} {a : α} {P : Prop} (h : some a = none) : P := nomatch h
theorem Jf.iv {α : Type} {a b : α} (h : some a = some b) : a = b := Option.some.inj h
theorem Ja.iv {h : Heap} {a : Addr} {v : Value} (r : VR h (.ptr a) v) : v = .ref a := by cases r; rfl
theorem Ja.iw {h : Heap} {i : Int} {v : Value} (r : VR h (.int i) v) : ∃ t, v = .int i t := by cases r; exact ⟨_, rfl⟩
theorem Jb.iw {h : Heap} {x : Str} {v : Value} (r : VR h (.str x) v) : ∃ t, v = .str x t := by cases r; exact ⟨_, rfl⟩
theorem Jb.iv {h : Heap} {b : Bool} {v : Value} (r : VR h (.bool b) v) : v = .bool b := by cases r; rfl
theorem Jc.iv {h : Heap} {v : Value} (r : VR h .none v) : v = .none := by cases r; rfl
theorem Jd.iv {h : Heap} {u v : Value} (r : VR h (.raw u) v) : v = u := by cases r; rfl
theorem Je.iv {h : Heap} {vs : List Value} (r : VRs h [] vs) : vs = [] := by cases r; rfl
theorem VR.tup_inv {h : Heap} {xs : List V} {v : Value} (r : VR h (.tup xs) v) : ∃ ws a n, IsT h a ws.toArray n /\ VRs h xs ws /\ v = .ref a := by cases r with | tup a b => exact ⟨_, _, _, a, b, rfl⟩
inductive VR1 (h : Heap) (x : V) : List Value -> Prop
 | mk {v} (r : VR h x v) : VR1 h x [v]
inductive VR2 (h : Heap) (x y : V) : List Value -> Prop
 | mk {v w} (r : VR h x v) (r' : VR h y w) : VR2 h x y [v, w]
inductive VR3 (h : Heap) (x y z : V) : List Value -> Prop
 | mk {v w u} (r : VR h x v) (r' : VR h y w) (r'' : VR h z u) : VR3 h x y z [v, w, u]
theorem VRs.inv1 {h : Heap} {x : V} {vs : List Value} (r : VRs h [x] vs) : VR1 h x vs := by
 cases r with
 | cons a r => cases r; exact ⟨a⟩
theorem VRs.inv2 {h : Heap} {x y : V} {vs : List Value} (r : VRs h [x, y] vs) : VR2 h x y vs := by
 cases r with
 | cons a r => cases r.inv1 with | mk b => exact ⟨a, b⟩
theorem VRs.inv3 {h : Heap} {x y z : V} {vs : List Value} (r : VRs h [x, y, z] vs) : VR3 h x y z vs := by
 cases r with
 | cons a r => cases r.inv2 with | mk b c => exact ⟨a, b, c⟩
set_option genCtorIdx true in
inductive MO where
 | lst (xs : List V)
 | sd (l : List (Str × V))
 | nd (l : List (Int × V))
 | exo (C : Addr) (d : Option Addr)
class inductive SEs (P : Params) (h : Heap) : List (Str × V) -> List DictEntry -> Prop
 | nil : SEs P h [] []
 | cons {k x l t v es} : VR h x v -> SEs P h l es -> SEs P h ((k, x) :: l) (⟨PyData.keyHash P k, .str k t, v⟩ :: es)
class inductive NEs (h : Heap) : List (Int × V) -> List DictEntry -> Prop
 | nil : NEs h [] []
 | cons {k x l t v es} : VR h x v -> NEs h l es -> NEs h ((k, x) :: l) (⟨hashInt k, .int k t, v⟩ :: es)
noncomputable abbrev yoc (es : List DictEntry) (n : Nat) : Obj := { cls := .type "dict", data := .dict es.toArray n }
noncomputable abbrev yks (ws : List Value) (n : Nat) : Obj := { cls := .type "list", dict := none, data := .seq ws.toArray n, slots := #[] }
inductive MOR (P : Params) (h : Heap) : MO -> Obj -> Prop
 | lst {xs ws n} : VRs h xs ws -> MOR P h (.lst xs) (yks ws n)
 | sd {l es n} : SEs P h l es -> MOR P h (.sd l) (yoc es n)
 | nd {l es n} : NEs h l es -> MOR P h (.nd l) (yoc es n)
 | exo {C d ob vs a0} : ob.cls = .ref C -> ob.dict = d -> ob.data = .fields vs -> vs[0]? = some a0 -> vs[1]? = some .none -> MOR P h (.exo C d) ob
inductive HO (P : Params) (h : Heap) (a : Addr) (m : MO) : Prop
 | mk (o : Obj) (e : h.get? a = some o) (r : MOR P h m o)
inductive HL (h : Heap) (l : Addr) (xs : List V) : Prop
 | mk (ws : List Value) (n : Nat) (e : h.get? l = some (yks ws n)) (r : VRs h xs ws)
inductive HSd (P : Params) (h : Heap) (a : Addr) (l : List (Str × V)) : Prop
 | mk (es : List DictEntry) (n : Nat) (e : h.get? a = some (yoc es n)) (r : SEs P h l es)
theorem ybc {P : Params} {h : Heap} {l : Addr} {xs : List V} (x : HO P h l (.lst xs)) : HL h l xs := by
 obtain ⟨_, e, m⟩ := x
 cases m with
 | lst r => exact ⟨_, _, e, r⟩
theorem sd_of {P : Params} {h : Heap} {a : Addr} {l : List (Str × V)} (x : HO P h a (.sd l)) : HSd P h a l := by
 obtain ⟨_, e, m⟩ := x
 cases m with
 | sd r => exact ⟨_, _, e, r⟩
theorem MOR.shape {P : Params} {h : Heap} {m : MO} {o : Obj} (x : MOR P h m o) : (o.cls = .type "list" /\ ∃ ws n, o.data = .seq ws n) \/ (o.cls = .type "dict" /\ ∃ es n, o.data = .dict es n) \/ ∃ C vs, o.cls = .ref C /\ o.data = .fields vs := by
 induction x with
 | lst r => exact .inl ⟨rfl, _, _, rfl⟩
 | sd r => exact .inr (.inl ⟨rfl, _, _, rfl⟩)
 | nd r => exact .inr (.inl ⟨rfl, _, _, rfl⟩)
 | exo a b c d e => exact .inr (.inr ⟨_, _, a, c⟩)
noncomputable def St := Addr -> Option MO
noncomputable def St.nil : St := fun O => none
noncomputable def St.set (st : St) (a : Addr) (m : MO) : St := fun b => if b = a then some m else st b
noncomputable def St.get (st : St) (a : Addr) : Option MO := st a
@[simp] theorem St.set_same (st : St) (a : Addr) (m : MO) : (st.set a m) a = some m := by simp [St.set]
theorem St.set_ne (st : St) {a b : Addr} (m : MO) (h : b ≠ a) : (st.set a m) b = st b := by simp [St.set, h]
def Holds (P : Params) (st : St) (h : Heap) : Prop := ∀ a m, st a = some m -> HO P h a m
def KO (o o' : Obj) : Prop := o' = o \/ ((o.cls = .type "frame" /\ ∃ es n, o.data = .dict es n) /\ o'.cls = o.cls /\ o'.data = o.data)
theorem KO.refl (o : Obj) : KO o o := .inl rfl
theorem KO.trans {a b c : Obj} (x : KO a b) (y : KO b c) : KO a c := by
 rcases x with rfl | ⟨x1, x2, x3⟩
 . exact y
 . rcases y with rfl | ⟨_, y2, y3⟩
   . exact .inr ⟨x1, x2, x3⟩
   . exact .inr ⟨x1, y2.trans x2, y3.trans x3⟩
theorem KO.cls {a b : Obj} (x : KO a b) : b.cls = a.cls := by rcases x with rfl | ⟨_, x2, _⟩ <;> first | rfl | exact x2
theorem KO.data {a b : Obj} (x : KO a b) : b.data = a.data := by rcases x with rfl | ⟨_, _, x3⟩ <;> first | rfl | exact x3
theorem KO.eq {a b : Obj} (x : KO a b) (h : a.cls ≠ .type "frame") : b = a := by rcases x with rfl | ⟨h', _, _⟩ <;> first | rfl | exact absurd h'.1 h
def OO (o o' : Obj) : Prop := o'.cls = o.cls /\ ((∃ es n, o.data = .dict es n) -> ∃ es n, o'.data = .dict es n) /\ ((∃ v, o.data = .cell v) -> ∃ v, o'.data = .cell v)
theorem OO.refl (o : Obj) : OO o o := ⟨rfl, id, id⟩
theorem OO.trans {a b c : Obj} (x : OO a b) (y : OO b c) : OO a c := ⟨y.1.trans x.1, fun h => y.2.1 (x.2.1 h), fun h => y.2.2 (x.2.2 h)⟩
theorem KO.oo {a b : Obj} (x : KO a b) : OO a b := ⟨x.cls, fun ⟨es, n, h⟩ => ⟨es, n, x.data.trans h⟩, fun ⟨v, h⟩ => ⟨v, x.data.trans h⟩⟩
inductive KOx (h : Heap) (b : Addr) (o : Obj) : Prop
 | mk (o' : Obj) (e : h.get? b = some o') (k : KO o o')
inductive OOx (h : Heap) (b : Addr) (o : Obj) : Prop
 | mk (o' : Obj) (e : h.get? b = some o') (k : OO o o')
structure Step (P : Params) (F : Addr -> Prop) (st : St) (s : Shared) (st' : St) (s' : Shared) : Prop where
 holds : Holds P st' s'.heap
 sub : ∀ a, st' a ≠ none -> st a ≠ none \/ s.heap.get? a = none
 ext : ∀ b o, ¬ F b -> st b = none -> s.heap.get? b = some o -> KOx s'.heap b o
 own : ∀ b o, F b -> st b = none -> s.heap.get? b = some o -> OOx s'.heap b o
 mono : ∀ b, (s.heap.get? b).isSome = true -> (s'.heap.get? b).isSome = true
 gens : s'.gens = s.gens
 os : s'.os = s.os
noncomputable def noF : Addr -> Prop := fun O => False
section
variable {P : Params} {F : Addr -> Prop} {st st₁ st₂ : St} {s s₁ s₂ : Shared}
theorem Step.still (x : Step P F st s st₁ s₁) {b : Addr} {o : Obj} (hb : st b = none) (ho : s.heap.get? b = some o) : st₁ b = none := by
 induction q : st₁ b with
 | none => rfl
 | some m =>
  rcases x.sub b (by rw [q]; simp) with h | h
  . exact absurd hb h
  . rw [ho] at h; cases h
theorem Step.trans (x : Step P F st s st₁ s₁) (y : Step P F st₁ s₁ st₂ s₂) : Step P F st s st₂ s₂ where
 holds := y.holds
 sub a h := by
  rcases y.sub a h with h | h
  . exact x.sub a h
  . right
    induction q : s.heap.get? a with
    | none => rfl
    | some o => have := x.mono a (by rw [q]; rfl); rw [h] at this; cases this
 ext b o hf hb ho := by
  obtain ⟨o₁, h1, k1⟩ := x.ext b o hf hb ho
  obtain ⟨o₂, h2, k2⟩ := y.ext b o₁ hf (x.still hb ho) h1
  exact ⟨o₂, h2, k1.trans k2⟩
 own b o hf hb ho := by
  obtain ⟨o₁, h1, k1⟩ := x.own b o hf hb ho
  obtain ⟨o₂, h2, k2⟩ := y.own b o₁ hf (x.still hb ho) h1
  exact ⟨o₂, h2, k1.trans k2⟩
 mono b h := y.mono b (x.mono b h)
 gens := y.gens.trans x.gens
 os := y.os.trans x.os
theorem Step.weak (x : Step P noF st s st₁ s₁) : Step P F st s st₁ s₁ := ⟨x.holds, x.sub, fun b o O => x.ext b o (fun h => h), fun b o O hb ho => let ⟨o', h, k⟩ := x.ext b o (fun h => h) hb ho; ⟨o', h, k.oo⟩, x.mono, x.gens, x.os⟩
theorem Step.toks (h : Holds P st s.heap) (t : Nat) : Step P F st s st { s with toks := t } := ⟨h, fun O h => .inl h, fun O o O O ho => ⟨o, ho, .refl o⟩, fun O o O O ho => ⟨o, ho, .refl o⟩, fun O h => h, rfl, rfl⟩
theorem Step.refl (h : Holds P st s.heap) : Step P F st s st s := Step.toks h _
def St.le (a b : St) : Prop := ∀ x, a x = none \/ a x = b x
theorem Step.forget (x : Step P F st s st₁ s₁) (h : St.le st₂ st₁) : Step P F st s st₂ s₁ := by
 refine ⟨fun a m e => ?_, fun a e => ?_, x.ext, x.own, x.mono, x.gens, x.os⟩
 . rcases h a with q | q
   . rw [q] at e; cases e
   . exact x.holds a m (q ▸ e)
 . rcases h a with q | q
   . exact absurd q e
   . exact x.sub a (q ▸ e)
end
section
variable {P : Params} {h h' : Heap} {st : St}
theorem yd7 (H : Holds P st h) {a : Addr} {ws : Array Value} {n : Nat} (x : IsT h a ws n) : st a = none := by
 induction q : st a with
 | none => rfl
 | some m =>
  obtain ⟨o, ho, hm⟩ := H a m q
  have e : o = _ := Option.some.inj (ho.symm.trans x)
  have e := congrArg Obj.cls e
  rcases hm.shape with ⟨q, _⟩ | ⟨q, _⟩ | ⟨C, vs, q, _⟩ <;> (rw [q] at e; simp at e)
theorem ydb (H : Holds P st h) {a : Addr} {ob : Obj} (x : h.get? a = some ob) (hd : ob.data = .plain) : st a = none := by
 induction q : st a with
 | none => rfl
 | some m =>
  obtain ⟨o, ho, hm⟩ := H a m q
  rw [ho] at x; cases x
  rcases hm.shape with ⟨_, _, _, q⟩ | ⟨_, _, _, q⟩ | ⟨_, _, _, q⟩ <;> (rw [q] at hd; cases hd)
theorem ycy (H : Holds P st h) {a : Addr} {ob : Obj} {vs : Array Value} {T : String} (x : h.get? a = some ob) (hc : ob.cls = .type T) (hd : ob.data = .fields vs) : st a = none := by
 induction q : st a with
 | none => rfl
 | some m =>
  obtain ⟨o, ho, hm⟩ := H a m q
  rw [ho] at x; cases x
  rcases hm.shape with ⟨_, _, _, q⟩ | ⟨_, _, _, q⟩ | ⟨_, _, q, _⟩
  . rw [q] at hd; cases hd
  . rw [q] at hd; cases hd
  . rw [q] at hc; cases hc
def KpD (D : Addr -> Prop) (h h' : Heap) : Prop := ∀ b o, ¬ D b -> h.get? b = some o -> KOx h' b o
structure DOk (D : Addr -> Prop) (h : Heap) : Prop where
 tup : ∀ a ws n, IsT h a ws n -> ¬ D a
 rng : ∀ a ob vs, h.get? a = some ob -> ob.cls = .type "range" -> ob.data = .fields vs -> ¬ D a
 obj : ∀ a ob, h.get? a = some ob -> ob.data = .plain -> (∃ C, ob.cls = .ref C) -> ¬ D a
structure KpV (h h' : Heap) : Prop where
 tup : ∀ a ws n, IsT h a ws n -> IsT h' a ws n
 rng : ∀ a ob vs, h.get? a = some ob -> ob.cls = .type "range" -> ob.data = .fields vs -> h'.get? a = some ob
 obj : ∀ a ob, h.get? a = some ob -> ob.data = .plain -> (∃ C, ob.cls = .ref C) -> h'.get? a = some ob
theorem VR.keepV (K : KpV h h') {x : V} {v : Value} (r : VR h x v) : VR h' x v :=
 @VR.rec h (fun x v O => VR h' x v) (fun xs vs O => VRs h' xs vs) .none .bool .int .str (fun a O ih => .tup (K.tup _ _ _ a) ih) .ptr (fun e hc hn hd => .obj (K.obj _ _ e hn ⟨_, hc⟩) hc hn hd) (fun e => .rng (K.rng _ _ _ e rfl rfl)) (fun e => .rgd (K.rng _ _ _ e rfl rfl)) .raw .nil (fun O O a b => .cons a b) _ _ r
theorem VRs.keepV (K : KpV h h') {xs : List V} {vs : List Value} (r : VRs h xs vs) : VRs h' xs vs := r.ind (P := VRs h') .nil fun a O ih => .cons (a.keepV K) ih
theorem SEs.keepV (K : KpV h h') {l : List (Str × V)} {es : List DictEntry} (r : SEs P h l es) : SEs P h' l es := by
 induction r with
 | nil => exact .nil
 | cons a _ ih => exact .cons (a.keepV K) ih
theorem NEs.keepV (K : KpV h h') {l : List (Int × V)} {es : List DictEntry} (r : NEs h l es) : NEs h' l es := by
 induction r with
 | nil => exact .nil
 | cons a _ ih => exact .cons (a.keepV K) ih
theorem MOR.keepV (K : KpV h h') {m : MO} {o : Obj} (x : MOR P h m o) : MOR P h' m o := by
 induction x with
 | lst r => exact .lst (r.keepV K)
 | sd r => exact .sd (r.keepV K)
 | nd r => exact .nd (r.keepV K)
 | exo a b c d e => exact .exo a b c d e
theorem KpV.of {D : Addr -> Prop} (H : DOk D h) (K : KpD D h h') : KpV h h' where
 tup a ws n x := by
  obtain ⟨o', ho', k⟩ := K _ _ (H.tup _ _ _ x) x
  have := k.eq (by simp)
  subst this
  exact ho'
 rng a ob vs x hc hd := by
  obtain ⟨o', ho', k⟩ := K _ _ (H.rng _ _ _ x hc hd) x
  have := k.eq (by rw [hc]; simp)
  subst this
  exact ho'
 obj a ob x hn hC := by
  obtain ⟨o', ho', k⟩ := K _ _ (H.obj _ _ x hn hC) x
  obtain ⟨C, hc⟩ := hC
  have := k.eq (by rw [hc]; intro q; cases q)
  subst this
  exact ho'
theorem VR.keepD {D : Addr -> Prop} (H : DOk D h) (K : KpD D h h') {x : V} {v : Value} (r : VR h x v) : VR h' x v := r.keepV (.of H K)
theorem VRs.keepD {D : Addr -> Prop} (H : DOk D h) (K : KpD D h h') {xs : List V} {vs : List Value} (r : VRs h xs vs) : VRs h' xs vs := r.keepV (.of H K)
theorem MOR.keepD {D : Addr -> Prop} (H : DOk D h) (K : KpD D h h') {m : MO} {o : Obj} (x : MOR P h m o) : MOR P h' m o := x.keepV (.of H K)
def Kp (st : St) (h h' : Heap) : Prop := ∀ b o, st b = none -> h.get? b = some o -> KOx h' b o
theorem Kp.d (K : Kp st h h') : KpD (fun b => st b ≠ none) h h' := fun b o hb ho => K b o (Classical.byContradiction hb) ho
theorem DOk.ofSt (H : Holds P st h) : DOk (fun b => st b ≠ none) h := ⟨fun a ws n x q => q (yd7 H x), fun a ob vs x hc hd q => q (ycy H x hc hd), fun a ob x hd O q => q (ydb H x hd)⟩
theorem VR.keep (H : Holds P st h) (K : Kp st h h') {x : V} {v : Value} (r : VR h x v) : VR h' x v := r.keepD (.ofSt H) K.d
theorem VRs.keep (H : Holds P st h) (K : Kp st h h') {xs : List V} {vs : List Value} (r : VRs h xs vs) : VRs h' xs vs := r.keepD (.ofSt H) K.d
theorem MOR.keep (H : Holds P st h) (K : Kp st h h') {m : MO} {o : Obj} (x : MOR P h m o) : MOR P h' m o := x.keepD (.ofSt H) K.d
theorem Step.kp {st₁ : St} {s s₁ : Shared} (x : Step P noF st s st₁ s₁) : Kp st s.heap s₁.heap := fun b o hb ho => x.ext b o (fun h => h) hb ho
end
end NN
end
open NN.Ja NN.Jb NN.Jc NN.Jd NN.Je NN.Jf
local macro_rules
  | `(tactic| cases $x:ident) => `(tactic| first | (have e := iv $x; clear $x; subst e) | (refine Exists.elim (iw $x) ?_; clear $x; intro _ e; subst e) | exact no $x | cases ($x))
section
open PySem PySem.W PyProof.Rows PySem.Calls
set_option maxRecDepth 100000
set_option linter.all false
namespace NN
structure Wo where
 prog : Program
 w : World
 K : Frag
 mg : Str -> Option Value
 mb : Str -> Option Value
structure Wo.In (o : Wo) (h : Heap) : Prop where
 k : o.K.In h
 g : h.Ns mainGlobals o.mg
 b : h.Ns builtinsNs o.mb
 bi : ∀ x : Str, x ≠ "__name__" -> o.mb x = bootBuiltins x
 nolimit : h.NoLimit
noncomputable abbrev Wo.M (o : Wo) : Model := model o.prog o.w
noncomputable abbrev Wo.P (o : Wo) : Params := o.w.params
def Wo.ad (o : Wo) (a : Addr) : Prop := (∃ ob, o.K.lookup a = some ob) \/ a = mainGlobals \/ a = builtinsNs \/ a = cStatics
inductive FrX (env : Env) (h : Heap) : Prop
 | mk (k : env.scope.kind ≠ .module) (L : Addr) (o : Obj) (f : env.frame = some L) (e : h.get? L = some o) (c : o.cls = .type "frame") (d : ∃ es n, o.data = .dict es n)
def yrb (fs : List Env) (h : Heap) : Prop := ∀ env ∈ fs, FrX env h
structure Kx where
 A : Around
 fs : List Env
 n : Nat
structure KxOk (k : Kx) : Prop where
 fr : k.A.frames = some k.fs
 depth : k.A.depth + k.n < recursionLimit
 units : k.A.units + 5 * k.n + 40 < cLine
 handled : k.A.handled = none
structure SI (o : Wo) (k : Kx) (st : St) (s : Shared) : Prop where
 ok : KxOk k
 wd : o.In s.heap
 fs : yrb k.fs s.heap
 hs : Holds o.P st s.heap
 sep : ∀ a, o.ad a -> st a = none
structure Cx where
 k : Kx
 env : Env
structure CxOk (c : Cx) : Prop where
 kind : c.env.scope.kind = .function
 glob : c.env.globals = mainGlobals
 blt : c.env.builtins = builtinsNs
noncomputable def yae := Str -> Option V
noncomputable def yae.nil : yae := fun O => none
noncomputable def yae.set (l : yae) (x : Str) (v : V) : yae := fun y => if y = x then some v else l y
theorem yae.set_same (l : yae) (x : Str) (v : V) : (l.set x v) x = some v := by simp [yae.set]
theorem yae.set_ne (l : yae) {x y : Str} (v : V) (h : y ≠ x) : (l.set x v) y = l y := by simp [yae.set, h]
inductive LBl (env : Env) (m : Str -> Option Value) (h : Heap) (x : Str) (v : V) : Prop
 | mk (k : env.kindOf x = some .local) (u : Value) (e : m x = some u) (r : VR h v u)
inductive LBc (env : Env) (h : Heap) (x : Str) (v : V) : Prop
 | mk (k : env.kindOf x = some .cell \/ env.kindOf x = some .free) (n : (x == ("__classdict__" : Str)) = false) (a : Addr) (u : Value) (e : env.cells.lookup x = some a) (c : h.IsCell a (some u)) (r : VR h v u)
structure LocR (env : Env) (loc : yae) (h : Heap) : Prop where
 ns : ∃ m, h.Ns env.locals m /\ ∀ x v, loc x = some v -> LBl env m h x v \/ LBc env h x v
 cells : ∀ x a, env.cells.lookup x = some a -> ∃ u, h.IsCell a u
 apart : env.cells.Pairwise fun x y => x.2 ≠ y.2
theorem LocR.nil {env : Env} {loc : yae} {h : Heap} (x : LocR env loc h) : LocR env yae.nil h := ⟨let ⟨m, hm, _⟩ := x.ns; ⟨m, hm, fun O O e => nomatch e⟩, x.cells, x.apart⟩
def own (c : Cx) (a : Addr) : Prop := a = c.env.locals \/ ∃ x, (x, a) ∈ c.env.cells
inductive OwX (h : Heap) (b : Addr) : Prop
 | mk (o : Obj) (T : String) (e : h.get? b = some o) (c : o.cls = .type T) (d : (∃ es n, o.data = .dict es n) \/ ∃ v, o.data = .cell v)
structure OwnT (c : Cx) (h : Heap) : Prop where
 ex : ∀ b, own c b -> OwX h b
structure Inv (o : Wo) (c : Cx) (loc : yae) (st : St) (s : Shared) : Prop where
 cx : CxOk c
 si : SI o c.k st s
 lc : LocR c.env loc s.heap
 ow : OwnT c s.heap
 ost : ∀ a, own c a -> st a = none
 oad : ∀ a, own c a -> ¬ o.ad a
theorem Inv.loc {o : Wo} {c : Cx} {loc : yae} {st : St} {s : Shared} (I : Inv o c loc st s) : st c.env.locals = none := I.ost _ (.inl rfl)
theorem Inv.cel {o : Wo} {c : Cx} {loc : yae} {st : St} {s : Shared} (I : Inv o c loc st s) : ∀ x a, (x, a) ∈ c.env.cells -> st a = none := fun x a h => I.ost _ (.inr ⟨x, h⟩)
section
variable {o : Wo} {env : Env} {st st' : St} {s s' : Shared} {h h' : Heap} {loc : yae} {P : Params}
theorem ykr {a : Addr} {m : Str -> Option Value} (K : Kp st h h') (ha : st a = none) (x : h.Ns a m) : h'.Ns a m := by
 obtain ⟨ob, es, ep, ho, hd, r⟩ := x
 obtain ⟨o', ho', k⟩ := K a ob ha ho
 exact ⟨o', es, ep, ho', k.data.trans hd, r⟩
theorem ymn {a : Addr} {v : Option Value} (K : Kp st h h') (ha : st a = none) (x : h.IsCell a v) : h'.IsCell a v := by
 obtain ⟨ob, ho, hd⟩ := x
 obtain ⟨o', ho', k⟩ := K a ob ha ho
 exact ⟨o', ho', k.data.trans hd⟩
def yp9 (K : Frag) : Prop := ∀ a ob, K.lookup a = some ob -> ob.cls ≠ .type "frame"
theorem In.keep (hK : yp9 o.K) (K : Kp st h h') (sep : ∀ a, o.ad a -> st a = none) (x : o.In h) : o.In h' where
 k := fun a ob e => by
  obtain ⟨o', ho', k⟩ := K a ob (sep a (.inl ⟨ob, e⟩)) (x.k a ob e)
  rw [k.eq (hK a ob e)] at ho'
  exact ho'
 g := ykr K (sep _ (.inr (.inl rfl))) x.g
 b := ykr K (sep _ (.inr (.inr (.inl rfl)))) x.b
 bi := x.bi
 nolimit := by
  obtain ⟨mc, h1, h2⟩ := x.nolimit
  exact ⟨mc, ykr K (sep _ (.inr (.inr (.inr rfl)))) h1, h2⟩
theorem yrb.not_st {fs : List Env} (H : Holds P st h) (x : yrb fs h) {env : Env} (he : env ∈ fs) {L : Addr} (hL : env.frame = some L) : st L = none := by
 obtain ⟨_, L', ob, hf, ho, hc, _⟩ := x env he
 rw [hL] at hf; cases hf
 induction q : st L with
 | none => rfl
 | some m =>
  obtain ⟨o', ho', hm⟩ := H L m q
  rw [ho] at ho'; cases ho'
  rcases hm.shape with ⟨q, _⟩ | ⟨q, _⟩ | ⟨C, vs, q, _⟩ <;> (rw [q] at hc; simp at hc)
theorem yrb.keep {fs : List Env} (H : Holds P st h) (K : Kp st h h') (x : yrb fs h) : yrb fs h' := fun env he => by
 have hn := fun L hL => yrb.not_st H x he (L := L) hL
 obtain ⟨hk, L, ob, hf, ho, hc, es, n, hd⟩ := x env he
 obtain ⟨o', ho', k⟩ := K L ob (hn L hf) ho
 exact ⟨hk, L, o', hf, ho', k.cls.trans hc, es, n, k.data.trans hd⟩
theorem LocR.keep (H : Holds P st h) (K : Kp st h h') (hl : st env.locals = none) (hc : ∀ x a, (x, a) ∈ env.cells -> st a = none) (x : LocR env loc h) : LocR env loc h' where
 ns := by
  obtain ⟨m, hm, q⟩ := x.ns
  refine ⟨m, ykr K hl hm, fun y v e => ?_⟩
  rcases q y v e with ⟨a, u, b, r⟩ | ⟨a, a', c', u, b, d, r⟩
  . exact .inl ⟨a, u, b, r.keep H K⟩
  . exact .inr ⟨a, a', c', u, b, ymn K (hc _ _ (mem_of_lookup b)) d, r.keep H K⟩
 cells y a e := by
  obtain ⟨u, q⟩ := x.cells y a e
  exact ⟨u, ymn K (hc _ _ (mem_of_lookup e)) q⟩
 apart := x.apart
theorem ye2 {a : Addr} (sub : ∀ a, st' a ≠ none -> st a ≠ none \/ h.get? a = none) (h1 : st a = none) (h2 : (h.get? a).isSome = true) : st' a = none := by
 induction q : st' a with
 | none => rfl
 | some m =>
  rcases sub a (by rw [q]; simp) with h | h
  . exact absurd h1 h
  . rw [h] at h2; cases h2
theorem Ns.isSome {a : Addr} {m : Str -> Option Value} (x : h.Ns a m) : (h.get? a).isSome = true := by
 obtain ⟨_, _, _, ho, _⟩ := x; rw [ho]; rfl
theorem In.ex (x : o.In h) {a : Addr} (ha : o.ad a) : (h.get? a).isSome = true := by
 rcases ha with ⟨ob, e⟩ | rfl | rfl | rfl
 . rw [x.k a ob e]; rfl
 . exact Ns.isSome x.g
 . exact Ns.isSome x.b
 . obtain ⟨mc, h1, _⟩ := x.nolimit; exact Ns.isSome h1
end
class WoOk (o : Wo) : Prop where
 noFrame : yp9 o.K
section
variable {o : Wo} [W : WoOk o] {k : Kx} {c : Cx} {st st' : St} {s s' : Shared} {loc : yae}
theorem SI.step (S : SI o k st s) (x : Step o.P noF st s st' s') : SI o k st' s' :=
 have K := x.kp
 ⟨S.ok, In.keep W.noFrame K S.sep S.wd, S.fs.keep S.hs K, x.holds, fun a ha => ye2 x.sub (S.sep a ha) (In.ex S.wd ha)⟩
theorem OwnT.step {F : Addr -> Prop} (W : OwnT c s.heap) (hst : ∀ a, own c a -> st a = none) (x : Step o.P F st s st' s') : OwnT c s'.heap := ⟨fun b hb => by
 obtain ⟨ob, T, h1, h2, h3⟩ := W.ex b hb
 have : OOx s'.heap b ob := by
  by_cases hf : F b
  . exact x.own b ob hf (hst b hb) h1
  . obtain ⟨o', h, k⟩ := x.ext b ob hf (hst b hb) h1
    exact ⟨o', h, k.oo⟩
 obtain ⟨o', h, k1, k2, k3⟩ := this
 exact ⟨o', T, h, k1.trans h2, h3.imp k2 k3⟩⟩
theorem Inv.step (I : Inv o c loc st s) (x : Step o.P noF st s st' s') : Inv o c loc st' s' := by
 have K := x.kp
 have L' := LocR.keep I.si.hs K I.loc I.cel I.lc
 refine ⟨I.cx, I.si.step x, L', I.ow.step I.ost x, fun a ha => ?_, I.oad⟩
 obtain ⟨ob, T, h1, _⟩ := I.ow.ex a ha
 exact x.still (I.ost a ha) h1
theorem yrb.stepF {F : Addr -> Prop} {fs : List Env} (H : Holds o.P st s.heap) (x : Step o.P F st s st' s') (y : yrb fs s.heap) : yrb fs s'.heap := fun env he => by
 have hn := fun L hL => yrb.not_st H y he (L := L) hL
 obtain ⟨hk, L, ob, hf, ho, hc, es, n, hd⟩ := y env he
 by_cases hF : F L
 . obtain ⟨o', ho', k1, k2, _⟩ := x.own L ob hF (hn L hf) ho
   obtain ⟨es', n', hd'⟩ := k2 ⟨es, n, hd⟩
   exact ⟨hk, L, o', hf, ho', k1.trans hc, es', n', hd'⟩
 . obtain ⟨o', ho', k⟩ := x.ext L ob hF (hn L hf) ho
   exact ⟨hk, L, o', hf, ho', k.cls.trans hc, es, n, k.data.trans hd⟩
theorem Inv.stepF {loc' : yae} (I : Inv o c loc st s) (x : Step o.P (own c) st s st' s') (L' : LocR c.env loc' s'.heap) : Inv o c loc' st' s' := by
 have ad : ∀ a, o.ad a -> ∀ ob, s.heap.get? a = some ob -> KOx s'.heap a ob := fun a ha ob hob => x.ext a ob (fun q => I.oad a q ha) (I.si.sep a ha) hob
 have nk : ∀ {a : Addr} {m : Str -> Option Value}, o.ad a -> s.heap.Ns a m -> s'.heap.Ns a m := fun {a m} ha ⟨ob, es, ep, h1, h2, r⟩ => by
  obtain ⟨o', h, k⟩ := ad a ha ob h1
  exact ⟨o', es, ep, h, k.data.trans h2, r⟩
 refine ⟨I.cx, ⟨I.si.ok, ⟨fun a ob e => ?_, nk (.inr (.inl rfl)) I.si.wd.g, nk (.inr (.inr (.inl rfl))) I.si.wd.b, I.si.wd.bi, ?_⟩, I.si.fs.stepF I.si.hs x, x.holds, fun a ha => ?_⟩, L', I.ow.step I.ost x, fun a ha => ?_, I.oad⟩
 . obtain ⟨o', h, k⟩ := ad a (.inl ⟨ob, e⟩) ob (I.si.wd.k a ob e)
   rw [k.eq (W.noFrame a ob e)] at h
   exact h
 . obtain ⟨mc, h1, h2⟩ := I.si.wd.nolimit
   exact ⟨mc, nk (.inr (.inr (.inr rfl))) h1, h2⟩
 . exact ye2 x.sub (I.si.sep a ha) (In.ex I.si.wd ha)
 . obtain ⟨ob, T, h1, _⟩ := I.ow.ex a ha
   exact x.still (I.ost a ha) h1
theorem DOk.own (I : Inv o c loc st s) : DOk (fun b => st b ≠ none \/ own c b) s.heap where
 tup a ws n x q := by
  rcases q with q | q
  . exact q (yd7 I.si.hs x)
  . obtain ⟨ob, T, h1, h2, h3⟩ := I.ow.ex a q
    have e : ob = _ := Option.some.inj (h1.symm.trans x)
    subst e
    rcases h3 with ⟨es, n, h3⟩ | ⟨v, h3⟩ <;> cases h3
 rng a ob vs x hc hd q := by
  rcases q with q | q
  . exact q (ycy I.si.hs x hc hd)
  . obtain ⟨ob', T, h1, h2, h3⟩ := I.ow.ex a q
    rw [x] at h1; cases h1
    rcases h3 with ⟨es, n, h3⟩ | ⟨v, h3⟩ <;> (rw [hd] at h3; cases h3)
 obj a ob x hd hC q := by
  rcases q with q | q
  . exact q (ydb I.si.hs x hd)
  . obtain ⟨ob', T, h1, h2, h3⟩ := I.ow.ex a q
    rw [x] at h1; cases h1
    obtain ⟨C, hc⟩ := hC
    rw [hc] at h2; cases h2
theorem Step.kpd {F : Addr -> Prop} (x : Step o.P F st s st' s') : KpD (fun b => st b ≠ none \/ F b) s.heap s'.heap := fun b ob hb hob =>
 x.ext b ob (fun q => hb (.inr q)) (Classical.byContradiction fun q => hb (.inl q)) hob
theorem VR.stepF (I : Inv o c loc st s) (x : Step o.P (own c) st s st' s') {a : V} {v : Value} (r : VR s.heap a v) : VR s'.heap a v := r.keepD (DOk.own I) x.kpd
theorem VRs.stepF (I : Inv o c loc st s) (x : Step o.P (own c) st s st' s') {a : List V} {v : List Value} (r : VRs s.heap a v) : VRs s'.heap a v := r.keepD (DOk.own I) x.kpd
end
structure Exc where
 C : Addr
 at' : List (Str × V)
inductive TbIs (N : Addr -> Prop) (h : Heap) (e : Addr) (w : Option Value -> Prop) (v : Option Value) : Prop
 | no (q : v = some .none)
 | tb (T : Addr) (oT : Obj) (ts : Array Value) (c1 : v = some (.ref T)) (c2 : T ≠ e) (c3 : N T) (c4 : h.get? T = some oT) (c5 : oT.data = .fields ts) (c6 : w (ts[3]?)) (c7 : oT.cls = .type "traceback")
theorem TbIs.imp {N N' : Addr -> Prop} {h h' : Heap} {e : Addr} {w w' : Option Value -> Prop} {v : Option Value} (b : TbIs N h e w v) (hN : ∀ T, N T -> N' T) (hh : ∀ T oT, N T -> h.get? T = some oT -> oT.cls = .type "traceback" -> (∃ ts, oT.data = .fields ts) -> h'.get? T = some oT) (hw : ∀ x, w x -> w' x) : TbIs N' h' e w' v := by
 induction b with
 | no q => exact .no q
 | tb T oT ts c1 c2 c3 c4 c5 c6 c7 => exact .tb T oT ts c1 c2 (hN _ c3) (hh _ _ c3 c4 c7 ⟨_, c5⟩) c5 (hw _ c6) c7
inductive FlW (fl : Option Addr) (x : Option Value) : Prop
 | no (q : x = some .none)
 | «at» (L : Addr) (d : fl = some L) (q : x = some (rawInt L))
inductive Flying (P : Params) (fl : Option Addr) (st' : St) (h0 h : Heap) (x : Exc) (e : Addr) : Prop
 | mk (dx : Addr) (oe : Obj) (vs : Array Value) (a0 : Value) (es : List DictEntry) (n : Nat) (b1 : h.get? e = some oe) (b2 : oe.cls = .ref x.C) (b3 : oe.dict = some dx) (b4 : oe.data = .fields vs) (b5 : vs[0]? = some a0)
  (b6 : h.get? dx = some (yoc es n)) (b7 : SEs P h x.at' es) (b8 : h0.get? e = none) (b9 : h0.get? dx = none) (b10 : st' dx = none /\ st' e = none)
  (b11 : TbIs (fun T => h0.get? T = none) h e (FlW fl) (vs[1]?))
theorem Flying.weak {P : Params} {fl : Option Addr} {st' : St} {h0 h : Heap} {x : Exc} {e : Addr} (f : Flying P none st' h0 h x e) : Flying P fl st' h0 h x e := by
 obtain ⟨dx, oe, vs, a0, es, n, b1, b2, b3, b4, b5, b6, b7, b8, b9, b10, b11⟩ := f
 exact ⟨dx, oe, vs, a0, es, n, b1, b2, b3, b4, b5, b6, b7, b8, b9, b10, b11.imp (fun O => id) (fun O O O q O O => q) fun O q => match q with | .no q => .no q | .at _ d _ => nomatch d⟩
inductive UpP {α : Type} (X : α -> St -> Prop) (x : α) (st' : St) : Prop
 | mk (st'' : St) (le : St.le st'' st') (q : X x st'')
inductive PV (o : Wo) (st : St) (s : Shared) (Q : V -> St -> Prop) (v : Value) (s' : Shared) : Prop
 | mk (r : V) (st' : St) (h : VR s'.heap r v) (S : Step o.P noF st s st' s') (q : Q r st')
inductive PB (o : Wo) (st : St) (s : Shared) (Q : Bool -> St -> Prop) (b : Bool) (s' : Shared) : Prop
 | mk (st' : St) (S : Step o.P noF st s st' s') (q : Q b st')
inductive PVs (o : Wo) (st : St) (s : Shared) (Q : List V -> St -> Prop) (v : List Value) (s' : Shared) : Prop
 | mk (r : List V) (st' : St) (h : VRs s'.heap r v) (S : Step o.P noF st s st' s') (q : Q r st')
inductive PXg (o : Wo) (F : Addr -> Prop) (G : Heap -> Prop) (fl : Option Addr) (st : St) (s : Shared) (X : Exc -> St -> Prop) (ev : Value) (s' : Shared) : Prop
 | mk (x : Exc) (st' : St) (e : Addr) (he : ev = .ref e) (f : Flying o.P fl st' s.heap s'.heap x e) (S : Step o.P F st s st' s') (g : G s'.heap) (q : X x st')
noncomputable abbrev PX (o : Wo) (F : Addr -> Prop) (st : St) (s : Shared) (X : Exc -> St -> Prop) : Value -> Shared -> Prop := PXg o F (fun O => True) none st s X
section
variable {o : Wo} {F : Addr -> Prop} {st st₁ : St} {s s₁ s' : Shared}
theorem ya5 {F : Addr -> Prop} (x : Step o.P F st s st₁ s₁) {a : Addr} (h : s₁.heap.get? a = none) : s.heap.get? a = none := by
 induction q : s.heap.get? a with
 | none => rfl
 | some o => have := x.mono a (by rw [q]; rfl); rw [h] at this; cases this
theorem PV.trans {Q : V -> St -> Prop} {v : Value} (x : Step o.P noF st s st₁ s₁) (h : PV o st₁ s₁ Q v s') : PV o st s Q v s' :=
 let ⟨r, st', a, b, c⟩ := h; ⟨r, st', a, x.trans b, c⟩
theorem PB.trans {Q : Bool -> St -> Prop} {v : Bool} (x : Step o.P noF st s st₁ s₁) (h : PB o st₁ s₁ Q v s') : PB o st s Q v s' :=
 let ⟨st', b, c⟩ := h; ⟨st', x.trans b, c⟩
theorem PXg.trans {fl : Option Addr} {G : Heap -> Prop} {X : Exc -> St -> Prop} {v : Value} (x : Step o.P F st s st₁ s₁) (h : PXg o F G fl st₁ s₁ X v s') : PXg o F G fl st s X v s' := by
 obtain ⟨y, st', e, a, ⟨dx, oe, vs, a0, es, n, b1, b2, b3, b4, b5, b6, b7, b8, b9, b10, b11⟩, c, g, d⟩ := h
 exact ⟨y, st', e, a, ⟨dx, oe, vs, a0, es, n, b1, b2, b3, b4, b5, b6, b7, ya5 x b8, ya5 x b9, b10, b11.imp (fun O => ya5 x) (fun O O O q O O => q) fun O => id⟩, x.trans c, g, d⟩
theorem PV.mono {Q Q' : V -> St -> Prop} {v : Value} (h : PV o st s Q v s') (q : ∀ r st', Q r st' -> Q' r st') : PV o st s Q' v s' :=
 let ⟨r, st', a, b, c⟩ := h; ⟨r, st', a, b, q _ _ c⟩
theorem PXg.mono {fl : Option Addr} {G : Heap -> Prop} {X X' : Exc -> St -> Prop} {v : Value} (h : PXg o F G fl st s X v s') (q : ∀ r st', X r st' -> X' r st') : PXg o F G fl st s X' v s' :=
 let ⟨y, st', e, a, b, c, g, d⟩ := h; ⟨y, st', e, a, b, c, g, q _ _ d⟩
end
def EV (o : Wo) (c : Cx) (loc : yae) (st : St) (e : Expr) (Q : V -> St -> Prop) (X : Exc -> St -> Prop) : Prop :=
 ∀ s, Inv o c loc st s -> wpAny o.M c.k.A (eval e c.env) (PV o st s Q) (PX o noF st s X) s
def EVs (o : Wo) (c : Cx) (loc : yae) (st : St) (pos : Pos) (es : List Expr) (Q : List V -> St -> Prop) (X : Exc -> St -> Prop) : Prop :=
 ∀ s, Inv o c loc st s -> wpAny o.M c.k.A (spliced (backTo pos (starEach es c.env))) (PVs o st s Q) (PX o noF st s X) s
def TR (o : Wo) (c : Cx) (loc : yae) (st : St) (e : Expr) (Q : Bool -> St -> Prop) (X : Exc -> St -> Prop) : Prop :=
 ∀ s, Inv o c loc st s -> wpAny o.M c.k.A (isTrue e c.env (eval e c.env)) (PB o st s Q) (PX o noF st s X) s
def OPB (o : Wo) (k : Kx) (st : St) (op : Operator) (a b : V) (Q : V -> St -> Prop) (X : Exc -> St -> Prop) : Prop :=
 ∀ s va vb, SI o k st s -> VR s.heap a va -> VR s.heap b vb -> wpAny o.M k.A (binaryOp op va vb) (PV o st s Q) (PX o noF st s X) s
def OPI (o : Wo) (k : Kx) (st : St) (op : Operator) (a b : V) (Q : V -> St -> Prop) (X : Exc -> St -> Prop) : Prop :=
 ∀ s va vb, SI o k st s -> VR s.heap a va -> VR s.heap b vb -> wpAny o.M k.A (inplaceOp op va vb) (PV o st s Q) (PX o noF st s X) s
def OPU (o : Wo) (k : Kx) (st : St) (op : UnaryOp) (a : V) (Q : V -> St -> Prop) (X : Exc -> St -> Prop) : Prop :=
 ∀ s va, SI o k st s -> VR s.heap a va -> wpAny o.M k.A (unaryOp op va) (PV o st s Q) (PX o noF st s X) s
def CMP (o : Wo) (k : Kx) (st : St) (op : CmpOp) (a b : V) (Q : V -> St -> Prop) (X : Exc -> St -> Prop) : Prop :=
 ∀ s va vb, SI o k st s -> VR s.heap a va -> VR s.heap b vb -> wpAny o.M k.A (compareOp op va vb) (PV o st s Q) (PX o noF st s X) s
def TRV (o : Wo) (k : Kx) (st : St) (a : V) (Q : Bool -> St -> Prop) (X : Exc -> St -> Prop) : Prop :=
 ∀ s va, SI o k st s -> VR s.heap a va -> wpAny o.M k.A (truthy va) (PB o st s Q) (PX o noF st s X) s
def yak (o : Wo) (k : Kx) (st : St) (f : Value) (as : List V) (Q : V -> St -> Prop) (X : Exc -> St -> Prop) : Prop :=
 ∀ s vs, SI o k st s -> VRs s.heap as vs -> wpAny o.M k.A (call f vs []) (PV o st s Q) (PX o noF st s X) s
noncomputable def RV (o : Wo) (st : St) (s : Shared) (Q : V -> St -> Prop) (X : Exc -> St -> Prop) : Result -> Shared -> Prop := fun r s' => match r with
 | .ok (.ret v) => PV o st s Q v s'
 | .ok _ => False
 | .error e => PX o noF st s X e s'
def yq7 (o : Wo) (k : Kx) (st : St) (f : Value) (as : List V) (Q : V -> St -> Prop) (X : Exc -> St -> Prop) : Prop :=
 ∀ s vs, SI o k st s -> VRs s.heap as vs -> codeAny o.M k.A (.call f ⟨vs, []⟩) (RV o st s Q X) s
theorem yq7.call {o : Wo} {k : Kx} {st : St} {f : Value} {as : List V} {Q : V -> St -> Prop} {X : Exc -> St -> Prop} (h : yq7 o k st f as Q X) : yak o k st f as Q X := fun s vs S r => wpAny_call (h s vs S r)
section
variable {o : Wo} [W : WoOk o] {c : Cx} {k : Kx} {loc : yae} {st : St} {Q : V -> St -> Prop} {X : Exc -> St -> Prop}
theorem EV.mono {e : Expr} {Q' : V -> St -> Prop} {X' : Exc -> St -> Prop} (h : EV o c loc st e Q X) (q : ∀ r st', Q r st' -> Q' r st') (x : ∀ r st', X r st' -> X' r st') : EV o c loc st e Q' X' :=
 fun s I => wpAny_mono (h s I) (fun O O p => p.mono q) fun O O p => p.mono x
theorem yib {x : Str} {pos : Pos} {v : V} (hx : loc x = some v) (hd : (x == ("__debug__" : Str)) = false) (h : Q v st) : EV o c loc st (.Name x pos) Q X := fun s I => by
 obtain ⟨m, hm, q⟩ := I.lc.ns
 have fin : ∀ u, VR s.heap v u -> PV o st s Q u s := fun u r => ⟨v, st, r, Step.refl I.si.hs, h⟩
 rcases q x v hx with ⟨hl, u, hu, r⟩ | ⟨hl, hn, a, u, ha, hc, r⟩
 . exact wpAny_Name (wpAny_loadName_local I.cx.kind hl hm hu (fin u r)) hd
 . rcases hl with hl | hl
   . exact wpAny_Name (wpAny_loadName_cell I.cx.kind hl ha hc (fin u r)) hd
   . exact wpAny_Name (wpAny_loadName_free I.cx.kind hl ha hc (fin u r) hn) hd
theorem ev_glob {x : Str} {pos : Pos} {v : Value} (hk : c.env.kindOf x = some .globalImplicit) (hx : o.mg x = some v) (hd : (x == ("__debug__" : Str)) = false) (h : Q (.raw v) st) :
 EV o c loc st (.Name x pos) Q X := fun s I =>
 Name_function_global I.cx.kind hk (loadGlobal_global (by rw [I.cx.glob]; exact I.si.wd.g) hx ⟨.raw v, st, .raw v, Step.refl I.si.hs, h⟩) hd
theorem ev_blt {x : Str} {pos : Pos} {v : Value} (hk : c.env.kindOf x = some .globalImplicit) (hx : o.mg x = none) (hv : bootBuiltins x = some v) (hn : x ≠ "__name__") (hd : (x == ("__debug__" : Str)) = false) (h : Q (.raw v) st) :
 EV o c loc st (.Name x pos) Q X := fun s I =>
 Name_function_global I.cx.kind hk (loadGlobal_builtin (by rw [I.cx.glob]; exact I.si.wd.g) hx (by rw [I.cx.blt]; exact I.si.wd.b) ((I.si.wd.bi x hn).trans hv) ⟨.raw v, st, .raw v, Step.refl I.si.hs, h⟩) hd
theorem ytd {i : Int} {k : Nat} {pos : Pos} (h : Q (.int i) st) : EV o c loc st (.Constant (.int i) k pos) Q X := fun s I =>
 wpAny_Constant_int ⟨.int i, st, .int _ _, Step.toks I.si.hs _, h⟩
theorem ev_str {x : Str} {k : Nat} {pos : Pos} (h : Q (.str x) st) : EV o c loc st (.Constant (.str x) k pos) Q X := fun s I =>
 Constant_str ⟨.str x, st, .str _ _, Step.toks I.si.hs _, h⟩
theorem ev_bool {b : Bool} {k : Nat} {pos : Pos} (h : Q (.bool b) st) : EV o c loc st (.Constant (.bool b) k pos) Q X := fun s I =>
 show wpAny _ _ (pure (Value.bool b)) _ _ s from wpAny_pure ⟨.bool b, st, .bool _, Step.refl I.si.hs, h⟩
theorem ev_none {k : Nat} {pos : Pos} (h : Q .none st) : EV o c loc st (.Constant .none k pos) Q X := fun s I =>
 show wpAny _ _ (pure Value.none) _ _ s from wpAny_pure ⟨.none, st, .none, Step.refl I.si.hs, h⟩
theorem ev_bin {l r : Expr} {op : Operator} {pos : Pos} (h : EV o c loc st l (fun a st₁ => EV o c loc st₁ r (fun b st₂ => OPB o c.k st₂ op a b Q X) X) X) : EV o c loc st (.BinOp l op r pos) Q X := fun s I => by
 refine wpAny_BinOp (wpAny_mono (h s I) (fun va s₁ p => ?_) fun O O p => p)
 obtain ⟨a, st₁, ra, S₁, q₁⟩ := p
 have I₁ := I.step S₁
 refine wpAny_mono (q₁ s₁ I₁) (fun vb s₂ p => ?_) fun O O p => p.trans S₁
 obtain ⟨b, st₂, rb, S₂, q₂⟩ := p
 have I₂ := I₁.step S₂
 exact wpAny_mono (q₂ s₂ va vb I₂.si (ra.keep I₁.si.hs S₂.kp) rb) (fun O O p => p.trans (S₁.trans S₂)) fun O O p => p.trans (S₁.trans S₂)
end
section
variable {P : Params} {F : Addr -> Prop} {st : St} {s : Shared} {h : Heap}
theorem Kp.push (ob : Obj) : Kp st h (h.push ob) := fun b o O ho => ⟨o, Heap.get?_push_of_some _ ho, .refl o⟩
theorem Holds.push (H : Holds P st h) (ob : Obj) : Holds P st (h.push ob) := fun a m e => by
 obtain ⟨o, ho, hm⟩ := H a m e
 exact ⟨o, Heap.get?_push_of_some _ ho, hm.keep H (Kp.push ob)⟩
theorem Step.push (H : Holds P st s.heap) (ob : Obj) (t : Nat) : Step P F st s st { s with heap := s.heap.push ob, toks := t } where
 holds := H.push ob
 sub _ h := .inl h
 ext b o _ _ ho := ⟨o, Heap.get?_push_of_some _ ho, .refl o⟩
 own b o _ _ ho := ⟨o, Heap.get?_push_of_some _ ho, .refl o⟩
 mono b h := by
  obtain ⟨o, ho⟩ := Option.isSome_iff_exists.mp h
  rw [show ({ s with heap := s.heap.push ob, toks := t } : Shared).heap = s.heap.push ob from rfl, Heap.get?_push_of_some _ ho]; rfl
 gens := rfl
 os := rfl
theorem ybo (H : Holds P st h) : st h.objs.size = none := by
 induction q : st h.objs.size with
 | none => rfl
 | some m => obtain ⟨o, ho, _⟩ := H _ m q; exact absurd (Heap.lt_size ho) (Nat.lt_irrefl _)
set_option tactic.hygienic true in
theorem Step.alloc (H : Holds P st s.heap) (ob : Obj) (m : MO) (hf : ob.isFreed = false) (hm : MOR P s.heap m ob) (t : Nat) :
 Step P F st s (st.set s.heap.objs.size m) { s with heap := s.heap.push ob, toks := t } where
 holds := fun a m' e => by
  unfold St.set at e
  split at e
  . rename_i q; cases e; subst q
    exact ⟨ob, Heap.get?_push_size _ hf, hm.keep H (Kp.push ob)⟩
  . exact (H.push ob) a m' e
 sub a e := by
  unfold St.set at e
  split at e
  . rename_i q; subst q; exact .inr (Heap.get?_none_of_le (Nat.le_refl _))
  . exact .inl e
 ext b o _ _ ho := ⟨o, Heap.get?_push_of_some _ ho, .refl o⟩
 own b o _ _ ho := ⟨o, Heap.get?_push_of_some _ ho, .refl o⟩
 mono b h := by
  obtain ⟨o, ho⟩ := Option.isSome_iff_exists.mp h
  rw [show ({ s with heap := s.heap.push ob, toks := t } : Shared).heap = s.heap.push ob from rfl, Heap.get?_push_of_some _ ho]; rfl
 gens := rfl
 os := rfl
set_option tactic.hygienic true in
theorem Step.upd {a : Addr} {m : MO} {ob : Obj} {h' : Heap} (H : Holds P st s.heap) (ha : st a ≠ none) (hs : Heap.SameBut a s.heap h') (ho : h'.get? a = some ob) (hm : ∀ hh, Kp st s.heap hh -> MOR P hh m ob) (t : Nat) :
 Step P F st s (st.set a m) { s with heap := h', toks := t } := by
 have K : Kp st s.heap h' := fun b o hb hob => ⟨o, (hs.2 b (by intro q; subst q; exact ha hb)).trans hob, .refl o⟩
 refine ⟨fun b m' e => ?_, fun b e => ?_, fun b o O hb hob => K b o hb hob, fun b o O hb hob => let ⟨o', h, k⟩ := K b o hb hob; ⟨o', h, k.oo⟩, fun b e => ?_, rfl, rfl⟩
 . unfold St.set at e
   split at e
   . rename_i q; cases e; subst q
     exact ⟨ob, ho, hm _ K⟩
   . rename_i q
     obtain ⟨o, h1, h2⟩ := H b m' e
     exact ⟨o, (hs.2 b q).trans h1, h2.keep H K⟩
 . unfold St.set at e
   split at e
   . rename_i q; subst q; exact .inl ha
   . exact .inl e
 . by_cases q : b = a
   . subst q; rw [show ({ s with heap := h', toks := t } : Shared).heap = h' from rfl, ho]; rfl
   . rw [show ({ s with heap := h', toks := t } : Shared).heap = h' from rfl, hs.2 b q]; exact e
end
section
variable {o : Wo} {k : Kx} {st : St} {Q : V -> St -> Prop} {X : Exc -> St -> Prop}
theorem ybg {s : Shared} {v : V} {u : Value} {t : Nat} (S : SI o k st s) (r : VR s.heap v u) (h : Q v st) : PV o st s Q u { s with toks := t } := ⟨v, st, r, Step.toks S.hs _, h⟩
theorem ybn {s : Shared} {v : V} {u : Value} (S : SI o k st s) (r : VR s.heap v u) (h : Q v st) : PV o st s Q u s := ⟨v, st, r, Step.refl S.hs, h⟩
section
variable {i j : Int}
theorem ydv {op : Operator} (f : ∀ s t u, SI o k st s -> wpAny o.M k.A (binaryOp op (.int i t) (.int j u)) (PV o st s Q) (PX o noF st s X) s) : OPB o k st op (.int i) (.int j) Q X := fun s va vb S ra rb => by cases ra; cases rb; exact f _ _ _ S
theorem yjt {op : CmpOp} (f : ∀ s t u, SI o k st s -> wpAny o.M k.A (compareOp op (.int i t) (.int j u)) (PV o st s Q) (PX o noF st s X) s) : CMP o k st op (.int i) (.int j) Q X := fun s va vb S ra rb => by cases ra; cases rb; exact f _ _ _ S
theorem opb_add (h : Q (.int (i + j)) st) : OPB o k st .Add (.int i) (.int j) Q X := ydv fun s O O S => add_int (ybg S (.int _ _) h)
theorem opb_sub (h : Q (.int (i - j)) st) : OPB o k st .Sub (.int i) (.int j) Q X := ydv fun s O O S => sub_int (ybg S (.int _ _) h)
theorem yav (hm : IntMulOk i j) (h : Q (.int (i * j)) st) : OPB o k st .Mult (.int i) (.int j) Q X := ydv fun s O O S => mul_int (ybg S (.int _ _) h) hm
theorem yco (hj : j ≠ 0) (hs : j.natAbs.log2 < 9000) (h : Q (.int (i.fdiv j)) st) : OPB o k st .FloorDiv (.int i) (.int j) Q X := ydv fun s O O S => floordiv_int hj (ybg S (.int _ _) h) (.inl (PyProof.noPylong_of_log2 hs))
theorem opb_mod (hj : j ≠ 0) (h : Q (.int (i.fmod j)) st) : OPB o k st .Mod (.int i) (.int j) Q X := ydv fun s O O S => mod_int' hj (ybg S (.int _ _) h)
theorem yng (hj : 0 <= j) (hs : (Builtin.Int.intBits i : Int) * j <= 2 ^ 27) (h : Q (.int (i ^ j.toNat)) st) : OPB o k st .Pow (.int i) (.int j) Q X := ydv fun s O O S => pow_int hj hs (ybg S (.int _ _) h)
theorem yb8 (hj : 0 <= j) (hs : (Builtin.Int.intBits i : Int) + j <= 2 ^ 27) (h : Q (.int (i * 2 ^ j.toNat)) st) : OPB o k st .LShift (.int i) (.int j) Q X := ydv fun s O O S => lshift_int hj hs (ybg S (.int _ _) h)
theorem yb7 (hj : 0 <= j) (h : Q (.int (i.fdiv (2 ^ j.toNat))) st) : OPB o k st .RShift (.int i) (.int j) Q X := ydv fun s O O S => rshift_int hj (ybg S (.int _ _) h)
theorem Ja.qq (h : Q (.int (Builtin.bitAnd i j)) st) : OPB o k st .BitAnd (.int i) (.int j) Q X := ydv fun s O O S => and_int (ybg S (.int _ _) h)
theorem Jb.qq (h : Q (.int (Builtin.bitOr i j)) st) : OPB o k st .BitOr (.int i) (.int j) Q X := ydv fun s O O S => or_int (ybg S (.int _ _) h)
theorem Jc.qq (h : Q (.int (Builtin.bitXor i j)) st) : OPB o k st .BitXor (.int i) (.int j) Q X := ydv fun s O O S => xor_int (ybg S (.int _ _) h)
theorem opi_add (h : Q (.int (i + j)) st) : OPI o k st .Add (.int i) (.int j) Q X := fun s va vb S ra rb => by cases ra; cases rb; exact iadd_int (ybg S (.int _ _) h)
theorem opi_sub (h : Q (.int (i - j)) st) : OPI o k st .Sub (.int i) (.int j) Q X := fun s va vb S ra rb => by cases ra; cases rb; exact isub_int (ybg S (.int _ _) h)
theorem ynf (hj : 0 <= j) (h : Q (.int (i.fdiv (2 ^ j.toNat))) st) : OPI o k st .RShift (.int i) (.int j) Q X := fun s va vb S ra rb => by
 cases ra; cases rb; exact irshift_int hj (ybg S (.int _ _) h)
theorem opi_xor (h : Q (.int (Builtin.bitXor i j)) st) : OPI o k st .BitXor (.int i) (.int j) Q X := fun s va vb S ra rb => by cases ra; cases rb; exact ixor_int (ybg S (.int _ _) h)
theorem opu_neg (h : Q (.int (-i)) st) : OPU o k st .USub (.int i) Q X := fun s va S ra => by cases ra; exact PyProof.Rows.neg_int (ybg S (.int _ _) h)
theorem cmp_lt (h : Q (.bool (decide (i < j))) st) : CMP o k st .Lt (.int i) (.int j) Q X := yjt fun s O O S => lt_int (ybn S (.bool _) h)
theorem cmp_le (h : Q (.bool (decide (i <= j))) st) : CMP o k st .LtE (.int i) (.int j) Q X := yjt fun s O O S => le_int (ybn S (.bool _) h)
theorem cmp_gt (h : Q (.bool (decide (j < i))) st) : CMP o k st .Gt (.int i) (.int j) Q X := yjt fun s O O S => gt_int (ybn S (.bool _) h)
theorem cmp_ge (h : Q (.bool (decide (j <= i))) st) : CMP o k st .GtE (.int i) (.int j) Q X := yjt fun s O O S => ge_int (ybn S (.bool _) h)
theorem yq2 (h : Q (.bool (i == j)) st) : CMP o k st .Eq (.int i) (.int j) Q X := yjt fun s O O S => eq_int (ybn S (.bool _) h)
theorem yqy (h : Q (.bool (i != j)) st) : CMP o k st .NotEq (.int i) (.int j) Q X := yjt fun s O O S => ne_int (ybn S (.bool _) h)
end
theorem yq0 {x y : Str} (h : Q (.bool (x == y)) st) : CMP o k st .Eq (.str x) (.str y) Q X := fun s va vb S ra rb => by cases ra; cases rb; exact eq_str (ybn S (.bool _) h)
theorem yqw {x y : Str} (h : Q (.bool (x != y)) st) : CMP o k st .NotEq (.str x) (.str y) Q X := fun s va vb S ra rb => by cases ra; cases rb; exact ne_str (ybn S (.bool _) h)
noncomputable def V.isNone : V -> Bool | .none => true | .raw .none => true | _ => false
theorem VR.isNone {h : Heap} {a : V} {v : Value} (r : VR h a v) : (v == Value.none) = a.isNone := by
 cases r <;> first | rfl | (cases v <;> rfl)
theorem yod {a : V} (h : Q (.bool a.isNone) st) : CMP o k st .Is a .none Q X := fun s va vb S ra rb => by
 cases rb; exact PySem.is_none (ybn S (by rw [ra.isNone]; exact .bool _) h)
theorem yjb {a : V} (h : Q (.bool (!a.isNone)) st) : CMP o k st .IsNot a .none Q X := fun s va vb S ra rb => by
 cases rb; exact PySem.isNot_none (ybn S (by rw [ra.isNone]; exact .bool _) h)
theorem ynj {x y : Str} (hz : x.length + y.length <= sizeLine) (h : Q (.str (x ++ y)) st) : OPB o k st .Add (.str x) (.str y) Q X := fun s va vb S ra rb => by
 cases ra; cases rb; exact PyProof.Rows.add_str (fun t' tk => ybg S (.str _ _) h) hz
mutual
noncomputable def V.py : V -> Option PyData
 | .none => some .none
 | .bool b => some (.bool b)
 | .int i => some (.int i)
 | .str x => some (.str x)
 | .tup vs => (V.pys vs).map .tuple
 | .ptr _ | .obj .. | .rng .. | .rgd .. | .raw _ => Option.none
noncomputable def V.pys : List V -> Option (List PyData)
 | [] => some []
 | x :: xs => match V.py x, V.pys xs with
  | some d, some ds => some (d :: ds)
  | _, _ => Option.none
end
theorem V.pys_some {x : V} {xs : List V} {ds : List PyData} (e : V.pys (x :: xs) = some ds) : ∃ d es, x.py = some d /\ V.pys xs = some es /\ d :: es = ds := by
 have e : (match x.py, V.pys xs with | some d, some ds => some (d :: ds) | _, _ => Option.none) = some ds := e
 induction h1 : x.py with
 | none => rw [h1] at e; cases e
 | some d =>
 induction h2 : V.pys xs with
 | none => rw [h1, h2] at e; cases e
 | some es => rw [h1, h2] at e; exact ⟨d, es, rfl, rfl, Option.some.inj e⟩
theorem VR.reads {h : Heap} {a : V} {v : Value} {d : PyData} (r : VR h a v) (e : a.py = some d) : ∃ as, Reads h v d as :=
 @VR.rec h (fun a v O => ∀ d, a.py = some d -> ∃ as, Reads h v d as) (fun xs vs O => ∀ ds, V.pys xs = some ds -> ∃ as, ReadsAll h vs ds as)
  (fun O e => Option.some.inj e ▸ ⟨_, .none⟩) (fun b O e => Option.some.inj e ▸ ⟨_, .bool b⟩) (fun i t O e => Option.some.inj e ▸ ⟨_, .int i t⟩) (fun x t O e => Option.some.inj e ▸ ⟨_, .str x t⟩)
  (fun {vs ws a n} ht _ ih d e => by
   obtain ⟨ds, hds, rfl⟩ := Option.map_eq_some_iff.mp (show (V.pys vs).map PyData.tuple = some d from e)
   obtain ⟨as, ra⟩ := ih ds hds
   exact ⟨as, .tuple ht rfl rfl (by simpa using ra)⟩)
  (fun O O e => nomatch e) (fun O O O O O e => nomatch e) (fun O O e => nomatch e) (fun O O e => nomatch e) (fun O O e => nomatch e) (fun O e => Option.some.inj e ▸ ⟨_, .nil⟩)
  (fun O O iha ihr ds e => by
   obtain ⟨d, es, h1, h2, rfl⟩ := V.pys_some e
   obtain ⟨as, ra⟩ := iha d h1
   obtain ⟨bs, rb⟩ := ihr es h2
   exact ⟨_, .cons ra rb⟩) _ _ r d e
theorem VRs.reads {h : Heap} {xs : List V} {vs : List Value} {ds : List PyData} (r : VRs h xs vs) (e : V.pys xs = some ds) : ∃ as, ReadsAll h vs ds as :=
 r.ind (P := fun xs vs => ∀ ds, V.pys xs = some ds -> ∃ as, ReadsAll h vs ds as) (fun O e => Option.some.inj e ▸ ⟨_, .nil⟩) (fun a O ih ds e => by
  obtain ⟨d, es, h1, h2, rfl⟩ := V.pys_some e
  obtain ⟨as, ra⟩ := a.reads h1
  obtain ⟨bs, rb⟩ := ih es h2
  exact ⟨_, .cons ra rb⟩) ds e
theorem yd6 {k : Kx} (h : KxOk k) {n : Nat} (hn : n <= 30) : k.A.units + n < cLine := Nat.lt_of_le_of_lt (Nat.le_trans (Nat.add_le_add_left (Nat.le_trans hn (by decide)) _) (Nat.add_le_add_right (Nat.le_add_right ..) 40)) h.units
theorem ytl {a b : V} {da db : PyData} (ha : a.py = some da) (hb : b.py = some db) (la : da.canLay0 = true) (lb : db.canLay0 = true) (hd : min da.depth db.depth <= 30) (h : Q (.bool (PyData.eqv da db)) st) :
 CMP o k st .Eq a b Q X := fun s va vb S ra rb => by
 obtain ⟨_, r1⟩ := ra.reads ha
 obtain ⟨_, r2⟩ := rb.reads hb
 exact SeqAt.compareEq_reads r1 r2 la lb (yd6 S.ok hd) (ybn S (.bool _) h)
theorem yp1 {a b : V} {da db : PyData} (ha : a.py = some da) (hb : b.py = some db) (la : da.canLay0 = true) (lb : db.canLay0 = true) (hd : min da.depth db.depth <= 30) (h : Q (.bool (!PyData.eqv da db)) st) :
 CMP o k st .NotEq a b Q X := fun s va vb S ra rb => by
 obtain ⟨_, r1⟩ := ra.reads ha
 obtain ⟨_, r2⟩ := rb.reads hb
 exact SeqAt.compareNe_reads r1 r2 la lb (yd6 S.ok hd) (ybn S (.bool _) h)
set_option tactic.hygienic true in
theorem yni {xs ys : List V} (hz : xs.length + ys.length <= sizeLine) (h : Q (.tup (xs ++ ys)) st) : OPB o k st .Add (.tup xs) (.tup ys) Q X := fun s va vb S ra rb => by
 cases ra with
 | tup ht r1 =>
 cases rb with
 | tup hb r2 =>
 rename_i ws a n us b m
 have l1 := r1.length
 have l2 := r2.length
 by_cases hv : xs = []
 . subst hv
   cases r1
   exact concat_meets ⟨_, ht, rfl⟩ ⟨_, hb, rfl⟩ noFill_tuple_add seq_tuple_add PySem.F.slot_tuple_add PySem.F.entry_tuple_add (PySem.F.args_tuple_add_2 _ _)
    (tuple_addW0 a b _ _ n m none none #[] #[] (by simp)) ⟨ht, hb, ybn S (.tup hb r2) (by simpa using h)⟩
 . by_cases hw : ys = []
   . subst hw
     cases r2
     exact concat_meets ⟨_, ht, rfl⟩ ⟨_, hb, rfl⟩ noFill_tuple_add seq_tuple_add PySem.F.slot_tuple_add PySem.F.entry_tuple_add (PySem.F.args_tuple_add_2 _ _)
      (tuple_addW1 a b _ _ n m none none #[] #[] (by cases r1 <;> simp at hv ⊢) (by simp)) ⟨ht, hb, ybn S (.tup ht r1) (by simpa using h)⟩
   . refine concat_meets ⟨_, ht, rfl⟩ ⟨_, hb, rfl⟩ noFill_tuple_add seq_tuple_add PySem.F.slot_tuple_add PySem.F.entry_tuple_add (PySem.F.args_tuple_add_2 _ _)
      (tuple_addW2 a b _ _ n m none none #[] #[] (by cases r1 <;> simp at hv ⊢) (by cases r2 <;> simp at hw ⊢) (by rw [List.size_toArray, List.size_toArray, <- l1, <- l2]; exact hz)) ⟨ht, hb, ?_⟩
     rw [show ws.toArray ++ us.toArray = (ws ++ us).toArray by simp]
     exact ⟨.tup (xs ++ ys), st, .tup (IsT.new _ _) ((r1.append r2).keep S.hs (Kp.push _)), Step.push S.hs _ s.toks, h⟩
set_option tactic.hygienic true in
theorem ybz {a b : Addr} {xs ys : List V} (ha : st a = some (.lst xs)) (hb : st b = some (.lst ys)) (hz : xs.length + ys.length <= sizeLine) (h : ∀ c, st c = none -> Q (.ptr c) (st.set c (.lst (xs ++ ys)))) :
 OPB o k st .Add (.ptr a) (.ptr b) Q X := fun s va vb S ra rb => by
 cases ra; cases rb
 obtain ⟨o1, h1, m1⟩ := S.hs a _ ha
 obtain ⟨o2, h2, m2⟩ := S.hs b _ hb
 cases m1 with
 | lst r1 =>
 cases m2 with
 | lst r2 =>
 rename_i ws n us m
 refine PySem.P.add_list h1 h2 ?_ (by rw [List.size_toArray, List.size_toArray, <- r1.length, <- r2.length]; exact hz)
 rw [show ws.toArray ++ us.toArray = (ws ++ us).toArray by simp]
 exact ⟨.ptr _, _, .ptr _, Step.alloc S.hs _ (.lst (xs ++ ys)) rfl (.lst (r1.append r2)) s.toks, h _ (ybo S.hs)⟩
end
section
open Sem (wp wp_bind' wp_cmd_ask wp_pure' wp_cmd_mkText wp_loadPart_of wp_cmd_updatePart)
theorem yre (M : Model) (Γ : Ctx) (E : Value -> Pos -> Shared -> Prop) (p : Pos) (s : Shared) {a : Addr} {m : Str -> Option Value} (hn : s.heap.Ns a m) (name : Str) (v : Value) (Q : Unit -> Pos -> Shared -> Prop)
 (hQ : ∀ h', h'.Ns a (fun x => if x = name then some v else m x) -> Heap.SameBut a s.heap h' -> (∀ ob, s.heap.get? a = some ob -> OOx h' a ob) ->
  Q () p { s with heap := h', toks := s.toks + 1 }) : wp M Γ (nsSet a name v) Q E p s := by
 have hn' := hn
 obtain ⟨o, es, ep, ho, hd, hk, hm⟩ := hn
 have key := Sem.wp_nsSet M Γ E p s hn' name v (fun O p' s' => ∀ hC : (∀ ob, s.heap.get? a = some ob -> OOx s'.heap a ob), Q () p' s') (fun h' h1 h2 hC => hQ h' h1 h2 hC)
 simp only [nsSet, strHash, wp_bind', wp_cmd_ask, wp_pure', wp_cmd_mkText] at key ⊢
 rw [wp_loadPart_of M Γ E p { s with toks := s.toks + 1 } (o := o) _ ho] at key ⊢
 have hany : es.any (·.refKey) = false := by
  rw [Array.any_eq_false']; intro e he; obtain ⟨n, t, h⟩ := hk e he; simp [DictEntry.refKey, h]
 simp only [hd, aRefKeyMayBeTheName_eq, aRefKeyMayBeTheNameByArray, hany, Bool.and_false, Bool.false_eq_true, if_false, wp_cmd_updatePart] at key ⊢
 refine ⟨key.1, key.2 ?_⟩
 intro ob hob
 rw [ho] at hob; cases hob
 have hd' : ∃ es' ep', (Obj.putName name (PyData.keyHash M.w.params name) (.str name s.toks) v o).data = .dict es' ep' /\ (Obj.putName name (PyData.keyHash M.w.params name) (.str name s.toks) v o).cls = o.cls := by
  obtain ⟨c, d, dt, sl⟩ := o
  subst hd
  induction hi : es.findIdx? (·.key.isStr name) with
  | some i => exact ⟨_, _, (by simp only [Obj.putName_eq, Obj.putNameByArray, hi] <;> rfl), by simp only [Obj.putName_eq, Obj.putNameByArray, hi]⟩
  | none => exact ⟨_, _, (by simp only [Obj.putName_eq, Obj.putNameByArray, hi] <;> rfl), by simp only [Obj.putName_eq, Obj.putNameByArray, hi]⟩
 obtain ⟨es', ep', e1, e2⟩ := hd'
 refine ⟨_, Heap.get?_update_self _ ho (Obj.isFreed_of_dict e1), e2, fun O => ⟨_, _, e1⟩, fun ⟨v, q⟩ => ?_⟩
 rw [hd] at q; cases q
end
theorem yge {M : Model} {A : Around} {E : Value -> Shared -> Prop} {s : Shared} {a : Addr} {m : Str -> Option Value} {name : Str} {v : Value} {Q : Unit -> Shared -> Prop} (hn : s.heap.Ns a m)
 (h : ∀ h', h'.Ns a (fun x => if x = name then some v else m x) -> Heap.SameBut a s.heap h' -> (∀ ob, s.heap.get? a = some ob -> OOx h' a ob) -> Q () { s with heap := h', toks := s.toks + 1 }) :
 wpAny M A (nsSet a name v) Q E s := fun Γ p O => yre M Γ _ p s hn name v _ h
theorem yin {M : Model} {A : Around} {E : Value -> Shared -> Prop} {s : Shared} {c : Addr} {v₀ v : Option Value} {Q : Unit -> Shared -> Prop} (hc : s.heap.IsCell c v₀)
 (h : ∀ h', h'.IsCell c v -> Heap.SameBut c s.heap h' -> (∀ ob, s.heap.get? c = some ob -> OOx h' c ob) -> Q () { s with heap := h' }) : wpAny M A (cellSet c v) Q E s := by
 obtain ⟨o, ho, hd⟩ := hc
 unfold cellSet
 refine wpAny_bind (wpAny_load ho ?_)
 rw [hd]
 refine wpAny_update ho (h _ ⟨{ o with data := .cell v }, Heap.get?_update_self _ ho rfl, rfl⟩ (Heap.SameBut.update ..) fun ob hob => ?_)
 rw [ho] at hob; cases hob
 exact ⟨{ o with data := .cell v }, Heap.get?_update_self _ ho rfl, rfl, fun ⟨_, _, q⟩ => by (rw [hd] at q; cases q), fun O => ⟨_, rfl⟩⟩
inductive Fl where
 | next | brk | cont
 | ret (v : V)
inductive FlR (h : Heap) : Fl -> Flow -> Prop
 | next : FlR h .next .next
 | brk : FlR h .brk .brk
 | cont : FlR h .cont .cont
 | ret {v u} : VR h v u -> FlR h (.ret v) (.ret u)
inductive PF (o : Wo) (c : Cx) (st : St) (s : Shared) (Q : Fl -> yae -> St -> Prop) (f : Flow) (s' : Shared) : Prop
 | mk (fl : Fl) (loc' : yae) (st' : St) (h : FlR s'.heap fl f) (S : Step o.P (own c) st s st' s') (l : LocR c.env loc' s'.heap) (q : Q fl loc' st')
inductive PU (o : Wo) (c : Cx) (st : St) (s : Shared) (Q : yae -> St -> Prop) (u : Unit) (s' : Shared) : Prop
 | mk (loc' : yae) (st' : St) (S : Step o.P (own c) st s st' s') (l : LocR c.env loc' s'.heap) (q : Q loc' st')
noncomputable abbrev PXO (o : Wo) (c : Cx) (st : St) (s : Shared) (X : Exc -> St -> Prop) : Value -> Shared -> Prop := PXg o (own c) (LocR c.env yae.nil) (some c.env.locals) st s X
def EX (o : Wo) (c : Cx) (loc : yae) (st : St) (e : Stmt) (Q : Fl -> yae -> St -> Prop) (X : Exc -> St -> Prop) : Prop :=
 ∀ s, Inv o c loc st s -> wpAny o.M c.k.A (exec e c.env) (PF o c st s Q) (PXO o c st s X) s
def EXS (o : Wo) (c : Cx) (loc : yae) (st : St) (es : List Stmt) (Q : Fl -> yae -> St -> Prop) (X : Exc -> St -> Prop) : Prop :=
 ∀ s, Inv o c loc st s -> wpAny o.M c.k.A (execs es c.env) (PF o c st s Q) (PXO o c st s X) s
def ASG (o : Wo) (c : Cx) (loc : yae) (st : St) (t : Expr) (v : V) (Q : yae -> St -> Prop) (X : Exc -> St -> Prop) : Prop :=
 ∀ s u, Inv o c loc st s -> VR s.heap v u -> wpAny o.M c.k.A (assign t c.env u) (PU o c st s Q) (PXO o c st s X) s
section
variable {o : Wo} {c : Cx} {st st₁ : St} {s s₁ s' : Shared}
theorem PF.trans {Q : Fl -> yae -> St -> Prop} {f : Flow} (x : Step o.P (own c) st s st₁ s₁) (h : PF o c st₁ s₁ Q f s') : PF o c st s Q f s' :=
 let ⟨fl, l, st', a, b, d, e⟩ := h; ⟨fl, l, st', a, x.trans b, d, e⟩
theorem PU.trans {Q : yae -> St -> Prop} {f : Unit} (x : Step o.P (own c) st s st₁ s₁) (h : PU o c st₁ s₁ Q f s') : PU o c st s Q f s' :=
 let ⟨l, st', b, d, e⟩ := h; ⟨l, st', x.trans b, d, e⟩
end
noncomputable def ybp (env : Env) (x : Str) : Bool := env.kindOf x == some .local || (env.kindOf x == some .cell && (env.cells.lookup x).isSome && !(x == ("__classdict__" : Str)))
set_option tactic.hygienic true in
theorem ycd {o : Wo} [WoOk o] {c : Cx} {A : Around} {loc : yae} {st : St} {s : Shared} {x : Str} {v : V} {u : Value} {Q : Unit -> Shared -> Prop} {E : Value -> Shared -> Prop} (I : Inv o c loc st s) (r : VR s.heap v u) (hx : ybp c.env x = true)
 (h : ∀ h' t, Step o.P (own c) st s st { s with heap := h', toks := t } -> LocR c.env (loc.set x v) h' -> Q () { s with heap := h', toks := t }) :
 wpAny o.M A (storeName c.env x u) Q E s := by
 have gen : ∀ (L : Addr) (h' : Heap), own c L -> Heap.SameBut L s.heap h' -> (∀ ob, s.heap.get? L = some ob -> OOx h' L ob) -> ∀ t, Step o.P (own c) st s st { s with heap := h', toks := t } := by
  intro L h' hL sb oo t
  have K : KpD (fun b => st b ≠ none \/ own c b) s.heap h' := fun b ob hb hob => ⟨ob, (sb.2 b (by intro q; subst q; exact hb (.inr hL))).trans hob, .refl ob⟩
  refine ⟨fun a m e => ?_, fun a e => .inl e, fun b ob hf O hob => ⟨ob, (sb.2 b (by intro q; subst q; exact hf hL)).trans hob, .refl ob⟩, fun b ob hf hst hob => ?_, fun b e => ?_, rfl, rfl⟩
  . obtain ⟨ob, h1, h2⟩ := I.si.hs a m e
    have : a ≠ L := by intro q; subst q; rw [I.ost a hL] at e; cases e
    exact ⟨ob, (sb.2 a this).trans h1, h2.keepD (DOk.own I) K⟩
  . by_cases q : b = L
    . subst q; exact oo ob hob
    . exact ⟨ob, (sb.2 b q).trans hob, .refl ob⟩
  . by_cases q : b = L
    . subst q
      obtain ⟨ob, hob⟩ := Option.isSome_iff_exists.mp e
      obtain ⟨ob', h1, _⟩ := oo ob hob
      show (h'.get? b).isSome = true
      rw [h1]; rfl
    . show (h'.get? b).isSome = true
      rw [sb.2 b q]; exact e
 obtain ⟨m, hm, q⟩ := I.lc.ns
 have apart := I.lc.apart
 have locne : ∀ (a : Addr) (w : Option Value), s.heap.IsCell a w -> a ≠ c.env.locals := fun a w ⟨ob, h1, h2⟩ e => by
  subst e
  obtain ⟨ob', es, ep, h3, h4, _⟩ := hm
  rw [h1] at h3; cases h3; rw [h2] at h4; cases h4
 unfold ybp at hx
 rcases Bool.or_eq_true_iff.mp hx with hl | hc
 . have hl : c.env.kindOf x = some .local := by simpa using hl
   rw [storeName_local hl (by rw [I.cx.kind]; rfl)]
   refine yge hm fun h' hn hs oo => ?_
   have S := gen _ h' (.inl rfl) hs oo (s.toks + 1)
   have keep : ∀ {a : V} {w : Value}, VR s.heap a w -> VR h' a w := fun r => VR.stepF I S r
   refine h h' _ S ⟨⟨_, hn, fun y a e => ?_⟩, fun y a e => ?_, apart⟩
   . unfold yae.set at e
     split at e
     . rename_i hy; cases e; subst hy
       exact .inl ⟨hl, u, by simp, keep r⟩
     . rename_i hy
       rcases q y a e with ⟨b1, w, b2, b3⟩ | ⟨b1, b2, d, w, b3, b4, b5⟩
       . exact .inl ⟨b1, w, by simp [hy, b2], keep b3⟩
       . exact .inr ⟨b1, b2, d, w, b3, b4.sameBut hs (locne d _ b4), keep b5⟩
   . obtain ⟨w, hw⟩ := I.lc.cells y a e
     exact ⟨w, hw.sameBut hs (locne a _ hw)⟩
 . simp only [Bool.and_eq_true, beq_iff_eq, Bool.not_eq_true'] at hc
   obtain ⟨⟨hl, hs⟩, hne⟩ := hc
   obtain ⟨a, ha⟩ := Option.isSome_iff_exists.mp hs
   obtain ⟨w0, hw0⟩ := I.lc.cells x a ha
   unfold storeName
   simp only [hl, I.cx.kind]
   refine wpAny_bind (wpAny_cellOf ha (yin hw0 fun h' hn hs oo => ?_))
   have hoa : own c a := .inr ⟨x, mem_of_lookup ha⟩
   have S := gen a h' hoa hs oo s.toks
   have keep : ∀ {a : V} {w : Value}, VR s.heap a w -> VR h' a w := fun r => VR.stepF I S r
   have nea : c.env.locals ≠ a := fun e => locne a _ hw0 e.symm
   refine h h' s.toks S ⟨⟨m, hm.sameBut hs nea, fun y b e => ?_⟩, fun y b e => ?_, apart⟩
   . unfold yae.set at e
     split at e
     . rename_i hy; cases e; subst hy
       exact .inr ⟨.inl hl, by simpa using hne, a, u, ha, hn, keep r⟩
     . rename_i hy
       rcases q y b e with ⟨b1, w, b2, b3⟩ | ⟨b1, b2, d, w, b3, b4, b5⟩
       . exact .inl ⟨b1, w, b2, keep b3⟩
       . refine .inr ⟨b1, b2, d, w, b3, b4.sameBut hs ?_, keep b5⟩
         intro e'; subst e'
         exact hy (name_of_addr apart (mem_of_lookup b3) (mem_of_lookup ha))
   . by_cases e' : b = a
     . subst e'; exact ⟨_, hn⟩
     . obtain ⟨w, hw⟩ := I.lc.cells y b e
       exact ⟨w, hw.sameBut hs e'⟩
section
variable {M : Model} {A : Around} {E : Value -> Shared -> Prop} {s : Shared} {env : Env} {outer : List Env} {L e : Addr} {oe : Obj} {vs : Array Value}
end
theorem Step.absorb {P : Params} {F : Addr -> Prop} {st st₁ st₂ : St} {s s₁ s₂ : Shared} (x : Step P noF st s st₁ s₁) (y : Step P F st₁ s₁ st₂ s₂) (hF : ∀ a, F a -> s.heap.get? a = none) : Step P noF st s st₂ s₂ where
 holds := y.holds
 sub := (x.weak.trans y).sub
 ext b o _ hb ho := (x.weak.trans y).ext b o (fun q => by rw [hF b q] at ho; cases ho) hb ho
 own b o q := q.elim
 mono b h := y.mono b (x.mono b h)
 gens := y.gens.trans x.gens
 os := y.os.trans x.os
theorem Step.wider {P : Params} {F G : Addr -> Prop} {st st₁ : St} {s s₁ : Shared} (x : Step P F st s st₁ s₁) (h : ∀ b, F b -> G b) : Step P G st s st₁ s₁ := ⟨x.holds, x.sub, fun b o hb => x.ext b o fun q => hb (h b q), fun b o O hst ho => by
 by_cases q : F b
 . exact x.own b o q hst ho
 . obtain ⟨o', h1, k⟩ := x.ext b o q hst ho
   exact ⟨o', h1, k.oo⟩, x.mono, x.gens, x.os⟩
section
variable {o : Wo} [W : WoOk o]
end
theorem yfm {α : Type} : ∀ {ns : List Str} {vs : List α} (pre : List (Str × α)), ns.Nodup -> ns.length = vs.length -> (∀ n ∈ ns, pre.lookup n = none) -> ns.filterMap (fun n => ((pre ++ ns.zip vs).lookup n).map fun v => (n, v)) = ns.zip vs
 | [], [], _, _, _, _ => rfl
 | n :: ns, v :: vs, pre, nd, hl, hp => by
  have nd' := List.nodup_cons.mp nd
  have e1 : (pre ++ (n :: ns).zip (v :: vs)).lookup n = some v := by
   rw [List.lookup_append, hp n (by simp), List.zip_cons_cons, List.lookup_cons]; simp
  rw [List.filterMap_cons, e1]
  have ih := yfm (vs := vs) (pre ++ [(n, v)]) nd'.2 (by simpa using hl) fun m hm => by
   rw [List.lookup_append, hp m (by simp [hm])]
   have : (m == n) = false := beq_eq_false_iff_ne.mpr fun q => nd'.1 (q ▸ hm)
   simp [List.lookup_cons, this]
  rw [List.append_assoc] at ih
  show (n, v) :: _ = _
  rw [List.zip_cons_cons]
  exact congrArg _ ih
noncomputable def ygy (p : Arguments) (ns : List Str) : Bool := p.posonlyargs.isEmpty && p.vararg.isNone && p.kwonlyargs.isEmpty && p.kwarg.isNone && p.args.map (·.arg) == ns
theorem yir : ∀ {p : Arguments} {ns : List Str}, ygy p ns = true -> ∃ pa kd pd, p = ⟨[], pa, none, [], kd, none, pd⟩ /\ pa.map (·.arg) = ns
 | ⟨[], pa, none, [], kd, none, pd⟩, _, h => ⟨pa, kd, pd, rfl, eq_of_beq h⟩
theorem yrs (dnames : List Str) : ∀ (ds : List Value) (slots : List (Str × Value)), (∀ n ∈ dnames, slots.lookup n = none) -> dnames.Nodup ->
 (forIn (m := Sem) (dnames.zip ds) slots fun (x : Str × Value) r => if (List.lookup x.1 r).isNone = true then pure (ForInStep.yield (r ++ [(x.1, x.2)])) else pure (ForInStep.yield r)) = pure (slots ++ dnames.zip ds) := by
 induction dnames with
 | nil => intro ds slots _ _; simp
 | cons n ns ih =>
  intro ds slots h nd
  induction ds with
  | nil => simp
  | cons d ds =>
   have nd' := List.nodup_cons.mp nd
   rw [List.zip_cons_cons, List.forIn_cons]
   have : (List.lookup n slots).isNone = true := by rw [h n (by simp)]; rfl
   simp only [this, if_true, pure_bind]
   rw [ih ds (slots ++ [(n, d)]) (fun m hm => by
    rw [List.lookup_append, h m (by simp [hm])]
    have : (m == n) = false := beq_eq_false_iff_ne.mpr fun q => nd'.1 (q ▸ hm)
    simp [List.lookup_cons, this]) nd'.2]
   simp
theorem ylj : ∀ (j : Nat) (dnames : List Str) (ds : List Value) (slots : List (Str × Value)), (∀ n ∈ dnames.take j, (slots.lookup n).isSome = true) -> (∀ n ∈ dnames.drop j, slots.lookup n = none) -> dnames.Nodup ->
 (forIn (m := Sem) (dnames.zip ds) slots fun (x : Str × Value) r => if (List.lookup x.1 r).isNone = true then pure (ForInStep.yield (r ++ [(x.1, x.2)])) else pure (ForInStep.yield r)) = pure (slots ++ (dnames.drop j).zip (ds.drop j))
 | 0, dnames, ds, slots, _, h, nd => yrs dnames ds slots (by simpa using h) nd
 | j + 1, [], ds, slots, _, _, _ => by simp
 | j + 1, n :: ns, [], slots, _, _, _ => by simp
 | j + 1, n :: ns, d :: ds, slots, h1, h2, nd => by
  rw [List.zip_cons_cons, List.forIn_cons]
  have : (List.lookup n slots).isNone = false := by
   have := h1 n (by simp)
   rw [Option.isNone_eq_false_iff]; exact this
  simp only [this, Bool.false_eq_true, if_false, pure_bind]
  exact ylj j ns ds slots (fun m hm => h1 m (by simp [hm])) (by simpa using h2) (List.nodup_cons.mp nd).2
theorem yck {α : Type} : ∀ {ns : List Str} {vs : List α} {x : Str}, x ∈ ns.take vs.length -> ((ns.zip vs).lookup x).isSome = true
 | [], vs, x, h => by simp at h
 | n :: ns, [], x, h => by simp at h
 | n :: ns, v :: vs, x, h => by
  rw [List.zip_cons_cons, List.lookup_cons]
  induction hb : x == n with
  | true => rfl
  | false =>
   rw [List.length_cons, List.take_succ_cons] at h
   rcases List.mem_cons.mp h with q | q
   . subst q; simp at hb
   . exact yck q
theorem ydz {α : Type} : ∀ {ns : List Str} {vs : List α} {x : Str}, ns.Nodup -> x ∈ ns.drop vs.length -> (ns.zip vs).lookup x = none
 | [], vs, x, _, h => by simp at h
 | n :: ns, [], x, _, h => by simp
 | n :: ns, v :: vs, x, nd, h => by
  have nd' := List.nodup_cons.mp nd
  rw [List.length_cons, List.drop_succ_cons] at h
  rw [List.zip_cons_cons, List.lookup_cons]
  have : (x == n) = false := beq_eq_false_iff_ne.mpr fun q => nd'.1 (q ▸ List.mem_of_mem_drop h)
  rw [this]
  exact ydz nd'.2 h
theorem yla {α : Type} : ∀ {ns : List Str} {vs ws : List α}, ns.zip vs ++ (ns.drop vs.length).zip ws = ns.zip (vs ++ ws)
 | [], _, _ => by simp
 | n :: ns, [], _ => by simp
 | n :: ns, v :: vs, ws => by simp [yla (ns := ns) (vs := vs) (ws := ws)]
theorem yrz {M : Model} {A : Around} {E : Value -> Shared -> Prop} {s : Shared} {dv : Value} {ds : List Value} (hd : (dv = .none /\ ds = []) \/ ∃ T ob n, dv = .ref T /\ s.heap.get? T = some ob /\ ob.data = .seq ds.toArray n) {Q : Option (Array Value) -> Shared -> Prop} (h : ∀ r, (r.getD #[]).toList = ds -> Q r s) :
 wpAny M A (seqItems? dv) Q E s := by
 rcases hd with ⟨e, rfl⟩ | ⟨T, ob, n, e, ho, hdat⟩
 . rw [e]; exact wpAny_pure (h _ rfl)
 . rw [e]; exact wpAny_seqItems ho hdat (h _ rfl)
theorem wp_iff {α : Type} {M : Model} {A : Around} {b : Bool} {t e : Sem α} {Q : α -> Shared -> Prop} {E : Value -> Shared -> Prop} {s : Shared} (h : b = false) (p : wpAny M A e Q E s) : wpAny M A (if b = true then t else e) Q E s := by
 subst h; exact p
def BRest (M : Model) (A : Around) (E : Value -> Shared -> Prop) (Q : List (Str × Value) -> Shared -> Prop) (s : Shared) (ns : List Str) (vs ds : List Value) : Prop :=
 (List.filter (fun n => (List.lookup n (ns.zip vs)).isNone) (List.take (ns.length - ds.length) ns)).isEmpty = true /\
 wpAny M A (forIn ((List.drop (ns.length - ds.length) ns).zip ds) (ns.zip vs) fun (x : Str × Value) r => if (List.lookup x.1 r).isNone = true then pure (ForInStep.yield (r ++ [(x.1, x.2)])) else pure (ForInStep.yield r))
  (fun r s => Q (List.filterMap (fun n => Option.map (fun x => (n, x)) (List.lookup n r)) (ns ++ [])) s) E s
theorem brest {M : Model} {A : Around} {E : Value -> Shared -> Prop} {Q : List (Str × Value) -> Shared -> Prop} {s : Shared} {ns : List Str} {vs ds : List Value} (nd : ns.Nodup)
 (h1 : vs.length <= ns.length) (h2 : ns.length <= vs.length + ds.length) (h3 : ds.length <= ns.length) (hq : Q (ns.zip (vs ++ ds.drop (vs.length + ds.length - ns.length))) s) : BRest M A E Q s ns vs ds := by
 have lv : ns.length - ds.length <= vs.length := Nat.sub_le_iff_le_add.mpr h2
 have w : ns.length - ds.length + (vs.length - (ns.length - ds.length)) = vs.length := Nat.add_sub_cancel' lv
 have w2 : vs.length - (ns.length - ds.length) = vs.length + ds.length - ns.length := Nat.sub_sub_right _ h3
 have w3 : ns.length = (vs ++ ds.drop (vs.length + ds.length - ns.length)).length := by
  rw [List.length_append, List.length_drop, <- Nat.add_sub_assoc (Nat.sub_le_iff_le_add.mpr (Nat.add_comm vs.length ds.length ▸ Nat.add_le_add_left h1 _)), Nat.sub_sub_self h2]
 refine ⟨List.isEmpty_iff.mpr (List.filter_eq_nil_iff.mpr fun a ha q => ?_), ?_⟩
 . have := yck (vs := vs) (List.mem_of_mem_take (i := ns.length - ds.length) (by rw [List.take_take, Nat.min_eq_left lv]; exact ha))
   rw [Option.isNone_iff_eq_none.mp q] at this; cases this
 . have fm := yfm [] nd w3 (fun O O => rfl)
   have z := yla (ns := ns) (vs := vs) (ws := ds.drop (vs.length + ds.length - ns.length))
   refine ylj (vs.length - (ns.length - ds.length)) _ _ _ (fun n hn => yck ?_) (fun n hn => ydz nd ?_) (nd.sublist (List.drop_sublist _ _)) ▸ wpAny_pure ?_
   . rw [List.take_drop, w] at hn
     exact List.mem_of_mem_drop hn
   . rwa [List.drop_drop, w] at hn
   . rw [List.append_nil, List.drop_drop, w, w2, z]
     exact fm.symm ▸ hq
theorem bindsTo0 {M : Model} {A : Around} {E : Value -> Shared -> Prop} {Q : List (Str × Value) -> Shared -> Prop} {s : Shared} {fd : FuncData} {pa : List Arg} {kd : List (Option Expr)} {pd : List Expr} {vs : List Value}
 (h1 : vs.length <= (pa.map (·.arg)).length)
 (hd : wpAny M A (seqItems? fd.defaults) (fun r s' => BRest M A E Q s' (pa.map (·.arg)) vs ((r.getD #[]).toList.drop ((r.getD #[]).toList.length - (pa.map (·.arg)).length))) E s) :
 wpAny M A (bindArgs { fd with params := ⟨[], pa, none, [], kd, none, pd⟩ } ⟨vs, []⟩) Q E s := by
 refine wpAny_bind (wpAny_pure ?_)
 refine wpAny_bind (wpAny_mono hd (fun r s' h => ?_) fun O O x => x)
 refine wp_iff ((Bool.and_true _).trans (decide_eq_false (Nat.not_lt.mpr h1))) ?_
 refine wp_iff (congrArg Bool.not h.1) ?_
 refine wpAny_bind (wpAny_mono h.2 (fun sl s h => ?_) fun O O x => x)
 refine wpAny_bind (wpAny_pure ?_)
 exact wpAny_pure h
theorem bindsTo {s : Shared} {fd : FuncData} {ns : List Str} {vs ds : List Value} (hp : ygy fd.params ns = true) (nd : ns.Nodup)
 (hd : (fd.defaults = .none /\ ds = []) \/ ∃ T ob n, fd.defaults = .ref T /\ s.heap.get? T = some ob /\ ob.data = .seq ds.toArray n)
 (h1 : vs.length <= ns.length) (h2 : ns.length <= vs.length + ds.length) (h3 : ds.length <= ns.length) :
 BindsTo s fd ⟨vs, []⟩ (ns.zip (vs ++ ds.drop (vs.length + ds.length - ns.length))) := by
 intro M A E Q hq
 have key : ∀ {dv : Value}, (dv = .none /\ ds = []) \/ (∃ T ob n, dv = .ref T /\ s.heap.get? T = some ob /\ ob.data = .seq ds.toArray n) -> wpAny M A (seqItems? dv) (fun r s' => BRest M A E Q s' ns vs ((r.getD #[]).toList.drop ((r.getD #[]).toList.length - ns.length))) E s := fun hd => yrz hd fun r e => by
  rw [e, Nat.sub_eq_zero_of_le h3]
  exact brest nd h1 h2 h3 hq
 obtain ⟨pa, kd, pd, e, rfl⟩ := yir hp
 exact (show fd = { fd with params := ⟨[], pa, none, [], kd, none, pd⟩ } from e ▸ rfl) ▸ bindsTo0 h1 (key hd)
theorem Step.pushCells {P : Params} {F : Addr -> Prop} {st : St} : ∀ (names : List (Str × NameKind)) (s : Shared), Holds P st s.heap -> Step P F st s st { s with heap := pushCells s.heap names }
 | [], s, H => Step.toks H s.toks
 | (_, kind) :: r, s, H => by
  unfold PySem.pushCells
  split
  . exact (Step.push (F := F) H { cls := .type "cell", data := .cell none } s.toks).trans (Step.pushCells r { s with heap := s.heap.push { cls := .type "cell", data := .cell none } } (H.push _))
  . exact Step.pushCells r s H
set_option tactic.hygienic true in
theorem yde : ∀ (names : List (Str × NameKind)) (h : Heap) (acc : List (Str × Addr)) (x : Str) (a : Addr), (x, a) ∈ cellsFrom h.objs.size names acc ->
 (x, a) ∈ acc \/ ((pushCells h names).get? a = some { cls := .type "cell", data := .cell none } /\ h.objs.size <= a)
 | [], _, _, _, _, m => .inl m
 | (name, kind) :: r, h, acc, x, a, m => by
  unfold cellsFrom at m
  unfold pushCells
  split at m
  . rename_i hk
    rw [if_pos hk]
    have := yde r (h.push { cls := .type "cell", data := .cell none }) ((name, h.objs.size) :: acc) x a (by rw [Heap.size_push]; exact m)
    rcases this with q | ⟨q1, q2⟩
    . rcases List.mem_cons.mp q with e | q
      . cases e
        exact .inr ⟨pushCells_keeps _ _ _ _ (Heap.get?_push_size _ rfl), Nat.le_refl _⟩
      . exact .inl q
    . rw [Heap.size_push] at q2
      exact .inr ⟨q1, by (first | lia | omega)⟩
  . rename_i hk
    rw [if_neg hk]
    exact yde r h acc x a m
theorem ydg : ∀ (names : List (Str × NameKind)) (n : Nat) (acc : List (Str × Addr)) (x : Str), (acc.lookup x).isSome = true -> ((cellsFrom n names acc).lookup x).isSome = true
 | [], _, _, _, h => h
 | (name, kind) :: r, n, acc, x, h => by
  unfold cellsFrom
  split
  . refine ydg r _ _ x ?_
    rw [List.lookup_cons]
    induction hb : x == name <;> simp [h]
  . exact ydg r _ _ x h
theorem ydf : ∀ (names : List (Str × NameKind)) (n : Nat) (acc : List (Str × Addr)) (x : Str), names.lookup x = some .cell -> ((cellsFrom n names acc).lookup x).isSome = true
 | (name, kind) :: r, n, acc, x, h => by
  rw [List.lookup_cons] at h
  unfold cellsFrom
  induction hb : x == name with
  | true =>
   rw [hb] at h; cases h
   rw [if_pos (show (NameKind.cell == NameKind.cell) = true by decide)]
   refine ydg r _ _ x ?_
   rw [List.lookup_cons, hb]; rfl
  | false =>
   rw [hb] at h
   split
   . exact ydf r _ _ x h
   . exact ydf r _ _ x h
noncomputable def yae.binds : List (Str × V) -> yae -> yae
 | [], l => l
 | (x, v) :: r, l => yae.binds r (l.set x v)
theorem bindR {o : Wo} [WoOk o] {c : Cx} {A : Around} {st : St} {E : Value -> Shared -> Prop} (f : Str × Value -> PUnit -> Sem (ForInStep PUnit)) (hf : ∀ n v u, f (n, v) u = (do storeName c.env n v; pure (.yield ⟨⟩))) :
 ∀ (xs : List Str) (as : List V) (vs : List Value) (loc : yae) (s : Shared) (Q : PUnit -> Shared -> Prop), Inv o c loc st s -> VRs s.heap as vs -> (∀ x ∈ xs, ybp c.env x = true) ->
  (∀ s', Step o.P (own c) st s st s' -> Inv o c (yae.binds (xs.zip as) loc) st s' -> Q ⟨⟩ s') -> wpAny o.M A (forIn (xs.zip vs) ⟨⟩ f) Q E s
 | [], as, vs, loc, s, Q, I, r, _, h => by
  simp only [List.zip_nil_left, List.forIn_nil]
  exact wpAny_pure (h s (Step.refl I.si.hs) (by simpa [yae.binds] using I))
 | x :: xs, [], _, loc, s, Q, I, .nil, _, h => by
  simp only [List.zip_nil_right, List.forIn_nil]
  exact wpAny_pure (h s (Step.refl I.si.hs) (by simpa [yae.binds] using I))
 | x :: xs, a :: as, _, loc, s, Q, I, .cons (v := v) (vs := vs) r rs, hx, h => by
  rw [List.zip_cons_cons, List.forIn_cons, hf]
  refine wpAny_bind (wpAny_bind (ycd I r (hx x (by simp)) fun h' t S L => wpAny_pure ?_))
  refine bindR f hf xs as vs _ _ Q (I.stepF S L) (VRs.stepF I S rs) (fun y hy => hx y (by simp [hy])) fun s' S' I' => h s' (S.trans S') ?_
  rw [List.zip_cons_cons]
  exact I'
structure FnOk (o : Wo) (a : Addr) (fd : FuncData) (ns : List Str) (ds : List V) (body : List Stmt) : Prop where
 ob : ∃ ob, o.K.lookup a = some ob /\ ob.data = .func fd
 code : ∀ h, o.K.In h -> h.CodeRec fd.code fd.qualname
 dflt : ∃ dv : List Value, (∀ h, VRs h ds dv) /\ ∀ h, o.K.In h -> ((fd.defaults = .none /\ dv = []) \/ ∃ T ob n, fd.defaults = .ref T /\ h.get? T = some ob /\ ob.data = .seq dv.toArray n)
 params : ygy fd.params ns = true
 nd : ns.Nodup
 kinds : ∀ x ∈ ns, (fd.scope.names.lookup x == some .local || (fd.scope.names.lookup x == some .cell && !(x == ("__classdict__" : Str)))) = true
 kind : fd.scope.kind = .function
 gen : fd.scope.isGenerator = false
 co : fd.scope.isCoroutine = false
 glob : fd.globals = mainGlobals
 blt : fd.builtins = builtinsNs
 clo : fd.closure = []
 body : fd.body = .stmts body
 dle : ds.length <= ns.length
noncomputable def Kx.deep (k : Kx) (env : Env) : Kx := ⟨k.A.deeper env, env :: k.fs, k.n - 1⟩
noncomputable def Fl.v : Fl -> V
 | .ret v => v
 | _ => .none
theorem un5 {u n j : Nat} (hj : j <= 5) (hn : 1 <= n) : u + j + 5 * (n - 1) + 40 <= u + 5 * n + 40 := by omega
theorem KxOk.deep {k : Kx} (h : KxOk k) (hn : 1 <= k.n) (env : Env) : KxOk (k.deep env) where
 fr := by show k.A.frames.map _ = _; rw [h.fr]; rfl
 depth := by show k.A.depth + 1 + (k.n - 1) < _; rw [Nat.add_assoc, Nat.add_sub_of_le hn]; exact h.depth
 units := by exact Nat.lt_of_le_of_lt (un5 (by decide) hn) h.units
 handled := h.handled
theorem SI.of_depth {o : Wo} {k : Kx} {st : St} {s : Shared} (S : SI o k st s) {k' : Kx} (h : KxOk k') (hf : yrb k'.fs s.heap) : SI o k' st s := ⟨h, S.wd, hf, S.hs, S.sep⟩
noncomputable def nX : Exc -> St -> Prop := fun O O => False
theorem yp2 {o : Wo} [W : WoOk o] {k : Kx} {st : St} {a : Addr} {fd : FuncData} {ns : List Str} {ds : List V} {body : List Stmt} (hF : FnOk o a fd ns ds body) {as : List V} {Q : V -> St -> Prop} {X : Exc -> St -> Prop}
 (hn : 1 <= k.n) (h1 : as.length <= ns.length) (h2 : ns.length <= as.length + ds.length)
 (h : ∀ L, let c : Cx := ⟨k.deep (callEnvC fd L a), callEnvC fd L a⟩
  EXS o c (yae.binds (ns.zip (as ++ ds.drop (as.length + ds.length - ns.length))) yae.nil) st body (fun fl O st' => UpP Q fl.v st') nX) :
 yq7 o k st (.ref a) as Q X := fun s vs S r => by
 obtain ⟨ob, hob, hdat⟩ := hF.ob
 obtain ⟨dv, hdv, hdf⟩ := hF.dflt
 have hdl := (hdv s.heap).length
 have hvl := r.length
 have hk := S.wd.k
 refine codeAny_call_function (by have := S.ok.depth; (first | lia | omega)) (hk a ob hob) hdat hF.co hF.gen hF.body (hF.code _ hk) ?_
 refine bindsTo hF.params hF.nd (hdf _ hk) (by (first | lia | omega)) (by have := hF.dle; (first | lia | omega)) (by have := hF.dle; (first | lia | omega)) _ _ _ _ ?_
 rw [hF.clo]
 simp only [newFunctionEnv, Option.isSome_none, Bool.false_eq_true, if_false]
 refine wpAny_bind (wpAny_alloc ?_)
 refine wpAny_bind (wpAny_layCells _ (fun name kind cells => by induction hkc : kind == NameKind.cell <;> simp [hkc]) _ _ _ _ ?_)
 rw [show ({ s with heap := s.heap.push { cls := .type "frame", data := .dict #[] } } : Shared).heap.objs.size = s.heap.objs.size + 1 from Heap.size_push ..]
 have eE : newEnv fd.scope s.heap.objs.size fd.globals (cellsFrom (s.heap.objs.size + 1) fd.scope.names []) (fd.qualname ++ ".<locals>.") (some a) fd.code none fd.builtins = callEnvC fd s.heap.objs.size a := rfl
 generalize hEn : callEnvC fd s.heap.objs.size a = env at eE
 have hel : env.locals = s.heap.objs.size := by rw [<- hEn]; rfl
 have hec : env.cells = cellsFrom (s.heap.objs.size + 1) fd.scope.names [] := by rw [<- hEn]; rfl
 have hes : env.scope = fd.scope := by rw [<- hEn]; rfl
 have hef : env.frame = some s.heap.objs.size := by rw [<- hEn]; rfl
 obtain ⟨c, hc⟩ : ∃ c : Cx, c = ⟨k.deep env, env⟩ := ⟨_, rfl⟩
 have hce : c.env = env := by rw [hc]
 generalize hs1 : ({ s with heap := pushCells (s.heap.push { cls := .type "frame", data := .dict #[] }) fd.scope.names } : Shared) = s₁
 have S1 : Step o.P noF st s st s₁ := by
  rw [<- hs1]
  exact (Step.push S.hs { cls := .type "frame", data := .dict #[] } s.toks).trans (Step.pushCells fd.scope.names { s with heap := s.heap.push { cls := .type "frame", data := .dict #[] } } (S.hs.push _))
 have fL : s₁.heap.get? s.heap.objs.size = some { cls := .type "frame", data := .dict #[] } := by
  rw [<- hs1]; exact pushCells_keeps _ _ _ _ (Heap.get?_push_size _ rfl)
 have hcell : ∀ x b, (x, b) ∈ env.cells -> s₁.heap.get? b = some { cls := .type "cell", data := .cell none } /\ s.heap.objs.size + 1 <= b := fun x b hm => by
  rw [hec] at hm
  have := yde fd.scope.names (s.heap.push { cls := .type "frame", data := .dict #[] }) [] x b (by rw [Heap.size_push]; exact hm)
  rw [Heap.size_push] at this
  rcases this with q | q
  . cases q
  . rw [<- hs1]; exact q
 have ok := cellsFrom_ok fd.scope.names (s.heap.push { cls := .type "frame", data := .dict #[] }) (s.heap.objs.size + 1) [] ⟨fun O O hm => (nomatch hm), List.Pairwise.nil⟩ (by rw [Heap.size_push]; exact Nat.le_refl _)
 rw [Heap.size_push, <- hec] at ok
 have hown : ∀ b, own c b -> s.heap.get? b = none /\ st b = none /\ ∃ o, s₁.heap.get? b = some o := fun b hb => by
  have hle : s.heap.objs.size <= b /\ ∃ o, s₁.heap.get? b = some o := by
   rcases hb with hb | ⟨x, hb⟩
   . rw [hce, hel] at hb; rw [hb]; exact ⟨Nat.le_refl _, _, fL⟩
   . rw [hce] at hb; exact ⟨by have := (hcell x b hb).2; (first | lia | omega), _, (hcell x b hb).1⟩
  refine ⟨Heap.get?_none_of_le hle.1, ?_, hle.2⟩
  induction q : st b with
  | none => rfl
  | some m => obtain ⟨o', ho', _⟩ := S.hs b m q; rw [Heap.get?_none_of_le hle.1] at ho'; cases ho'
 have kk : ∀ x, env.kindOf x = fd.scope.names.lookup x := fun x => by unfold Env.kindOf; rw [hes]
 have I1 : Inv o c yae.nil st s₁ := by
  refine ⟨⟨by rw [hce, hes]; exact hF.kind, by rw [hce, <- hEn]; exact hF.glob, by rw [hce, <- hEn]; exact hF.blt⟩, ?_, ?_, ⟨fun b hb => ?_⟩, fun b hb => (hown b hb).2.1, fun b hb ha => ?_⟩
  . have S1' := S.step S1
    refine S1'.of_depth (by rw [hc]; exact S.ok.deep hn env) ?_
    rw [hc]
    intro e he
    rcases List.mem_cons.mp he with rfl | he
    . exact ⟨by rw [hes, hF.kind]; decide, _, _, hef, fL, rfl, _, _, rfl⟩
    . exact S1'.fs e he
  . rw [hce]
    refine ⟨⟨fun O => none, ?_, fun x v e => nomatch e⟩, fun x b e => ?_, ok.apart⟩
    . rw [hel, <- hs1]
      exact (Heap.Ns.new s.heap (.type "frame")).keeps (pushCells_keeps _ _)
    . exact ⟨_, _, (hcell x b (mem_of_lookup e)).1, rfl⟩
  . rcases hb with hb | ⟨x, hb⟩
    . rw [hce, hel] at hb; subst hb
      exact ⟨_, _, fL, rfl, .inl ⟨_, _, rfl⟩⟩
    . rw [hce] at hb
      exact ⟨_, _, (hcell x b hb).1, rfl, .inr ⟨_, rfl⟩⟩
  . have := In.ex S.wd ha
    rw [(hown b hb).1] at this; cases this
 have r1 : VRs s₁.heap (as ++ ds.drop (as.length + ds.length - ns.length)) (vs ++ dv.drop (vs.length + dv.length - ns.length)) := by
  rw [hvl, hdl]
  exact (r.keep S.hs S1.kp).append ((hdv _).drop _)
 have sto : ∀ x ∈ ns, ybp c.env x = true := fun x hx => by
  have := hF.kinds x hx
  unfold ybp
  rw [hce, kk]
  simp only [Bool.or_eq_true, Bool.and_eq_true, beq_iff_eq] at this ⊢
  rcases this with q | ⟨q1, q2⟩
  . exact .inl q
  . exact .inr ⟨⟨q1, by rw [hec]; exact ydf _ _ _ _ q1⟩, q2⟩
 refine wpAny_bind (bindR (o := o) (c := c) _ (fun O O O => by rw [hce, <- eE]; rfl) ns _ _ yae.nil _ _ I1 r1 sto fun s₂ S2 I2 => wpAny_pure ?_)
 have hb := h s.heap.objs.size
 rw [hEn] at hb
 dsimp only at hb
 rw [<- hc] at hb
 refine ⟨I2.si.wd.nolimit, ?_⟩
 have eE' : ({ scope := fd.scope, locals := s.heap.objs.size, globals := fd.globals, cells := cellsFrom (s.heap.objs.size + 1) fd.scope.names [], qual := fd.qualname ++ ".<locals>.", func := some a, code := fd.code, frame := some s.heap.objs.size, builtins := fd.builtins } : Env) = env := eE
 simp only [eE']
 refine codeAny_func ?_
 have eA : k.A.deeper env = c.k.A := by rw [hc]; rfl
 rw [eA]
 have := hb s₂ I2
 rw [hce] at this
 have S02 : Step o.P noF st s st s₂ := S1.absorb S2 fun b hb => (hown b hb).1
 refine wpAny_mono this (fun f s₃ p => ?_) fun e s₃ p => ?_
 . obtain ⟨fl, loc', st', fr, S3, L3, st'', hle, hq⟩ := p
   refine ⟨fl.v, st'', ?_, (S02.absorb S3 fun b hb => (hown b hb).1).forget hle, hq⟩
   induction fr <;> first | exact .none | assumption
 . obtain ⟨_, _, _, _, _, _, _, q⟩ := p
   exact q.elim
theorem call_fn {o : Wo} [W : WoOk o] {k : Kx} {st : St} {a : Addr} {fd : FuncData} {ns : List Str} {ds : List V} {body : List Stmt} (hF : FnOk o a fd ns ds body) {as : List V} {Q : V -> St -> Prop} {X : Exc -> St -> Prop}
 (hn : 1 <= k.n) (h1 : as.length <= ns.length) (h2 : ns.length <= as.length + ds.length)
 (h : ∀ L, let c : Cx := ⟨k.deep (callEnvC fd L a), callEnvC fd L a⟩
  EXS o c (yae.binds (ns.zip (as ++ ds.drop (as.length + ds.length - ns.length))) yae.nil) st body (fun fl O st' => UpP Q fl.v st') nX) :
 yak o k st (.ref a) as Q X := (yp2 hF hn h1 h2 h).call
section
variable {o : Wo} [W : WoOk o] {c : Cx} {k : Kx} {loc : yae} {st : St} {Q : V -> St -> Prop} {X : Exc -> St -> Prop} {QB : Bool -> St -> Prop} {QF : Fl -> yae -> St -> Prop} {QL : yae -> St -> Prop}
theorem EV.use {e : Expr} (h : EV o c loc st e Q X) {s : Shared} (I : Inv o c loc st s) {Qv : Value -> Shared -> Prop}
 (q : ∀ v st₁ va s₁, Q v st₁ -> Step o.P noF st s st₁ s₁ -> Inv o c loc st₁ s₁ -> VR s₁.heap v va -> Qv va s₁) : wpAny o.M c.k.A (eval e c.env) Qv (PX o noF st s X) s :=
 wpAny_mono (h s I) (fun _ _ ⟨_, _, a, b, d⟩ => q _ _ _ _ d b (I.step b) a) fun O O p => p
theorem TR.use {e : Expr} (h : TR o c loc st e QB X) {s : Shared} (I : Inv o c loc st s) {Qv : Bool -> Shared -> Prop}
 (q : ∀ v st₁ s₁, QB v st₁ -> Step o.P noF st s st₁ s₁ -> Inv o c loc st₁ s₁ -> Qv v s₁) : wpAny o.M c.k.A (isTrue e c.env (eval e c.env)) Qv (PX o noF st s X) s :=
 wpAny_mono (h s I) (fun _ _ ⟨_, b, d⟩ => q _ _ _ d b (I.step b)) fun O O p => p
theorem px {fl : Option Addr} {F : Addr -> Prop} {G : Heap -> Prop} {st₁ : St} {s s₁ : Shared} (S : Step o.P F st s st₁ s₁) {m : Sem α} {Qa : α -> Shared -> Prop} {A : Around} (h : wpAny o.M A m Qa (PXg o F G fl st₁ s₁ X) s₁) : wpAny o.M A m Qa (PXg o F G fl st s X) s₁ :=
 wpAny_mono h (fun O O p => p) fun O O p => p.trans S
theorem pxw {s : Shared} (I : Inv o c loc st s) {s' : Shared} {m : Sem α} {Qa : α -> Shared -> Prop} {A : Around} (h : wpAny o.M A m Qa (PX o noF st s X) s') : wpAny o.M A m Qa (PXO o c st s X) s' :=
 wpAny_mono h (fun O O p => p) fun _ _ ⟨y, st', e, a, b, S, _, d⟩ => ⟨y, st', e, a, b.weak, S.weak, (I.step S).lc.nil, d⟩
theorem yj3 {b : Bool} (h : QB b st) : TRV o k st (.bool b) QB X := fun s va S r => by cases r; exact wpAny_pure ⟨st, Step.refl S.hs, h⟩
theorem trv_none (h : QB false st) : TRV o k st .none QB X := fun s va S r => by cases r; exact wpAny_pure ⟨st, Step.refl S.hs, h⟩
theorem trv_int {i : Int} (h : QB (i != 0) st) : TRV o k st (.int i) QB X := fun s va S r => by cases r; exact PyProof.Rows.truthy_int (Q := PB o st s QB) ⟨st, Step.refl S.hs, h⟩
theorem tr_cmp {l r : Expr} {op : CmpOp} {pos : Pos} (h : EV o c loc st l (fun a st₁ => EV o c loc st₁ r (fun b st₂ => CMP o c.k st₂ op a b (fun v st₃ => TRV o c.k st₃ v QB X) X) X) X)
 (hm : behindInMarks op r = false := by with_unfolding_all rfl) : TR o c loc st (.Compare l [op] [r] pos) QB X := fun s I => by
 refine wpAny_isTrue_Compare1 (h.use I fun a st₁ va s₁ q S I₁ ra => px S (q.use I₁ fun b st₂ vb s₂ q₂ S₂ I₂ rb => px (S.trans S₂) ?_)) hm
 refine wpAny_mono (q₂ s₂ va vb I₂.si (ra.keep I₁.si.hs S₂.kp) rb) (fun v s₃ p => ?_) fun O O p => p
 obtain ⟨r3, st₃, rr, S₃, q₃⟩ := p
 have S' := (S.trans S₂).trans S₃
 exact px S' (wpAny_mono (q₃ s₃ _ (I₂.step S₃).si rr) (fun b s₄ p => p.trans S') fun O O p => p)
theorem ev_cmp {l r : Expr} {op : CmpOp} {pos : Pos} (h : EV o c loc st l (fun a st₁ => EV o c loc st₁ r (fun b st₂ => CMP o c.k st₂ op a b Q X) X) X)
 (hm : behindInMarks op r = false := by with_unfolding_all rfl) : EV o c loc st (.Compare l [op] [r] pos) Q X := fun s I => by
 refine wpAny_Compare1 (h.use I fun a st₁ va s₁ q S I₁ ra => px S (q.use I₁ fun b st₂ vb s₂ q₂ S₂ I₂ rb => px (S.trans S₂) ?_)) hm
 exact wpAny_mono (q₂ s₂ va vb I₂.si (ra.keep I₁.si.hs S₂.kp) rb) (fun v s₃ p => p.trans (S.trans S₂)) fun O O p => p
theorem tr_not {x : Expr} {pos : Pos} (h : TR o c loc st x (fun b st₁ => QB (!b) st₁) X) : TR o c loc st (.UnaryOp .Not x pos) QB X := fun s I =>
 wpAny_isTrue_Not (h.use I fun b st₁ s₁ q S O => ⟨st₁, S, q⟩)
theorem yjf {pos : Pos} (h : QB true st) : TR o c loc st (.BoolOp .And [] pos) QB X := fun s I => wpAny_isTrue_BoolOp (wpAny_allTrue_And_nil ⟨st, Step.refl I.si.hs, h⟩)
theorem ylg {pos : Pos} (h : QB false st) : TR o c loc st (.BoolOp .Or [] pos) QB X := fun s I => wpAny_isTrue_BoolOp (wpAny_allTrue_Or_nil ⟨st, Step.refl I.si.hs, h⟩)
theorem yj0 {op : BoolOp} {values : List Expr} {pos : Pos} {s : Shared} (I : Inv o c loc st s) (h : TR o c loc st (.BoolOp op values pos) QB X) : wpAny o.M c.k.A (allTrue op values c.env) (PB o st s QB) (PX o noF st s X) s := by
 have := h s I
 rwa [arm_isTrue_BoolOp] at this
theorem tr_and {x : Expr} {rest : List Expr} {pos : Pos} (h : TR o c loc st x (fun b st₁ => if b then TR o c loc st₁ (.BoolOp .And rest pos) QB X else QB false st₁) X) : TR o c loc st (.BoolOp .And (x :: rest) pos) QB X := fun s I =>
 wpAny_isTrue_BoolOp (wpAny_allTrue_And_cons (h.use I fun b st₁ s₁ q S I₁ => by
  induction b with
  | false => exact ⟨st₁, S, q⟩
  | true => exact px S (wpAny_mono (yj0 I₁ q) (fun O O p => p.trans S) fun O O p => p)))
theorem tr_or {x : Expr} {rest : List Expr} {pos : Pos} (h : TR o c loc st x (fun b st₁ => if b then QB true st₁ else TR o c loc st₁ (.BoolOp .Or rest pos) QB X) X) : TR o c loc st (.BoolOp .Or (x :: rest) pos) QB X := fun s I =>
 wpAny_isTrue_BoolOp (wpAny_allTrue_Or_cons (h.use I fun b st₁ s₁ q S I₁ => by
  induction b with
  | true => exact ⟨st₁, S, q⟩
  | false => exact px S (wpAny_mono (yj0 I₁ q) (fun O O p => p.trans S) fun O O p => p)))
theorem tr_val {e : Expr} (he : ∀ env whole, isTrue e env whole = (do let v <- whole; standAt e.pos; holding [v] (truthy v))) (h : EV o c loc st e (fun v st₁ => TRV o c.k st₁ v QB X) X) : TR o c loc st e QB X := fun s I =>
 wpAny_isTrue_value (h.use I fun v st₁ va s₁ q S I₁ ra => px S (wpAny_mono (q s₁ va I₁.si ra) (fun O O p => p.trans S) fun O O p => p)) (he _ _)
theorem ev_unary {x : Expr} {op : UnaryOp} {pos : Pos} (h : EV o c loc st x (fun a st₁ => OPU o c.k st₁ op a Q X) X) : EV o c loc st (.UnaryOp op x pos) Q X := fun s I =>
 wpAny_UnaryOp (h.use I fun a st₁ va s₁ q S I₁ ra => px S (wpAny_mono (q s₁ va I₁.si ra) (fun O O p => p.trans S) fun O O p => p))
theorem opu_not {a : V} (h : TRV o k st a (fun b st₁ => Q (.bool (!b)) st₁) X) : OPU o k st .Not a Q X := fun s va S ra =>
 not_value (wpAny_mono (h s va S ra) (fun b s₁ ⟨st₁, S₁, q⟩ => ⟨_, st₁, .bool _, S₁, q⟩) fun O O p => p)
theorem ev_ifexp {t b e : Expr} {pos : Pos} (h : TR o c loc st t (fun r st₁ => if r then EV o c loc st₁ b Q X else EV o c loc st₁ e Q X) X) : EV o c loc st (.IfExp t b e pos) Q X := fun s I =>
 wpAny_IfExp (h.use I fun r st₁ s₁ q S I₁ => by
  induction r
  . exact px S (wpAny_mono (q s₁ I₁) (fun O O p => p.trans S) fun O O p => p)
  . exact px S (wpAny_mono (q s₁ I₁) (fun O O p => p.trans S) fun O O p => p))
theorem ev_and2 {x y : Expr} {pos : Pos} (h : EV o c loc st x (fun a st₁ => TRV o c.k st₁ a (fun b st₂ => if b then EV o c loc st₂ y Q X else Q a st₂) X) X) : EV o c loc st (.BoolOp .And [x, y] pos) Q X := fun s I =>
 wpAny_And2 (h.use I fun a st₁ va s₁ q S I₁ ra => px S (wpAny_mono (q s₁ va I₁.si ra) (fun b s₂ ⟨st₂, S₂, q₂⟩ => by
  have S' := S.trans S₂
  induction b with
  | false => exact ⟨a, st₂, ra.keep I₁.si.hs S₂.kp, S', q₂⟩
  | true => exact px S' (wpAny_mono (q₂ s₂ (I₁.step S₂)) (fun O O p => p.trans S') fun O O p => p)) fun O O p => p))
theorem ev_or2 {x y : Expr} {pos : Pos} (h : EV o c loc st x (fun a st₁ => TRV o c.k st₁ a (fun b st₂ => if b then Q a st₂ else EV o c loc st₂ y Q X) X) X) : EV o c loc st (.BoolOp .Or [x, y] pos) Q X := fun s I =>
 wpAny_Or2 (h.use I fun a st₁ va s₁ q S I₁ ra => px S (wpAny_mono (q s₁ va I₁.si ra) (fun b s₂ ⟨st₂, S₂, q₂⟩ => by
  have S' := S.trans S₂
  induction b with
  | true => exact ⟨a, st₂, ra.keep I₁.si.hs S₂.kp, S', q₂⟩
  | false => exact px S' (wpAny_mono (q₂ s₂ (I₁.step S₂)) (fun O O p => p.trans S') fun O O p => p)) fun O O p => p))
theorem exs_nil (h : QF .next loc st) : EXS o c loc st [] QF X := fun s I => wpAny_execs_nil ⟨.next, loc, st, .next, Step.refl I.si.hs, I.lc, h⟩
theorem ypw {e : Stmt} {es : List Stmt} (h : EX o c loc st e (fun f loc₁ st₁ => match f with | .next => EXS o c loc₁ st₁ es QF X | f => QF f loc₁ st₁) X) : EXS o c loc st (e :: es) QF X := fun s I => by
 refine wpAny_execs_cons (wpAny_mono (h s I) (fun f s₁ p => ?_) fun O O p => p)
 obtain ⟨fl, loc₁, st₁, fr, S, L, q⟩ := p
 have I₁ := I.stepF S L
 induction fr with
 | next => exact px S (wpAny_mono (q s₁ I₁) (fun O O p => p.trans S) fun O O p => p)
 | brk => exact ⟨_, _, _, .brk, S, L, q⟩
 | cont => exact ⟨_, _, _, .cont, S, L, q⟩
 | ret r => exact ⟨_, _, _, .ret r, S, L, q⟩
theorem ex_pass {pos : Pos} (h : QF .next loc st) : EX o c loc st (.Pass pos) QF X := fun s I => wpAny_Pass ⟨.next, loc, st, .next, Step.refl I.si.hs, I.lc, h⟩
theorem ex_break {pos : Pos} (h : QF .brk loc st) : EX o c loc st (.Break pos) QF X := fun s I => wpAny_Break ⟨.brk, loc, st, .brk, Step.refl I.si.hs, I.lc, h⟩
theorem yoa {pos : Pos} (h : QF .cont loc st) : EX o c loc st (.Continue pos) QF X := fun s I => wpAny_Continue ⟨.cont, loc, st, .cont, Step.refl I.si.hs, I.lc, h⟩
theorem ys9 {e : Expr} {pos : Pos} (h : EV o c loc st e (fun v st₁ => QF (.ret v) loc st₁) X) : EX o c loc st (.Return (some e) pos) QF X := fun s I =>
 wpAny_Return_some (pxw I (h.use I fun v st₁ va s₁ q S I₁ r => ⟨_, _, _, .ret r, S.weak, I₁.lc, q⟩))
theorem yi8 {pos : Pos} (h : QF (.ret .none) loc st) : EX o c loc st (.Return none pos) QF X := fun s I => wpAny_Return_none ⟨_, _, _, .ret .none, Step.refl I.si.hs, I.lc, h⟩
theorem ex_expr {e : Expr} {pos : Pos} (hs : ∀ env, swapsWith e none pos.line env = pure false) (h : EV o c loc st e (fun O st₁ => QF .next loc st₁) X) : EX o c loc st (.Expr e pos) QF X := fun s I => by
 have hi : interactive c.env = false := by unfold interactive; rw [I.cx.kind]; rfl
 rw [exec_Expr c.env e pos hi (hs _)]
 refine wpAny_bind (wpAny_standAt (wpAny_bind (pxw I (h.use I fun v st₁ va s₁ q S I₁ r => ?_))))
 exact wpAny_dropValue ⟨.next, loc, st₁, .next, S.weak, I₁.lc, q⟩
theorem ex_if {t : Expr} {b e : List Stmt} {pos : Pos} (h : TR o c loc st t (fun r st₁ => if r then EXS o c loc st₁ b QF X else EXS o c loc st₁ e QF X) X) : EX o c loc st (.If t b e pos) QF X := fun s I =>
 wpAny_If (pxw I (h.use I fun r st₁ s₁ q S I₁ => by
  have S' := S.weak (F := own c)
  induction r
  . exact px S' (wpAny_mono (q s₁ I₁) (fun O O p => p.trans S') fun O O p => p)
  . exact px S' (wpAny_mono (q s₁ I₁) (fun O O p => p.trans S') fun O O p => p)))
theorem yta {t e : Expr} {pos : Pos} (hs : ∀ env, swapsWith e (some t) pos.line env = pure false) (hw : ∀ env, swappedStores [t] e env = pure none) (he : ∀ env, (assignEach [t] env).map (·.2) = [assign t env]) (h : EV o c loc st e (fun v st₁ => ASG o c loc st₁ t v (fun loc₂ st₂ => QF .next loc₂ st₂) X) X) :
 EX o c loc st (.Assign [t] e pos) QF X := fun s I => by
 refine wpAny_Assign_stores (pxw I (h.use I fun v st₁ va s₁ q S I₁ r => ?_)) (hs _) (hw _)
 rw [he]
 have S' := S.weak (F := own c)
 refine px S' ?_
 show wpAny o.M c.k.A (assign t c.env va) _ _ s₁
 exact wpAny_mono (q s₁ va I₁ r) (fun _ s₂ ⟨loc₂, st₂, S₂, L, q₂⟩ => ⟨_, loc₂, st₂, .next, S'.trans S₂, L, q₂⟩) fun O O p => p
theorem yp6 {x : Str} {pos : Pos} {v : V} (hx : ybp c.env x = true) (h : QL (loc.set x v) st) : ASG o c loc st (.Name x pos) v QL X := fun s u I r => by
 show wpAny o.M c.k.A (do standAt pos; bindName c.env x u) _ _ s
 exact wpAny_bind (wpAny_standAt (wpAny_bindName (ycd I r hx fun h' t S L => ⟨_, st, S, L, h⟩)))
end
theorem Step.absorbF {P : Params} {F G : Addr -> Prop} {st st₁ st₂ : St} {s s₁ s₂ : Shared} (x : Step P F st s st₁ s₁) (y : Step P G st₁ s₁ st₂ s₂) (hF : ∀ a, G a -> F a \/ s.heap.get? a = none) : Step P F st s st₂ s₂ where
 holds := y.holds
 sub a h := by
  rcases y.sub a h with h | h
  . exact x.sub a h
  . right
    induction q : s.heap.get? a with
    | none => rfl
    | some o => have := x.mono a (by rw [q]; rfl); rw [h] at this; cases this
 ext b o hf hb ho := by
  obtain ⟨o₁, h1, k1⟩ := x.ext b o hf hb ho
  obtain ⟨o₂, h2, k2⟩ := y.ext b o₁ (fun g => (hF b g).elim hf fun q => by rw [q] at ho; cases ho) (x.still hb ho) h1
  exact ⟨o₂, h2, k1.trans k2⟩
 own b o hf hb ho := by
  obtain ⟨o₁, h1, k1⟩ := x.own b o hf hb ho
  by_cases g : G b
  . obtain ⟨o₂, h2, k2⟩ := y.own b o₁ g (x.still hb ho) h1
    exact ⟨o₂, h2, k1.trans k2⟩
  . obtain ⟨o₂, h2, k2⟩ := y.ext b o₁ g (x.still hb ho) h1
    exact ⟨o₂, h2, k1.trans k2.oo⟩
 mono b h := y.mono b (x.mono b h)
 gens := y.gens.trans x.gens
 os := y.os.trans x.os
inductive FreeRec (o : Wo) (h : Heap) (a : Addr) : Prop
 | mk (n : ¬ o.ad a) (ob : Obj) (T : String) (vs : Array Value) (e : h.get? a = some ob) (c : ob.cls = .type T) (d : ob.data = .fields vs) (r : T ≠ "range")
theorem FreeRec.no {o : Wo} {h : Heap} {a : Addr} (x : FreeRec o h a) : ¬ o.ad a := match x with | ⟨n, _, _, _, _, _, _, _⟩ => n
section
variable {o : Wo} [W : WoOk o] {c : Cx} {k : Kx} {loc : yae} {st st' : St} {s s' : Shared}
theorem FreeRec.stn {a : Addr} (H : Holds o.P st s.heap) (x : FreeRec o s.heap a) : st a = none := by
 obtain ⟨_, ob, T, vs, h1, h2, h3, h4⟩ := x
 exact ycy H h1 h2 h3
theorem DOk.free {F : Addr -> Prop} (H : Holds o.P st s.heap) (hF : ∀ a, F a -> FreeRec o s.heap a) : DOk (fun b => st b ≠ none \/ F b) s.heap where
 tup a ws n x q := by
  rcases q with q | q
  . exact q (yd7 H x)
  . obtain ⟨_, ob, T, vs, h1, h2, h3, h4⟩ := hF a q
    have e := Option.some.inj (h1.symm.trans x)
    subst e; cases h3
 rng a ob vs x hc hd q := by
  rcases q with q | q
  . exact q (ycy H x hc hd)
  . obtain ⟨_, ob', T, vs, h1, h2, h3, h4⟩ := hF a q
    rw [x] at h1; cases h1
    rw [hc] at h2; cases h2
    exact h4 rfl
 obj a ob x hd hC q := by
  rcases q with q | q
  . exact q (ydb H x hd)
  . obtain ⟨_, ob', T, vs, h1, h2, h3, h4⟩ := hF a q
    rw [x] at h1; cases h1
    rw [hd] at h3; cases h3
theorem VR.stepG {F : Addr -> Prop} (H : Holds o.P st s.heap) (hF : ∀ a, F a -> FreeRec o s.heap a) (x : Step o.P F st s st' s') {a : V} {v : Value} (r : VR s.heap a v) : VR s'.heap a v := r.keepD (DOk.free H hF) x.kpd
theorem SI.stepG {F : Addr -> Prop} (S : SI o k st s) (hF : ∀ a, F a -> FreeRec o s.heap a) (x : Step o.P F st s st' s') : SI o k st' s' := by
 have ad : ∀ a, o.ad a -> ∀ ob, s.heap.get? a = some ob -> KOx s'.heap a ob := fun a ha ob hob => x.ext a ob (fun q => (hF a q).no ha) (S.sep a ha) hob
 have nk : ∀ {a : Addr} {m : Str -> Option Value}, o.ad a -> s.heap.Ns a m -> s'.heap.Ns a m := fun {a m} ha ⟨ob, es, ep, h1, h2, r⟩ => by
  obtain ⟨o', h, k⟩ := ad a ha ob h1
  exact ⟨o', es, ep, h, k.data.trans h2, r⟩
 refine ⟨S.ok, ⟨fun a ob e => ?_, nk (.inr (.inl rfl)) S.wd.g, nk (.inr (.inr (.inl rfl))) S.wd.b, S.wd.bi, ?_⟩, S.fs.stepF S.hs x, x.holds, fun a ha => ye2 x.sub (S.sep a ha) (In.ex S.wd ha)⟩
 . obtain ⟨o', h, k⟩ := ad a (.inl ⟨ob, e⟩) ob (S.wd.k a ob e)
   rw [k.eq (W.noFrame a ob e)] at h
   exact h
 . obtain ⟨mc, h1, h2⟩ := S.wd.nolimit
   exact ⟨mc, nk (.inr (.inr (.inr rfl))) h1, h2⟩
theorem LocR.keepD {D : Addr -> Prop} {h' : Heap} (I : Inv o c loc st s) (H : DOk D s.heap) (K : KpD D s.heap h') (hD : ∀ a, own c a -> ¬ D a) : LocR c.env loc h' := by
 have kp : ∀ a, own c a -> ∀ ob, s.heap.get? a = some ob -> KOx h' a ob := fun a ha ob hob => K a ob (hD a ha) hob
 have ck : ∀ {a : Addr} {v : Option Value}, own c a -> s.heap.IsCell a v -> h'.IsCell a v := fun {a v} ha ⟨ob, h1, h2⟩ => by
  obtain ⟨o', h, k⟩ := kp a ha ob h1
  exact ⟨o', h, k.data.trans h2⟩
 refine ⟨?_, fun y a e => ?_, I.lc.apart⟩
 . obtain ⟨m, ⟨ob, es, ep, h1, h2, h3⟩, q⟩ := I.lc.ns
   obtain ⟨o', h, k⟩ := kp _ (.inl rfl) ob h1
   refine ⟨m, ⟨o', es, ep, h, k.data.trans h2, h3⟩, fun y v e => ?_⟩
   rcases q y v e with ⟨b1, u, b2, b3⟩ | ⟨b1, b2, a, u, b3, b4, b5⟩
   . exact .inl ⟨b1, u, b2, b3.keepD H K⟩
   . exact .inr ⟨b1, b2, a, u, b3, ck (.inr ⟨y, mem_of_lookup b3⟩) b4, b5.keepD H K⟩
 . obtain ⟨u, q⟩ := I.lc.cells y a e
   exact ⟨u, ck (.inr ⟨y, mem_of_lookup e⟩) q⟩
theorem FreeRec.nown {a : Addr} (I : Inv o c loc st s) (x : FreeRec o s.heap a) : ¬ own c a := fun q => by
 obtain ⟨_, ob, T, vs, h1, h2, h3, h4⟩ := x
 obtain ⟨ob', T', e1, e2, e3⟩ := I.ow.ex a q
 rw [h1] at e1; cases e1
 rcases e3 with ⟨es, n, e3⟩ | ⟨v, e3⟩ <;> (rw [h3] at e3; cases e3)
theorem Step.lost {F : Addr -> Prop} {st₁ : St} {s₁ : Shared} {it : Addr} {h' : Heap} {t : Nat} (x : Step o.P F st s st₁ s₁) (hf : FreeRec o s₁.heap it) (hfr : s.heap.get? it = none) (hs : Heap.ExtBut it s₁.heap h') :
 Step o.P F st s st₁ { s₁ with heap := h', toks := t } := by
 have K : KpD (fun b => st₁ b ≠ none \/ b = it) s₁.heap h' := fun b ob hb hob => ⟨ob, hs b ob (fun q => hb (.inr q)) hob, .refl ob⟩
 have D : DOk (fun b => st₁ b ≠ none \/ b = it) s₁.heap := DOk.free x.holds fun a q => by subst q; exact hf
 have ne : ∀ {b ob}, s.heap.get? b = some ob -> b ≠ it := fun h q => by rw [q, hfr] at h; cases h
 refine ⟨fun a m e => ?_, x.sub, fun b ob hb hst hob => ?_, fun b ob hb hst hob => ?_, fun b hb => ?_, x.gens, x.os⟩
 . obtain ⟨ob, h1, h2⟩ := x.holds a m e
   have : a ≠ it := by intro q; subst q; rw [hf.stn x.holds] at e; cases e
   exact ⟨ob, hs a ob this h1, h2.keepD D K⟩
 . obtain ⟨o', h1, h2⟩ := x.ext b ob hb hst hob
   exact ⟨o', hs _ _ (ne hob) h1, h2⟩
 . obtain ⟨o', h1, h2⟩ := x.own b ob hb hst hob
   exact ⟨o', hs _ _ (ne hob) h1, h2⟩
 . obtain ⟨ob, hob⟩ := Option.isSome_iff_exists.mp hb
   obtain ⟨o', ho'⟩ := Option.isSome_iff_exists.mp (x.mono b hb)
   show (h'.get? b).isSome = true
   rw [hs _ _ (ne hob) ho']; rfl
theorem Inv.stepG {F : Addr -> Prop} (I : Inv o c loc st s) (hF : ∀ a, F a -> FreeRec o s.heap a) (x : Step o.P F st s st' s') : Inv o c loc st' s' := by
 have nown : ∀ a, own c a -> ¬ F a := fun a ha q => by
  obtain ⟨_, ob, T, vs, h1, h2, h3, h4⟩ := hF a q
  obtain ⟨ob', T', e1, e2, e3⟩ := I.ow.ex a ha
  rw [h1] at e1; cases e1
  rcases e3 with ⟨es, n, e3⟩ | ⟨v, e3⟩ <;> (rw [h3] at e3; cases e3)
 have kp : ∀ a, own c a -> ∀ ob, s.heap.get? a = some ob -> KOx s'.heap a ob := fun a ha ob hob => x.ext a ob (nown a ha) (I.ost a ha) hob
 have ck : ∀ {a : Addr} {v : Option Value}, own c a -> s.heap.IsCell a v -> s'.heap.IsCell a v := fun {a v} ha ⟨ob, h1, h2⟩ => by
  obtain ⟨o', h, k⟩ := kp a ha ob h1
  exact ⟨o', h, k.data.trans h2⟩
 refine ⟨I.cx, I.si.stepG hF x, ⟨?_, fun y a e => ?_, I.lc.apart⟩, I.ow.step I.ost x, fun a ha => ?_, I.oad⟩
 . obtain ⟨m, ⟨ob, es, ep, h1, h2, h3⟩, q⟩ := I.lc.ns
   obtain ⟨o', h, k⟩ := kp _ (.inl rfl) ob h1
   refine ⟨m, ⟨o', es, ep, h, k.data.trans h2, h3⟩, fun y v e => ?_⟩
   rcases q y v e with ⟨b1, u, b2, b3⟩ | ⟨b1, b2, a, u, b3, b4, b5⟩
   . exact .inl ⟨b1, u, b2, VR.stepG I.si.hs hF x b3⟩
   . exact .inr ⟨b1, b2, a, u, b3, ck (.inr ⟨y, mem_of_lookup b3⟩) b4, VR.stepG I.si.hs hF x b5⟩
 . obtain ⟨u, q⟩ := I.lc.cells y a e
   exact ⟨u, ck (.inr ⟨y, mem_of_lookup e⟩) q⟩
 . obtain ⟨ob, T, h1, _⟩ := I.ow.ex a ha
   exact x.still (I.ost a ha) h1
theorem Step.free {it : Addr} {h' : Heap} {t : Nat} (H : Holds o.P st s.heap) (hf : FreeRec o s.heap it) (hs : Heap.ExtBut it s.heap h') (hit : ∀ ob, s.heap.get? it = some ob -> OOx h' it ob) :
 Step o.P (fun b => b = it) st s st { s with heap := h', toks := t } := by
 have K : KpD (fun b => st b ≠ none \/ b = it) s.heap h' := fun b ob hb hob => ⟨ob, hs b ob (fun q => hb (.inr q)) hob, .refl ob⟩
 have D : DOk (fun b => st b ≠ none \/ b = it) s.heap := DOk.free H fun a q => by subst q; exact hf
 refine ⟨fun a m e => ?_, fun a e => .inl e, fun b ob hb O hob => ⟨ob, hs b ob hb hob, .refl ob⟩, fun b ob hb O hob => ?_, fun b hb => ?_, rfl, rfl⟩
 . obtain ⟨ob, h1, h2⟩ := H a m e
   have : a ≠ it := by intro q; subst q; rw [hf.stn H] at e; cases e
   exact ⟨ob, hs a ob this h1, h2.keepD D K⟩
 . have hb : b = it := hb
   subst hb; exact hit ob hob
 . obtain ⟨ob, hob⟩ := Option.isSome_iff_exists.mp hb
   by_cases q : b = it
   . subst q; obtain ⟨ob', h1, _⟩ := hit ob hob; show (h'.get? b).isSome = true; rw [h1]; rfl
   . show (h'.get? b).isSome = true; rw [hs b ob q hob]; rfl
end
section
variable {o : Wo} [W : WoOk o] {c : Cx} {loc : yae} {st : St} {X : Exc -> St -> Prop} {QF : Fl -> yae -> St -> Prop}
theorem ex_while {t : Expr} {body : List Stmt} {pos : Pos} (J : Nat -> yae -> St -> Prop) (n : Nat) (h0 : J n loc st)
 (turn : ∀ n loc st, J n loc st -> TR o c loc st t (fun b st₁ => if b then EXS o c loc st₁ body (fun fl loc₂ st₂ => match fl with
  | .next | .cont => ∃ m, m < n /\ J m loc₂ st₂
  | .brk => QF .next loc₂ st₂
  | .ret v => QF (.ret v) loc₂ st₂) (fun O O => False) else QF .next loc st₁) (fun O O => False)) :
 EX o c loc st (.While t body [] pos) QF X := fun s I => by
 refine wpAny_While (codeAny_whileLoop (fun n s' => ∃ loc' st', J n loc' st' /\ Step o.P (own c) st s st' s' /\ Inv o c loc' st' s') (fun n s' ⟨loc', st', hJ, S, I'⟩ => ?_) n ⟨loc, st, h0, Step.refl I.si.hs, I⟩)
 have noX : ∀ {F : Addr -> Prop} {G : Heap -> Prop} {fl : Option Addr} {st₁ : St} {s₁ : Shared} {e : Value} {s₂ : Shared} {Z : Prop}, PXg o F G fl st₁ s₁ (fun O O => False) e s₂ -> Z := fun ⟨_, _, _, _, _, _, _, q⟩ => q.elim
 refine wpAny_mono (turn n loc' st' hJ s' I') (fun b s₁ ⟨st₁, S₁, q⟩ => ?_) fun e s₂ p => noX p
 . have I₁ := I'.step S₁
   have S' : Step o.P (own c) st s st₁ s₁ := S.trans S₁.weak
   induction b with
   | false =>
    exact wpAny_execs_nil ⟨.next, _, st₁, .next, S', I₁.lc, q⟩
   | true =>
    refine wpAny_mono (q s₁ I₁) (fun f s₂ p => ?_) fun O O p => noX p
    obtain ⟨fl, loc₂, st₂, fr, S₂, L₂, q₂⟩ := p
    have I₂ := I₁.stepF S₂ L₂
    induction fr with
    | next => obtain ⟨m, hm, hj⟩ := q₂; exact ⟨m, hm, _, _, hj, S'.trans S₂, I₂⟩
    | cont => obtain ⟨m, hm, hj⟩ := q₂; exact ⟨m, hm, _, _, hj, S'.trans S₂, I₂⟩
    | brk => exact ⟨_, _, _, .next, S'.trans S₂, L₂, q₂⟩
    | ret r => exact ⟨_, _, _, .ret r, S'.trans S₂, L₂, q₂⟩
theorem yi5 {target : Expr} {it : Addr} {v : Value} {ob : Obj} {T : String} {M : Model} {A : Around} {E : Value -> Shared -> Prop} {s : Shared} {Q : Unit -> Shared -> Prop} (ho : s.heap.get? it = some ob) (hc : ob.cls = .type T)
 (hT : ["enumerate", "zip", "dict_itemiterator", "dict_reverseitemiterator", "odict_iterator", "itertools.zip_longest", "itertools.pairwise"].contains T = false) (h : Q () s) : wpAny M A (letOwnedTupleGo target (.ref it) v) Q E s := by
 obtain ⟨cl, di, da, sl⟩ := ob
 cases hc
 have key : ∀ a, wpAny M A (do
  let o <- load it
  match o.cls, o.data with
  | .type n, .fields vs =>
   if ["enumerate", "zip", "dict_itemiterator", "dict_reverseitemiterator", "odict_iterator", "itertools.zip_longest", "itertools.pairwise"].contains n && vs[0]? == some (rawInt a) then do
    rule "for.unpacks-the-owned-tuple"
    updateField it 0 .none
  | _, _ => pure ()) Q E s := fun a => by
  refine wpAny_bind (wpAny_load ho ?_)
  dsimp only
  induction da <;> first | exact wpAny_pure h | (dsimp only; rw [hT, Bool.false_and, if_neg (by decide)]; exact wpAny_pure h)
 cases target <;> first | exact wpAny_pure h | (cases v <;> first | exact wpAny_pure h | exact key _)
theorem nsome {α : Type} {x : Option α} (h : x.isSome = true) (e : x = none) : False := by subst e; cases h
structure IterOk (o : Wo) (it : Addr) (T : String) (P : Nat -> Heap -> Prop) (R : Heap -> Prop) : Prop where
 ad : ¬ o.ad it
 p : ∀ i h h', P i h -> h'.get? it = h.get? it -> P i h'
 ex : ∀ i h, P i h -> ∃ ob vs, h.get? it = some ob /\ ob.cls = .type T /\ ob.data = .fields vs
 nf : T ≠ "frame"
 nr : T ≠ "range"
 r : ∀ {D : Addr -> Prop} {h h' : Heap}, DOk D h -> KpD D h h' -> R h -> R h'
theorem IterOk.free {it : Addr} {T : String} {P : Nat -> Heap -> Prop} {R : Heap -> Prop} (K : IterOk o it T P R) {i : Nat} {h : Heap} (hp : P i h) : FreeRec o h it := by
 obtain ⟨ob, vs, a, b, d⟩ := K.ex i h hp
 exact ⟨K.ad, ob, T, vs, a, b, d, K.nr⟩
theorem IterOk.keep {it : Addr} {T : String} {P : Nat -> Heap -> Prop} {R : Heap -> Prop} (K : IterOk o it T P R) {st₁ st₂ : St} {s₁ s₂ : Shared} {F : Addr -> Prop} {i : Nat} (x : Step o.P F st₁ s₁ st₂ s₂) (H : Holds o.P st₁ s₁.heap) (hF : ¬ F it) (hp : P i s₁.heap) : P i s₂.heap := by
 obtain ⟨ob, vs, e1, e2, _⟩ := K.ex i _ hp
 obtain ⟨o', h1, k1⟩ := x.ext it ob hF ((K.free hp).stn H) e1
 rw [k1.eq (by rw [e2]; intro q; cases q; exact K.nf rfl)] at h1
 exact K.p i _ _ hp (h1.trans e1.symm)
theorem IterOk.stepI {it : Addr} {T : String} {P : Nat -> Heap -> Prop} {R : Heap -> Prop} (K : IterOk o it T P R) {st : St} {s : Shared} {h' : Heap} {t i : Nat} (H : Holds o.P st s.heap) (hp : P i s.heap) (hp' : P (i + 1) h') (hs : Heap.SameBut it s.heap h') : Step o.P (fun b => b = it) st s st { s with heap := h', toks := t } :=
 Step.free H (K.free hp) hs.extBut fun ob' hob' => by
  obtain ⟨ob1, vs1, g1, g2, g3⟩ := K.ex _ _ hp
  obtain ⟨ob, vs, e1, e2, e3⟩ := K.ex _ _ hp'
  rw [g1] at hob'; cases hob'
  exact ⟨ob, e1, e2.trans g2.symm, fun ⟨_, _, q⟩ => (by rw [g3] at q; cases q), fun ⟨_, q⟩ => (by rw [g3] at q; cases q)⟩
theorem IterOk.plain {it : Addr} {T : String} {P : Nat -> Heap -> Prop} {R : Heap -> Prop} (K : IterOk o it T P R) {target : Expr} {v : Value} {M : Model} {A : Around} {E : Value -> Shared -> Prop} {s : Shared} {Q : Unit -> Shared -> Prop} {i : Nat} (hT : ["enumerate", "zip", "dict_itemiterator", "dict_reverseitemiterator", "odict_iterator", "itertools.zip_longest", "itertools.pairwise"].contains T = false) (hp : P i s.heap) (h : Q () s) : wpAny M A (letOwnedTupleGo target (.ref it) v) Q E s := by
 obtain ⟨ob, vs, e1, e2, _⟩ := K.ex _ _ hp
 exact yi5 e1 e2 hT h
inductive FLoop (o : Wo) (P : Nat -> Heap -> Prop) (R : Heap -> Prop) (c : Cx) (st₀ : St) (s₀ : Shared) (xs : List V) (J : Nat -> yae -> St -> Prop) (n : Nat) (s : Shared) : Prop
 | mk {i : Nat} {loc : yae} {st : St} : n = xs.length - i -> i <= xs.length -> J i loc st -> P i s.heap -> R s.heap -> Step o.P (own c) st₀ s₀ st s -> Inv o c loc st s -> FLoop o P R c st₀ s₀ xs J n s
set_option tactic.hygienic true in
theorem ys4 {X : Exc -> St -> Prop} {target : Expr} {body : List Stmt} {it : Addr} {xs : List V} {T : String} {P : Nat -> Heap -> Prop} {R : Heap -> Prop} {J : Nat -> yae -> St -> Prop} {s₀ s : Shared} {E : Value -> Shared -> Prop}
 (hfresh : s₀.heap.get? it = none) (H₀ : SI o c.k st s₀) (S : Step o.P (own c) st s₀ st s) (I : Inv o c loc st s)
 (hP : ∀ i h h', P i h -> h'.get? it = h.get? it -> P i h')
 (hPex : ∀ i h, P i h -> ∃ ob vs, h.get? it = some ob /\ ob.cls = .type T /\ ob.data = .fields vs)
 (hT : ["enumerate", "zip", "dict_itemiterator", "dict_reverseitemiterator", "odict_iterator", "itertools.zip_longest", "itertools.pairwise"].contains T = false) (hTf : T ≠ "frame") (hTr : T ≠ "range")
 (hR : ∀ {D : Addr -> Prop} {st : St} {h h' : Heap}, DOk D h -> KpD D h h' -> R h -> R h')
 (hItem : ∀ i x loc' st' (s : Shared) Q, xs[i]? = some x -> J i loc' st' -> SI o c.k st' s -> R s.heap -> P i s.heap -> (∀ h' va t, P (i + 1) h' -> Heap.SameBut it s.heap h' -> VR s.heap x va -> Q (some va) { s with heap := h', toks := t }) -> wpAny o.M c.k.A (pyNext (.ref it)) Q E s)
 (hEnd : ∀ loc' st' (s : Shared) Q, J xs.length loc' st' -> SI o c.k st' s -> R s.heap -> P xs.length s.heap -> (∀ h', Heap.ExtBut it s.heap h' -> Q none { s with heap := h' }) -> wpAny o.M c.k.A (pyNext (.ref it)) Q E s)
 (h0 : P 0 s.heap) (hR0 : R s.heap) (hJ0 : J 0 loc st)
 (turn : ∀ i x loc st, xs[i]? = some x -> J i loc st -> ASG o c loc st target x (fun loc₁ st₁ => EXS o c loc₁ st₁ body (fun fl loc₂ st₂ => match fl with
  | .next | .cont => J (i + 1) loc₂ st₂
  | .brk => QF .next loc₂ st₂
  | .ret v => QF (.ret v) loc₂ st₂) X) (fun O O => False))
 (fin : ∀ loc st, J xs.length loc st -> QF .next loc st) {R' : Result -> Shared -> Prop}
 (hr : ∀ f s', PF o c st s₀ QF f s' -> R' (.ok f) s') (hx : ∀ loc₂ st₂ s₂ ev s₃, Step o.P (own c) st s₀ st₂ s₂ -> Inv o c loc₂ st₂ s₂ -> PXO o c st₂ s₂ X ev s₃ -> E ev s₃) (hE : E = notedBy o.M c.k.A c.env fun e s' => R' (.error e) s') :
 codeAny o.M c.k.A (.forLoop target (.ref it) body [] c.env) R' s := by
 have noX : ∀ {F : Addr -> Prop} {G : Heap -> Prop} {fl : Option Addr} {st₁ : St} {s₁ : Shared} {e : Value} {s₂ : Shared} {Z : Prop}, PXg o F G fl st₁ s₁ (fun O O => False) e s₂ -> Z := fun ⟨_, _, _, _, _, _, _, q⟩ => q.elim
 have K : IterOk o it T P R := ⟨fun q => nsome (In.ex H₀.wd q) hfresh, hP, hPex, hTf, hTr, fun D K => hR (st := st) D K⟩
 clear hP hPex hTf hTr hR
 refine codeAny_forLoop_any (FLoop o P R c st s₀ xs J) (fun n s' h => ?_) xs.length ⟨rfl, Nat.zero_le _, hJ0, h0, hR0, S, I⟩
 subst hE
 obtain ⟨hn, hi, hJ, hp, hr', S', I'⟩ := h
 rename_i i loc' st'
 subst hn
 have fr := K.free hp
 have fr' : ∀ a, a = it -> FreeRec o s'.heap a := fun a q => q ▸ fr
 induction hxx : xs[i]? with
 | none =>
  have hil : i = xs.length := Nat.le_antisymm hi (List.getElem?_eq_none_iff.mp hxx)
  refine hEnd loc' st' s' _ (hil ▸ hJ) I'.si hr' (hil ▸ hp) fun h' he => ?_
  refine wpAny_execs_nil (hr _ _ ⟨.next, loc', st', .next, Step.lost (t := s'.toks) S' fr hfresh he, ?_, fin _ _ (hil ▸ hJ)⟩)
  exact LocR.keepD (D := fun b => st' b ≠ none \/ b = it) I' (DOk.free I'.si.hs fr') (fun b ob hb hob => ⟨ob, he b ob (fun q => hb (.inr q)) hob, .refl ob⟩) fun a ha q => q.elim (fun q => q (I'.ost a ha)) fun q => fr.nown I' (q ▸ ha)
 | some x =>
  have hlt : i < xs.length := (List.getElem?_eq_some_iff.mp hxx).1
  refine hItem i x loc' st' s' _ hxx hJ I'.si hr' hp fun h' va t hp' hs' rv => ?_
  have S1 := K.stepI (t := t) I'.si.hs hp hp' hs'
  have I1 := I'.stepG fr' S1
  refine K.plain (s := { s' with heap := h', toks := t }) hT hp' ?_
  have S01 : Step o.P (own c) st s₀ st' { s' with heap := h', toks := t } := S'.absorbF S1 fun a (q : a = it) => .inr (q ▸ hfresh)
  refine wpAny_mono (turn i x loc' st' hxx hJ _ va I1 (VR.stepG I'.si.hs fr' S1 rv)) (fun O s₂ p => ?_) fun O O p => noX p
  obtain ⟨loc₂, st₂, S₂, L₂, q₂⟩ := p
  have I₂ := I1.stepF S₂ L₂
  refine wpAny_mono (q₂ s₂ I₂) (fun f s₃ p => ?_) fun ev s₃ p => hx _ _ _ _ _ (S01.trans S₂) I₂ p
  obtain ⟨fl, loc₃, st₃, frr, S₃, L₃, q₃⟩ := p
  have go : ∀ {lx : yae}, J (i + 1) loc₃ st₃ -> FLoop o P R c st s₀ xs J (xs.length - (i + 1)) s₃ := fun {_} q => by
   have S23 := S₂.trans S₃
   exact ⟨rfl, hlt, q, K.keep S23 I1.si.hs (fun q => (K.free (h := h') hp').nown I1 q) hp', K.r (DOk.own I1) S23.kpd (K.r (DOk.free I'.si.hs fr') S1.kpd hr'), S01.trans S23, I₂.stepF S₃ L₃⟩
  induction frr with
  | next => exact ⟨_, Nat.sub_lt_sub_left hlt (Nat.lt_succ_self i), go (lx := loc) q₃⟩
  | cont => exact ⟨_, Nat.sub_lt_sub_left hlt (Nat.lt_succ_self i), go (lx := loc) q₃⟩
  | brk => exact hr _ _ ⟨_, _, _, .next, S01.trans (S₂.trans S₃), L₃, q₃⟩
  | ret r => exact hr _ _ ⟨_, _, _, .ret r, S01.trans (S₂.trans S₃), L₃, q₃⟩
theorem yfk {target : Expr} {body : List Stmt} {it : Addr} {xs : List V} {T : String} {P : Nat -> Heap -> Prop} {R : Heap -> Prop} {J : Nat -> yae -> St -> Prop} {s₀ s : Shared} {E : Value -> Shared -> Prop}
 (hfresh : s₀.heap.get? it = none) (H₀ : SI o c.k st s₀) (S : Step o.P (own c) st s₀ st s) (I : Inv o c loc st s)
 (hP : ∀ i h h', P i h -> h'.get? it = h.get? it -> P i h')
 (hPex : ∀ i h, P i h -> ∃ ob vs, h.get? it = some ob /\ ob.cls = .type T /\ ob.data = .fields vs)
 (hT : ["enumerate", "zip", "dict_itemiterator", "dict_reverseitemiterator", "odict_iterator", "itertools.zip_longest", "itertools.pairwise"].contains T = false) (hTf : T ≠ "frame") (hTr : T ≠ "range")
 (hR : ∀ {D : Addr -> Prop} {st : St} {h h' : Heap}, DOk D h -> KpD D h h' -> R h -> R h')
 (hItem : ∀ i x loc' st' (s : Shared) Q, xs[i]? = some x -> J i loc' st' -> SI o c.k st' s -> R s.heap -> P i s.heap -> (∀ h' va t, P (i + 1) h' -> Heap.SameBut it s.heap h' -> VR s.heap x va -> Q (some va) { s with heap := h', toks := t }) -> wpAny o.M c.k.A (pyNext (.ref it)) Q E s)
 (hEnd : ∀ loc' st' (s : Shared) Q, J xs.length loc' st' -> SI o c.k st' s -> R s.heap -> P xs.length s.heap -> (∀ h', Heap.ExtBut it s.heap h' -> Q none { s with heap := h' }) -> wpAny o.M c.k.A (pyNext (.ref it)) Q E s)
 (h0 : P 0 s.heap) (hR0 : R s.heap) (hJ0 : J 0 loc st)
 (turn : ∀ i x loc st, xs[i]? = some x -> J i loc st -> ASG o c loc st target x (fun loc₁ st₁ => EXS o c loc₁ st₁ body (fun fl loc₂ st₂ => match fl with
  | .next | .cont => J (i + 1) loc₂ st₂
  | .brk => QF .next loc₂ st₂
  | .ret v => QF (.ret v) loc₂ st₂) (fun O O => False)) (fun O O => False))
 (fin : ∀ loc st, J xs.length loc st -> QF .next loc st) {R' : Result -> Shared -> Prop}
 (hr : ∀ f s', PF o c st s₀ QF f s' -> R' (.ok f) s') (hE : E = notedBy o.M c.k.A c.env fun e s' => R' (.error e) s') :
 codeAny o.M c.k.A (.forLoop target (.ref it) body [] c.env) R' s :=
 ys4 hfresh H₀ S I hP hPex hT hTf hTr @hR hItem hEnd h0 hR0 hJ0 turn fin hr (fun _ _ _ _ _ _ _ ⟨_, _, _, _, _, _, _, q⟩ => q.elim) hE
end
set_option backward.match.sparseCases false in
noncomputable def ybh : Expr -> Bool
 | .Starred .. => false
 | _ => true
set_option tactic.hygienic true in
theorem yb2 {e : Expr} {rest : List Expr} {env : Env} (h : ybh e = true) : starEach (e :: rest) env = (false, eval e env) :: starEach rest env := by
 revert h
 apply @Expr.casesOn (fun e => ybh e = true -> starEach (e :: rest) env = (false, eval e env) :: starEach rest env) e <;> intros <;> first | rfl | (rename_i h; exact Bool.noConfusion h)
theorem ycs {env : Env} {pos : Pos} : ∀ {args : List Expr}, args.all ybh = true -> (backTo pos (starEach args env)).any (·.1) = false
 | [], _ => rfl
 | e :: rest, h => by
  simp only [List.all_cons, Bool.and_eq_true] at h
  rw [yb2 h.1]
  show (false || (backTo pos (starEach rest env)).any (·.1)) = false
  rw [ycs h.2]; rfl
set_option backward.match.sparseCases false in
noncomputable def yku (K : Frag) : Value -> Bool
 | .builtin _ => true
 | .type _ => true
 | f => keepIn K f
theorem ypq {K : Frag} {M : Model} {f : Value} (hk : yku K f = true) (h : Heap) (X : K.In h) : ∃ k, (k = Keeper.frame \/ k = Keeper.machine \/ k = Keeper.boundFrame) /\ Looks M h (keeperOf f) k := by
 induction f with
 | builtin i => exact ⟨.machine, .inr (.inl rfl), Looks.of_pure rfl⟩
 | type i => exact ⟨.machine, .inr (.inl rfl), Looks.of_pure rfl⟩
 | ref a => exact keeps_K (show keepIn K (.ref a) = true from hk) h X
 | _ => cases hk
section
variable {o : Wo} [W : WoOk o] {c : Cx} {k : Kx} {loc : yae} {st : St} {Q : V -> St -> Prop} {X : Exc -> St -> Prop} {QB : Bool -> St -> Prop} {QF : Fl -> yae -> St -> Prop} {QL : yae -> St -> Prop} {QS : List V -> St -> Prop}
theorem ytb {pos : Pos} (h : QS [] st) : EVs o c loc st pos [] QS X := fun s I => spliced_nil ⟨[], st, .nil, Step.refl I.si.hs, h⟩
theorem yk3 {pos : Pos} {e : Expr} {es : List Expr} (h : EV o c loc st e (fun v st₁ => EVs o c loc st₁ pos es (fun vs st₂ => QS (v :: vs) st₂) X) X) (he : ybh e = true := by rfl) : EVs o c loc st pos (e :: es) QS X := fun s I => by
 rw [yb2 he]
 refine spliced_cons (h.use I fun v st₁ va s₁ q S I₁ r => px S (wpAny_mono (q s₁ I₁) (fun vs s₂ p => ?_) fun O O p => p))
 obtain ⟨rs, st₂, rr, S₂, q₂⟩ := p
 exact ⟨v :: rs, st₂, .cons (r.keep I₁.si.hs S₂.kp) rr, S.trans S₂, q₂⟩
theorem ev_tuple {es : List Expr} {x1} {pos : Pos} (h : EVs o c loc st pos es (fun vs st₁ => vs.length <= sizeLine /\ Q (.tup vs) st₁) X) : EV o c loc st (.Tuple es x1 pos) Q X := fun s I =>
 wpAny_Tuple_spliced (wpAny_mono (h s I) (fun vs s₁ ⟨rs, st₁, rr, S, hl, q⟩ => by
  have I₁ := I.step S
  exact ⟨by rw [<- rr.length]; exact hl, .tup rs, st₁, .tup (IsT.new _ _) (rr.keep I₁.si.hs (Kp.push _)), S.trans (Step.push I₁.si.hs _ s₁.toks), q⟩) fun O O p => p)
theorem ev_list {es : List Expr} {pos : Pos} (h : EVs o c loc st pos es (fun vs st₁ => vs.length <= sizeLine /\ ∀ a, st₁ a = none -> Q (.ptr a) (st₁.set a (.lst vs))) X) : EV o c loc st (.List es pos) Q X := fun s I =>
 wpAny_List_spliced (wpAny_mono (h s I) (fun vs s₁ ⟨rs, st₁, rr, S, hl, q⟩ => by
  have I₁ := I.step S
  exact ⟨by rw [<- rr.length]; exact hl, .ptr _, _, .ptr _, S.trans (Step.alloc I₁.si.hs _ (.lst rs) rfl (.lst rr) s₁.toks), q _ (ybo I₁.si.hs)⟩) fun O O p => p)
theorem yjv {pos : Pos} {f : Value} {first : List Value} {fv : List V} {args : List Expr} (hk : yku o.K f = true) (hp : args.all ybh = true) (h : EVs o c loc st pos args (fun vs st₁ => yak o c.k st₁ f (fv ++ vs) Q X) X) {s : Shared} (I : Inv o c loc st s) (r : VRs s.heap fv first) :
 wpAny o.M c.k.A (callWith pos f first (backTo pos (starEach args c.env)) []) (PV o st s Q) (PX o noF st s X) s := by
 refine callWith_of (P := o.K.In) (by rw [ycs hp]; rfl) (ypq hk) ?_
 have key : wpAny o.M c.k.A (spliced (backTo pos (starEach args c.env))) (fun vs s₁ => o.K.In s₁.heap /\ wpAny o.M c.k.A (call f (first ++ vs) []) (PV o st s Q) (PX o noF st s X) s₁) (PX o noF st s X) s := by
  refine wpAny_mono (h s I) (fun vs s₁ ⟨rs, st₁, rr, S, q⟩ => ?_) fun O O p => p
  have I₁ := I.step S
  exact ⟨I₁.si.wd.k, px S (wpAny_mono (q s₁ _ I₁.si ((r.keep I.si.hs S.kp).append rr)) (fun O O p => p.trans S) fun O O p => p)⟩
 induction args with
 | nil =>
  unfold evalArgs
  show wpAny _ _ (spliced [] >>= _) _ _ s
  refine wpAny_bind (wpAny_mono key (fun vs s' h' => ?_) fun O O p => p)
  refine wpAny_holding ?_
  exact wpAny_bind (wpAny_pure (wpAny_bind (wpAny_pure (wpAny_pure h'))))
 | cons e es =>
  simp only [List.all_cons, Bool.and_eq_true] at hp
  rw [yb2 hp.1] at key ⊢
  exact evalArgs_plain key
theorem ev_call {x : Str} {np pos : Pos} {f : Value} {args : List Expr} (hf : EV o c loc st (.Name x np) (fun v st₁ => v = .raw f /\ st₁ = st) X) (hk : yku o.K f = true) (h : EVs o c loc st pos args (fun vs st₁ => yak o c.k st₁ f vs Q X) X) (hp : args.all ybh = true := by rfl) :
 EV o c loc st (.Call (.Name x np) args [] pos) Q X := fun s I => by
 refine wpAny_Call_ofName (hf.use I fun v st₁ va s₁ q S I₁ r => ?_)
 obtain ⟨rfl, rfl⟩ := q
 cases r
 exact px S (wpAny_mono (yjv (fv := []) hk hp h I₁ .nil) (fun O O p => p.trans S) fun O O p => p)
def ytx (o : Wo) (k : Kx) (st : St) (a : V) (name : Str) (f : Value) : Prop :=
 ∀ s va pl, SI o k st s -> VR s.heap a va -> wpAny o.M k.A (getMethod va name pl) (fun r s' => r = (f, [va]) /\ ∃ t, s' = { s with toks := t }) (fun O O => False) s
theorem ev_meth {e : Expr} {name : Str} {apos pos : Pos} {args : List Expr} (he : ∀ env, ∃ pl, eval (.Call (.Attribute e name apos) args [] pos) env = (do
 let ov <- eval e env
 standAt apos.atName
 let (f, first) <- holding [ov] (getMethod ov name pl)
 callWith pos f first (backTo pos (starEach args env)) (backToKw pos (keywordEach [] env))))
 (h : EV o c loc st e (fun a st₁ => ∃ f, ytx o c.k st₁ a name f /\ yku o.K f = true /\ EVs o c loc st₁ pos args (fun vs st₂ => yak o c.k st₂ f (a :: vs) Q X) X) X) (hp : args.all ybh = true := by rfl) :
 EV o c loc st (.Call (.Attribute e name apos) args [] pos) Q X := fun s I => by
 obtain ⟨pl, he⟩ := he c.env
 refine methodCall_KW (h.use I fun a st₁ va s₁ q S I₁ r => ?_) he
 obtain ⟨f, hm, hk, hq⟩ := q
 refine px S (wpAny_mono (hm s₁ va pl I₁.si r) (fun fx s₂ p => ?_) fun O O p => p.elim)
 obtain ⟨rfl, t, rfl⟩ := p
 have S₂ : Step o.P noF st₁ s₁ st₁ { s₁ with toks := t } := Step.toks I₁.si.hs t
 have I₂ := I₁.step S₂
 exact px (S.trans S₂) (wpAny_mono (yjv (fv := [a]) hk hp hq I₂ (.cons r .nil)) (fun O O p => p.trans (S.trans S₂)) fun O O p => p)
def FORV (o : Wo) (c : Cx) (loc : yae) (st : St) (v : V) (target : Expr) (body : List Stmt) (QF : Fl -> yae -> St -> Prop) : Prop :=
 ∀ s va E' R', Inv o c loc st s -> VR s.heap v va -> (∀ f s', PF o c st s QF f s' -> R' (.ok f) s') -> wpAny o.M c.k.A (pyIter va) (fun it s₂ => codeAny o.M c.k.A (.forLoop target it body [] c.env) R' s₂) E' s
theorem ybw {target iter : Expr} {body : List Stmt} {pos : Pos} (hs : ∀ env x, foldedSetIterable iter env x = pure x) (h : EV o c loc st iter (fun v st₁ => FORV o c loc st₁ v target body QF) X) : EX o c loc st (.For target iter body [] pos) QF X := fun s I => by
 refine wpAny_For (pxw I (h.use I fun v st₁ va s₁ q S I₁ r => q s₁ va _ _ I₁ r fun f s' p => ?_)) (hs _)
 exact p.trans S.weak
def Turn (o : Wo) (c : Cx) (target : Expr) (body : List Stmt) (xs : List V) (J : Nat -> yae -> St -> Prop) (QF : Fl -> yae -> St -> Prop) : Prop :=
 ∀ i x loc st, xs[i]? = some x -> J i loc st -> ASG o c loc st target x (fun loc₁ st₁ => EXS o c loc₁ st₁ body (fun fl loc₂ st₂ => match fl with
  | .next | .cont => J (i + 1) loc₂ st₂
  | .brk => QF .next loc₂ st₂
  | .ret v => QF (.ret v) loc₂ st₂) (fun O O => False)) (fun O O => False)
theorem ys0 {l : Addr} {xs : List V} {target : Expr} {body : List Stmt} (J : Nat -> yae -> St -> Prop) (hJ : ∀ i loc st, J i loc st -> st l = some (.lst xs)) (h0 : J 0 loc st) (turn : Turn o c target body xs J QF) (fin : ∀ loc st, J xs.length loc st -> QF .next loc st) :
 FORV o c loc st (.ptr l) target body QF := fun s va E' R' I r hr => by
 cases r
 obtain ⟨ws, n, h1, rr⟩ := ybc (I.si.hs l _ (hJ _ _ _ h0))
 refine wpAny_pyIter_list ⟨_, h1, rfl, _, rfl⟩ ?_
 have S : Step o.P (own c) st s st { s with heap := s.heap.push { cls := .type "list_iterator", data := .fields #[.ref l, .int 0 0] } } := Step.push I.si.hs _ s.toks
 refine yfk (T := "list_iterator") (xs := xs) (P := fun i h => h.IsListIter s.heap.objs.size l i) (R := fun O => True) (J := J) (Heap.get?_none_of_le (Nat.le_refl _)) I.si S ?_
  (fun i h h' ⟨ob, p1, p2⟩ e => ⟨ob, e.trans p1, p2⟩) (fun i h ⟨ob, p1, p2, p3⟩ => ⟨_, _, p1, p2, p3⟩) (by decide) (by decide) (by decide) (fun O O O => trivial) ?_ ?_ ⟨_, Heap.get?_push_size _ rfl, rfl, rfl⟩ trivial h0 turn fin hr rfl
 . exact I.step (Step.push I.si.hs _ s.toks)
 . intro i x loc' st' s' Q' hx hj S' _ hp hq
   obtain ⟨ws', n', h1', rr'⟩ := ybc (S'.hs l _ (hJ _ _ _ hj))
   obtain ⟨v, hv, rv⟩ := rr'.get hx
   exact wpAny_pyNext_list_item hp ⟨_, h1', rfl, _, rfl⟩ (x := v) (by simpa using hv) fun h' hit hsb => hq h' v s'.toks hit hsb rv
 . intro loc' st' s' Q' hj S' _ hp hq
   obtain ⟨ws', n', h1', rr'⟩ := ybc (S'.hs l _ (hJ _ _ _ hj))
   exact wpAny_pyNext_list_end S'.ok.handled hp ⟨_, h1', rfl, _, rfl⟩ (by simp [rr'.length]) hq
set_option tactic.hygienic true in
theorem forv_tup {xs : List V} {target : Expr} {body : List Stmt} (J : Nat -> yae -> St -> Prop) (h0 : J 0 loc st) (turn : Turn o c target body xs J QF) (fin : ∀ loc st, J xs.length loc st -> QF .next loc st) :
 FORV o c loc st (.tup xs) target body QF := fun s va E' R' I r hr => by
 cases r with
 | tup ht rr =>
 rename_i ws a n
 have tt : s.heap.IsTuple a ws.toArray := ⟨_, ht, rfl, _, rfl⟩
 refine wpAny_pyIter_tuple tt ?_
 have S : Step o.P (own c) st s st { s with heap := s.heap.push { cls := .type "tuple_iterator", data := .fields #[.ref a, .int 0 0] } } := Step.push I.si.hs _ s.toks
 have ex : ∀ {h : Heap}, (∃ ws n, IsT h a ws.toArray n /\ VRs h xs ws) -> ∃ ws, h.IsTuple a ws.toArray /\ VRs h xs ws := fun ⟨ws, n, h1, h2⟩ => ⟨ws, ⟨_, h1, rfl, _, rfl⟩, h2⟩
 refine yfk (T := "tuple_iterator") (xs := xs) (P := fun i h => h.IsTupleIter s.heap.objs.size a i) (R := fun h => ∃ ws n, IsT h a ws.toArray n /\ VRs h xs ws) (J := J) (Heap.get?_none_of_le (Nat.le_refl _)) I.si S ?_
  (fun i h h' ⟨ob, p1, p2⟩ e => ⟨ob, e.trans p1, p2⟩) (fun i h ⟨ob, p1, p2, p3⟩ => ⟨_, _, p1, p2, p3⟩) (by decide) (by decide) (by decide) (fun D K ⟨ws, n, h1, h2⟩ => ⟨ws, n, (KpV.of D K).tup _ _ _ h1, h2.keepD D K⟩) ?_ ?_ ⟨_, Heap.get?_push_size _ rfl, rfl, rfl⟩
  ⟨ws, n, Heap.get?_push_of_some _ ht, rr.keep I.si.hs (Kp.push _)⟩ h0 turn fin hr rfl
 . exact I.step (Step.push I.si.hs _ s.toks)
 . intro i x loc' st' s' Q' hx hj S' hR hp hq
   obtain ⟨ws', ht', rr'⟩ := ex hR
   obtain ⟨v, hv, rv⟩ := rr'.get hx
   exact wpAny_pyNext_tuple_item hp ht' (x := v) (by simpa using hv) fun h' hit hsb => hq h' v s'.toks hit hsb rv
 . intro loc' st' s' Q' hj S' hR hp hq
   obtain ⟨ws', ht', rr'⟩ := ex hR
   exact wpAny_pyNext_tuple_end S'.ok.handled hp ht' (by simp [rr'.length]) hq
noncomputable def rngV (lo hi : Int) : List V := (List.range (hi - lo).toNat).map fun (i : Nat) => V.int (lo + (i : Int))
theorem yea {lo hi : Int} {i : Nat} {x : V} (h : (rngV lo hi)[i]? = some x) : x = .int (lo + i) /\ i < (hi - lo).toNat := by
 unfold rngV at h
 rw [List.getElem?_map] at h
 by_cases q : i < (hi - lo).toNat
 . rw [List.getElem?_range q] at h; simp at h; exact ⟨h.symm, q⟩
 . rw [List.getElem?_eq_none (by simpa using q)] at h; simp at h
theorem ya8 {lo hi : Int} : (rngV lo hi).length = (hi - lo).toNat := by simp [rngV]
theorem tnl {a b : Int} (h : b <= a) : a - b = ((a - b).toNat : Int) := (Int.toNat_of_nonneg (Int.sub_nonneg_of_le h)).symm
theorem tn0 {a b : Int} (h : a <= b) : (0 : Int) = ((a - b).toNat : Int) := congrArg Nat.cast (Int.toNat_of_nonpos (Int.sub_nonpos_of_le h)).symm
theorem forv_rng {lo hi : Int} {target : Expr} {body : List Stmt} (J : Nat -> yae -> St -> Prop) (hb : -(2 ^ 62) <= lo /\ lo < 2 ^ 62 /\ -(2 ^ 62) <= hi /\ hi < 2 ^ 62) (h0 : J 0 loc st) (turn : Turn o c target body (rngV lo hi) J QF) (fin : ∀ loc st, J (hi - lo).toNat loc st -> QF .next loc st) :
 FORV o c loc st (.rng lo hi) target body QF := fun s va E' R' I r hr => by
 cases r with
 | rng ht =>
 refine wpAny_pyIter_range ht (small_one hb.1 hb.2.1 hb.2.2.1 hb.2.2.2) ?_
 have hsz : Builtin.Range.rangeSize lo hi 1 = ((hi - lo).toNat : Int) := by rw [rangeSize_one]; split; exact tnl (Int.le_of_lt ‹_›); exact tn0 (Int.not_lt.mp ‹_›)
 rw [hsz]
 have S : Step o.P (own c) st s st { s with heap := s.heap.push { cls := .type "range_iterator", data := .fields #[rawInt lo, rawInt ((hi - lo).toNat : Int), rawInt 1] } } := Step.push I.si.hs _ s.toks
 refine yfk (T := "range_iterator") (xs := rngV lo hi) (P := fun i h => IsRangeIter h s.heap.objs.size (lo + (i : Nat)) (((hi - lo).toNat : Int) - (i : Nat)) 1) (R := fun h => True) (J := J) (Heap.get?_none_of_le (Nat.le_refl _)) I.si S ?_
  (fun i h h' p e => e.trans p) (fun i h p => ⟨_, _, p, rfl, rfl⟩) (by decide) (by decide) (by decide) (fun O O O => trivial) ?_ ?_ (by
   have := Heap.get?_push_size s.heap (o := { cls := .type "range_iterator", data := .fields #[rawInt lo, rawInt ((hi - lo).toNat : Int), rawInt 1] }) rfl
   simpa using this)
  trivial h0 turn (by rw [ya8]; exact fin) hr rfl
 . exact I.step (Step.push I.si.hs _ s.toks)
 . intro i x loc' st' s' Q' hx hj S' hR hp hq
   obtain ⟨rfl, hi'⟩ := yea hx
   refine wpAny_pyNext_range_item hp (Int.sub_pos_of_lt (Int.ofNat_lt.mpr hi')) fun h' hit hsb => hq h' _ _ ?_ hsb (.int _ _)
   have e1 : lo + ((i + 1 : Nat) : Int) = lo + (i : Int) + 1 := (Int.add_assoc lo i 1).symm
   have e2 : ((hi - lo).toNat : Int) - ((i + 1 : Nat) : Int) = ((hi - lo).toNat : Int) - (i : Int) - 1 := (Int.sub_sub _ (i : Int) 1).symm
   show IsRangeIter _ _ _ _ _
   rw [e1, e2]; exact hit
 . intro loc' st' s' Q' hj S' hR hp hq
   rw [ya8] at hp
   exact wpAny_pyNext_range_end S'.ok.handled hp (by (first | lia | omega)) hq
theorem yb5 {n : Int} (h : Q (.rng 0 n) st) : yak o k st (.type "range") [.int n] Q X := fun s vs S r => by
 cases r.inv1 with
 | mk r1 =>
 cases r1
 exact call_range_1 ⟨.rng 0 n, st, .rng (Heap.get?_push_size _ rfl), Step.push S.hs _ _, h⟩
theorem ytp {lo n : Int} (h : Q (.rng lo n) st) : yak o k st (.type "range") [.int lo, .int n] Q X := fun s vs S r => by
 cases r.inv2 with
 | mk r1 r2 =>
 cases r1; cases r2
 exact call_range_2 ⟨.rng lo n, st, .rng (Heap.get?_push_size _ rfl), Step.push S.hs _ _, h⟩
end
noncomputable def yip (name : Str) (x : V) : List (Str × V) -> List (Str × V)
 | [] => [(name, x)]
 | (k, y) :: r => if k == name then (k, x) :: r else (k, y) :: yip name x r
noncomputable def ygl (name : Str) : List (Str × V) -> Option V
 | [] => none
 | (k, y) :: r => if k == name then some y else ygl name r
section
variable {P : Params} {h : Heap}
theorem ymf {name k : Str} {hh : Int} {t : Tok} {v : Value} {es : List DictEntry} : getL name (⟨hh, .str k t, v⟩ :: es) = if k == name then some (some v) else getL name es := by
 unfold getL
 rw [List.find?_cons, List.any_cons]
 have e1 : (⟨hh, .str k t, v⟩ : DictEntry).key.isStr name = (k == name) := rfl
 have e2 : (⟨hh, .str k t, v⟩ : DictEntry).refKey = false := rfl
 rw [e1, e2, Bool.false_or]
 induction k == name <;> rfl
theorem SEs.get {name : Str} {x : V} : ∀ {l : List (Str × V)} {es : List DictEntry}, SEs P h l es -> ygl name l = some x -> ∃ v, getL name es = some (some v) /\ VR h x v
 | _, _, .nil, e => by cases e
 | _, _, .cons (k := k) (x := y) (l := l) (t := t) (v := v) (es := es) a r, e => by
  unfold ygl at e
  rw [ymf]
  induction hb : k == name with
  | true => rw [hb] at e; cases e; exact ⟨v, rfl, a⟩
  | false => rw [hb] at e; exact SEs.get r e
theorem SEs.noRef : ∀ {l : List (Str × V)} {es : List DictEntry}, SEs P h l es -> es.any (·.refKey) = false
 | _, _, .nil => rfl
 | _, _, .cons a r => by rw [List.any_cons, SEs.noRef r]; rfl
theorem SEs.miss {name : Str} : ∀ {l : List (Str × V)} {es : List DictEntry}, SEs P h l es -> ygl name l = none -> getL name es = some none
 | _, _, .nil, _ => rfl
 | _, _, .cons (k := k) (x := y) (l := l) (t := t) (v := v) (es := es) a r, e => by
  unfold ygl at e
  rw [ymf]
  induction hb : k == name with
  | true => rw [hb] at e; cases e
  | false => rw [hb] at e; exact SEs.miss r e
theorem SEs.put {name : Str} {x : V} {v : Value} {t : Tok} (rx : VR h x v) : ∀ {l : List (Str × V)} {es : List DictEntry}, SEs P h l es -> SEs P h (yip name x l) (putL name (PyData.keyHash P name) (.str name t) v es)
 | _, _, .nil => .cons rx .nil
 | _, _, .cons (k := k) (x := y) (l := l) (t := t') (v := w) (es := es) a r => by
  unfold yip putL
  show SEs P h _ (if (k == name) then _ else _)
  induction hb : k == name with
  | true => exact .cons rx r
  | false => exact .cons a (SEs.put rx r)
theorem SEs.len : ∀ {l : List (Str × V)} {es : List DictEntry}, SEs P h l es -> es.length = l.length
 | _, _, .nil => rfl
 | _, _, .cons a r => by simp [SEs.len r]
theorem yov {name : Str} {x : V} : ∀ {l : List (Str × V)}, (yip name x l).length <= l.length + 1
 | [] => by simp [yip]
 | (k, y) :: r => by unfold yip; split <;> simp; exact yov
end
noncomputable def getOk (K : Frag) (C : Addr) (name : Str) : Bool := plainGet K C name && hasDictIn K C && (match findIn K (.ref C) name with | some attr => noGet K attr | none => false)
noncomputable def ysl (K : Frag) (C : Addr) (name : Str) (f : Addr) : Bool := plainGet K C name && findIn K (.ref C) name == some (some (.ref f)) && isFn K (.ref f)
noncomputable def setOk (K : Frag) (C : Addr) (name : Str) : Bool := findIn K (.ref C) "__setattr__" == some (some (.builtin "object.__setattr__")) && plainOver K C && takerIn K C name == some none && hasDictIn K C
set_option backward.match.sparseCases false in
noncomputable def V.plain : V -> Bool
 | .raw _ => false
 | _ => true
theorem VR.handed {h : Heap} {x : V} {v : Value} (r : VR h x v) (hp : x.plain = true) : handedIn v = true := by
 cases r <;> first | rfl | exact Bool.noConfusion hp
section
variable {o : Wo} [W : WoOk o] {c : Cx} {k : Kx} {loc : yae} {st : St} {Q : V -> St -> Prop} {X : Exc -> St -> Prop} {QF : Fl -> yae -> St -> Prop} {QL : yae -> St -> Prop}
def ATT (o : Wo) (k : Kx) (st : St) (a : V) (name : Str) (Q : V -> St -> Prop) (X : Exc -> St -> Prop) : Prop :=
 ∀ s va, SI o k st s -> VR s.heap a va -> wpAny o.M k.A (getAttr va name true) (PV o st s Q) (PX o noF st s X) s
theorem ev_attr {e : Expr} {name : Str} {pos : Pos} (he : ∀ env, attributeBase e name env (eval e env) = eval e env) (h : EV o c loc st e (fun a st₁ => ATT o c.k st₁ a name Q X) X) : EV o c loc st (.Attribute e name pos) Q X := fun s I => by
 rw [arm_eval_Attribute, he]
 refine wpAny_bind (h.use I fun a st₁ va s₁ q S I₁ r => wpAny_bind (wpAny_standAt (wpAny_bind (wpAny_holding (px S (wpAny_mono (q s₁ va I₁.si r) (fun v s₂ p => ?_) fun O O p => p))))))
 exact wpAny_bind (wpAny_letTemporaryGo (wpAny_pure (p.trans S)))
set_option tactic.hygienic true in
theorem yn8 {s : Shared} {a C dx : Addr} {va : Value} {l : List (Str × V)} (H : Holds o.P st s.heap) (hst : st dx = some (.sd l)) (r : VR s.heap (.obj a C dx) va) :
 ∃ ob es n, va = .ref a /\ InstAt s.heap a ob C (some (dictOf es n)) /\ SEs o.P s.heap l es /\ s.heap.get? dx = some (dictOf es n) /\ ob.dict = some dx := by
 cases r with
 | obj h1 h2 h3 h4 =>
 rename_i ob
 obtain ⟨_, _, h5, se⟩ := sd_of (H dx _ hst)
 exact ⟨ob, _, _, rfl, ⟨h1, h2, by unfold notCls; rw [h3], by rw [h4]; exact h5⟩, se, h5, h4⟩
set_option tactic.hygienic true in
theorem yoi {a C dx : Addr} {l : List (Str × V)} {name : Str} {x : V} (hst : st dx = some (.sd l)) (hl : ygl name l = some x) (hx : x.plain = true) (hk : getOk o.K C name = true) (h : Q x st) : ATT o k st (.obj a C dx) name Q X := fun s va S r => by
 obtain ⟨ob, es, n, rfl, I, se, _, _⟩ := yn8 S.hs hst r
 obtain ⟨v, hg, rv⟩ := se.get hl
 unfold getOk at hk
 simp only [Bool.and_eq_true] at hk
 obtain ⟨⟨k1, k2⟩, k3⟩ := hk
 split at k3
 . rename_i attr ha
   exact get_value S.wd.k I (plainGet_of k1).1 (findObj_own k2 ha k3 hg) (rv.handed hx) ⟨x, st, rv, Step.toks S.hs _, h⟩
 . cases k3
theorem meth_own {a C dx f : Addr} {l : List (Str × V)} {name : Str} (hst : st dx = some (.sd l)) (hl : ygl name l = none) (hk : ysl o.K C name f = true) : ytx o k st (.obj a C dx) name (.ref f) := fun s va pl S r => by
 obtain ⟨ob, es, n, rfl, I, se, _, _⟩ := yn8 S.hs hst r
 unfold ysl at hk
 simp only [Bool.and_eq_true, beq_iff_eq] at hk
 obtain ⟨⟨k1, k2⟩, k3⟩ := hk
 exact method_fn S.wd.k I (plainGet_of k1).1 (plainGet_of k1).2 k2 (beq_iff_eq.mp k3) (by show (lookIn name (dictOf es n)).map _ = _; rw [lookIn_dict, se.miss hl]; rfl) ⟨rfl, s.toks, rfl⟩
theorem set_R {prog : Program} {w : World} {A : Around} {E : Value -> Shared -> Prop} {s : Shared} {K : Frag} {x C dx : Addr} {ox : Obj} {es : List DictEntry} {n : Nat} {name : Str} {v : Value} {Q : Unit -> Shared -> Prop}
 (X : K.In s.heap) (I : InstAt s.heap x ox C (some (dictOf es n))) (hd : ox.dict = some dx) (D : s.heap.get? dx = some (dictOf es n)) (hk : setOk K C name = true) (hn : es.any (·.refKey) = false) (hz : es.length <= 900)
 (h : ∀ t, Q () { s with heap := s.heap.update dx (Obj.putName name (PyData.keyHash w.params name) (.str name (s.toks + 1)) v), toks := t }) :
 wpAny (model prog w) A (setAttr (.ref x) name v) Q E s := by
 unfold setOk at hk
 simp only [Bool.and_eq_true, beq_iff_eq] at hk
 obtain ⟨⟨⟨k1, k2⟩, k3⟩, k4⟩ := hk
 refine set_plain X I k1 ?_
 refine osa_open (s := { s with toks := s.toks + 1 }) X I k2 k3 fun b => ?_
 obtain ⟨cd, hc, hd'⟩ := any_some k4
 have D' : (s.heap.update dx (Obj.putName name (PyData.keyHash w.params name) (.str name (s.toks + 1)) v)).get? dx = some (dictOf (putL name (PyData.keyHash w.params name) (.str name (s.toks + 1)) v es) (putN name es n)) :=
  (Heap.get?_update_self _ D (by rw [putName_dict]; rfl)).trans (by rw [putName_dict])
 obtain ⟨hx, hcl, hn', -⟩ := I
 obtain ⟨oc, odi, oda, osl⟩ := ox
 dsimp only at hcl hd
 subst hcl hd
 refine wpAny_bind (wpAny_pure (wpAny_bind (wpAny_bind (wpAny_loadPart hx (wpAny_bind (Looks.here (s := { s with toks := s.toks + 1 }) (looks_clsIn X hc) ?_))))))
 rw [hd']
 refine wpAny_pure (a := some dx) (wpAny_bind (wpAny_pure (wpAny_bind ?_)))
 unfold nsSet
 refine wpAny_bind (wpAny_bind (wpAny_askSetting (wpAny_pure (wpAny_bind (wpAny_mkText (wpAny_bind (wpAny_loadPart D ?_)))))))
 dsimp only
 have c : (!es.toArray.any (·.key.isStr name) && es.toArray.any (·.refKey)) = false := by
  rw [<- Array.any_toList, <- Array.any_toList, hn, Bool.and_false]
 rw [aRefKeyMayBeTheName_at, c]
 refine wpAny_updatePart D ?_
 have hlen : (putL name (PyData.keyHash w.params name) (.str name (s.toks + 1)) v es).length <= es.length + 1 := by
  clear D D' c hn hz
  induction es with
  | nil => simp [putL]
  | cons e r ih => unfold putL; split <;> simp; exact ih
 refine wpAny_bind (wpAny_lookBehind D' (pastItsLine_dict (by rw [List.size_toArray, sizeLine_eq]; (first | lia | omega))) ?_)
 exact wpAny_pure (h _)
def SETA (o : Wo) (k : Kx) (st : St) (a : V) (name : Str) (v : V) (Q : St -> Prop) (X : Exc -> St -> Prop) : Prop :=
 ∀ s va u, SI o k st s -> VR s.heap a va -> VR s.heap v u -> wpAny o.M k.A (setAttr va name u) (fun O s' => ∃ st', Step o.P noF st s st' s' /\ Q st') (PX o noF st s X) s
theorem ycn {a C dx : Addr} {l : List (Str × V)} {name : Str} {v : V} {Q : St -> Prop} (hst : st dx = some (.sd l)) (hk : setOk o.K C name = true) (hz : l.length <= 900) (h : Q (st.set dx (.sd (yip name v l)))) : SETA o k st (.obj a C dx) name v Q X := fun s va u S r rv => by
 obtain ⟨ob, es, n, rfl, I, se, D, hd⟩ := yn8 S.hs hst r
 refine set_R S.wd.k I hd D hk se.noRef (by rw [se.len]; exact hz) fun t => ⟨_, ?_, h⟩
 refine Step.upd S.hs (by rw [hst]; simp) (Heap.SameBut.update ..) (Heap.get?_update_self _ D (by rw [putName_dict]; rfl)) (fun hh K => ?_) t
 rw [putName_dict]
 have : SEs o.P hh (yip name v l) (putL name (PyData.keyHash o.w.params name) (.str name (s.toks + 1)) u es) := SEs.put (rv.keep S.hs K) (by
  have := MOR.keep S.hs K (MOR.sd (P := o.P) (n := n) se)
  cases this with | sd x => exact x)
 exact .sd this
theorem asg_attr {e : Expr} {name : Str} {pos : Pos} {v : V} (h : EV o c loc st e (fun a st₁ => SETA o c.k st₁ a name v (fun st₂ => QL loc st₂) X) X) : ASG o c loc st (.Attribute e name pos) v QL X := fun s u I r => by
 rw [arm_assign_Attribute]
 refine wpAny_bind (wpAny_holding (pxw I (h.use I fun a st₁ va s₁ q S I₁ ra => wpAny_bind (wpAny_standAt (wpAny_bind (wpAny_holding (pxw I (px S (wpAny_mono (q s₁ va u I₁.si ra (r.keep I.si.hs S.kp)) (fun O s₂ p => ?_) fun O O p => p)))))))))
 obtain ⟨st₂, S₂, q₂⟩ := p
 exact wpAny_release ⟨loc, st₂, (S.trans S₂).weak, (I₁.step S₂).lc, q₂⟩
end
theorem Step.grow {P : Params} {F : Addr -> Prop} {st : St} {s : Shared} {h' : Heap} {t : Nat} (H : Holds P st s.heap) (hk : ∀ b o, s.heap.get? b = some o -> h'.get? b = some o) : Step P F st s st { s with heap := h', toks := t } where
 holds := fun a m e => by
  obtain ⟨o, ho, hm⟩ := H a m e
  exact ⟨o, hk _ _ ho, hm.keep H fun b o O hb => ⟨o, hk _ _ hb, .refl o⟩⟩
 sub _ h := .inl h
 ext b o _ _ ho := ⟨o, hk _ _ ho, .refl o⟩
 own b o _ _ ho := ⟨o, hk _ _ ho, .refl o⟩
 mono b h := by
  obtain ⟨o, ho⟩ := Option.isSome_iff_exists.mp h
  show (h'.get? b).isSome = true
  rw [hk _ _ ho]; rfl
 gens := rfl
 os := rfl
section
variable {o : Wo} [W : WoOk o] {c : Cx} {k : Kx} {loc : yae} {st : St} {Q : V -> St -> Prop} {X : Exc -> St -> Prop} {QF : Fl -> yae -> St -> Prop} {QL : yae -> St -> Prop}
theorem yhb (slice : Expr) (oV i : Value) : ∃ ops, subscripted slice false oV i = operate ops (getItem oV i) := by
 apply @Expr.casesOn (fun e => ∃ ops, subscripted e false oV i = operate ops (getItem oV i)) slice
 case Slice => intro _ _ x _; induction x <;> exact ⟨_, rfl⟩
 all_goals (intros; exact ⟨_, rfl⟩)
theorem yro {value slice : Expr} {oV i : Value} {T id : String} {Q : Value -> Shared -> Prop} {E : Value -> Shared -> Prop} {s : Shared} {A : Around} (hT : s.TypeIs oV T)
 (hl : typeLookup (.type T) "__getitem__" = pure (some (.builtin id))) (h : wpAny o.M A (getItem oV i) Q E s) : wpAny o.M A (subscriptTail value slice oV i) Q E s := by
 unfold subscriptTail
 refine wpAny_bind ?_
 rw [getitemInPython_of_ne hT.not_modules]
 refine wpAny_bind (wpAny_specialOf hT hl ?_)
 obtain ⟨ops, hs⟩ := yhb slice oV i
 have fin : wpAny o.M A (subscripted slice false oV i) (fun r s₃ => wpAny o.M A (letTemporaryGo value oV r >>= fun O => pure r) Q E s₃) E s := by
  rw [hs]
  exact wpAny_operating (wpAny_mono h (fun r s₃ h₃ => wpAny_bind (wpAny_letTemporaryGo (wpAny_pure h₃))) fun O O x => x)
 first
  | exact wpAny_pure (wpAny_bind fin)
  | exact wpAny_bind (wpAny_pure (wpAny_bind fin))
  | exact wpAny_bind fin
def SUB (o : Wo) (k : Kx) (st : St) (a i : V) (Q : V -> St -> Prop) (X : Exc -> St -> Prop) : Prop :=
 ∀ s va vi, SI o k st s -> VR s.heap a va -> VR s.heap i vi -> ∃ T id, s.TypeIs va T /\ typeLookup (.type T) "__getitem__" = pure (some (.builtin id)) /\ wpAny o.M k.A (getItem va vi) (PV o st s Q) (PX o noF st s X) s
theorem ytc {value slice : Expr} {pos : Pos} (h : EV o c loc st value (fun a st₁ => EV o c loc st₁ slice (fun i st₂ => SUB o c.k st₂ a i Q X) X) X) : EV o c loc st (.Subscript value slice pos) Q X := fun s I =>
 Subscript_ (h.use I fun a st₁ va s₁ q S I₁ ra => px S (q.use I₁ fun i st₂ vi s₂ q₂ S₂ I₂ ri => by
  obtain ⟨T, id, h1, h2, h3⟩ := q₂ s₂ va vi I₂.si (ra.keep I₁.si.hs S₂.kp) ri
  exact px (S.trans S₂) (yro h1 h2 (wpAny_mono h3 (fun O O p => p.trans (S.trans S₂)) fun O O p => p))))
theorem ym9 {xs : List V} {i : Int} {j : Nat} {x : V} (hlo : -2 ^ 63 <= i) (hhi : i < 2 ^ 63) (hj : seqIndex? i xs.length = some j) (hx : xs[j]? = some x) (h : Q x st) : SUB o k st (.tup xs) (.int i) Q X := fun s va vi S ra ri => by
 cases ri
 cases ra with
 | tup ht rr =>
 obtain ⟨v, hv, rv⟩ := rr.get hx
 exact ⟨"tuple", _, ⟨_, ht, rfl⟩, PySem.F.slot_tuple_getitem.lookup, PySem.P.getItem_tuple ht hlo hhi (by rw [List.size_toArray, <- rr.length]; exact hj) (by simpa using hv) ⟨x, st, rv, Step.refl S.hs, h⟩⟩
theorem ya6 {l : Addr} {xs : List V} {i : Int} {x : V} (hl : st l = some (.lst xs)) (h0 : 0 <= i) (hhi : i < 2 ^ 63) (hx : xs[i.toNat]? = some x) (h : Q x st) : SUB o k st (.ptr l) (.int i) Q X := fun s va vi S ra ri => by
 cases ri; cases ra
 obtain ⟨_, _, h1, rr⟩ := ybc (S.hs l _ hl)
 obtain ⟨v, hv, rv⟩ := rr.get hx
 exact ⟨"list", _, ⟨_, h1, rfl⟩, list_getitem_lookup, wpAny_getItem_list ⟨_, h1, rfl, _, rfl⟩ h0 hhi (by simpa using hv) ⟨x, st, rv, Step.refl S.hs, h⟩⟩
theorem yby {l : Addr} {xs : List V} {i : Int} {x : V} (hl : st l = some (.lst xs)) (h0 : i < 0) (h1 : -(xs.length : Int) <= i) (hlo : -(2 ^ 63) <= i) (hx : xs[(i + xs.length).toNat]? = some x) (h : Q x st) : SUB o k st (.ptr l) (.int i) Q X := fun s va vi S ra ri => by
 cases ri; cases ra
 obtain ⟨_, _, e1, rr⟩ := ybc (S.hs l _ hl)
 obtain ⟨v, hv, rv⟩ := rr.get hx
 have hlen := rr.length
 exact ⟨"list", _, ⟨_, e1, rfl⟩, list_getitem_lookup, wpAny_getItem_list_neg ⟨_, e1, rfl, _, rfl⟩ h0 (by rw [List.size_toArray, <- hlen]; exact h1) hlo (by rw [List.size_toArray, <- hlen]; simpa using hv) ⟨x, st, rv, Step.refl S.hs, h⟩⟩
def PT (o : Wo) (c : Cx) (loc : yae) (st : St) (e : Option Expr) (Q : Option Int -> St -> Prop) (X : Exc -> St -> Prop) : Prop :=
 ∀ s, Inv o c loc st s -> wpAny o.M c.k.A (evalPart e c.env) (fun v s' => ∃ n st', IsPart v n /\ Step o.P noF st s st' s' /\ Q n st') (PX o noF st s X) s
theorem pt_none {Q : Option Int -> St -> Prop} (h : Q none st) : PT o c loc st none Q X := fun s I => wpAny_pure ⟨none, st, .none, Step.refl I.si.hs, h⟩
theorem pt_some {e : Expr} {Q : Option Int -> St -> Prop} (h : EV o c loc st e (fun v st₁ => ∃ n, v = .int n /\ Q (some n) st₁) X) : PT o c loc st (some e) Q X := fun s I =>
 h.use I fun v st₁ va s₁ ⟨n, e, q⟩ S I₁ r => by subst e; cases r; exact ⟨some n, st₁, .int _ _, S, q⟩
def SLV (o : Wo) (k : Kx) (st : St) (a : V) (lo hi : Option Int) (Q : V -> St -> Prop) (X : Exc -> St -> Prop) : Prop :=
 ∀ s va sl vl vu, SI o k st s -> VR s.heap a va -> s.heap.IsSliceOf sl vl vu .none -> IsPart vl lo -> IsPart vu hi ->
  ∃ T id, s.TypeIs va T /\ typeLookup (.type T) "__getitem__" = pure (some (.builtin id)) /\ wpAny o.M k.A (getItem va (.ref sl)) (PV o st s Q) (PX o noF st s X) s
theorem ev_slice {value : Expr} {lower upper : Option Expr} {p pos : Pos} (h : EV o c loc st value (fun a st₁ => PT o c loc st₁ lower (fun lo st₂ => PT o c loc st₂ upper (fun hi st₃ => SLV o c.k st₃ a lo hi Q X) X) X) X) :
 EV o c loc st (.Subscript value (.Slice lower upper none p) pos) Q X := fun s I => by
 refine Subscript_ (h.use I fun a st₁ va s₁ q S I₁ ra => ?_)
 refine wpAny_Slice (px S (wpAny_mono (q s₁ I₁) (fun vl s₂ ⟨lo, st₂, pl, S₂, q₂⟩ => ?_) fun O O p => p))
 have I₂ := I₁.step S₂
 refine px (S.trans S₂) (wpAny_mono (q₂ s₂ I₂) (fun vu s₃ ⟨hi, st₃, pu, S₃, q₃⟩ => ?_) fun O O p => p)
 have I₃ := I₂.step S₃
 refine wpAny_pure ?_
 have S₄ : Step o.P noF st₃ s₃ st₃ { s₃ with heap := s₃.heap.push { cls := .type "slice", data := .fields #[vl, vu, .none] } } := Step.push I₃.si.hs _ s₃.toks
 have I₄ := I₃.step S₄
 have S' := ((S.trans S₂).trans S₃).trans S₄
 obtain ⟨T, id, h1, h2, h3⟩ := q₃ _ va s₃.heap.objs.size vl vu I₄.si (((ra.keep I₁.si.hs S₂.kp).keep I₂.si.hs S₃.kp).keep I₃.si.hs S₄.kp) (Heap.IsSliceOf.new ..) pl pu
 exact px S' (yro h1 h2 (wpAny_mono h3 (fun O O p => p.trans S') fun O O p => p))
noncomputable def yam {α : Type} (xs : List α) (lo hi : Option Int) : List α := (xs.drop (lo.elim 0 (clipAt xs.length))).take (hi.elim xs.length (clipAt xs.length) - lo.elim 0 (clipAt xs.length))
theorem yfw {l : Addr} {xs : List V} {lo hi : Option Int} (hl : st l = some (.lst xs)) (hz : xs.length <= sizeLine) (h : ∀ a, st a = none -> Q (.ptr a) (st.set a (.lst (yam xs lo hi)))) : SLV o k st (.ptr l) lo hi Q X := fun s va sl vl vu S ra hs pl pu => by
 cases ra
 obtain ⟨ws, n, e1, rr⟩ := ybc (S.hs l _ hl)
 have hlen := rr.length
 refine ⟨"list", _, ⟨_, e1, rfl⟩, list_getitem_lookup, wpAny_getItem_list_slice ⟨_, e1, rfl, _, rfl⟩ hs pl pu .none (by simp) ?_ (by rw [List.size_toArray, <- hlen]; exact hz)⟩
 rw [slicePick_plain]
 have e2 : (((ws.toArray).toList.drop (lo.elim 0 (clipAt ws.toArray.size))).take (hi.elim ws.toArray.size (clipAt ws.toArray.size) - lo.elim 0 (clipAt ws.toArray.size))) = yam ws lo hi := by
  simp [yam]
 rw [e2]
 have e3 : VRs s.heap (yam xs lo hi) (yam ws lo hi) := by
  unfold yam
  rw [hlen]
  exact (rr.drop _).take _
 exact ⟨.ptr _, _, .ptr _, Step.alloc S.hs _ (.lst (yam xs lo hi)) rfl (.lst e3) s.toks, h _ (ybo S.hs)⟩
set_option tactic.hygienic true in
theorem yb3 {xs : List V} {a : Nat} (h1 : 1 <= a) (ha : a <= xs.length) (hz : xs.length <= sizeLine) (h : Q (.tup (xs.drop a)) st) : SLV o k st (.tup xs) (some a) none Q X := fun s va sl vl vu S ra hs pl pu => by
 cases pu
 cases pl
 cases ra with
 | tup ht rr =>
 rename_i ws b n
 have hlen := rr.length
 have tt : IsTup s.heap b ws.toArray := ⟨_, ht, rfl, _, rfl⟩
 refine ⟨"tuple", _, tt.typeIs, slot_tuple_getitem.lookup, getItem_tuple_from tt hs h1 (by rw [List.size_toArray, <- hlen]; exact ha) ?_ (by rw [List.size_toArray, <- hlen]; exact hz)⟩
 exact ⟨.tup (xs.drop a), st, .tup (IsT.new _ _) (by simpa using (rr.drop a).keep S.hs (Kp.push _)), Step.push S.hs _ s.toks, h⟩
theorem yhz {l : Addr} {xs : List V} {name : Str} {id : String} (hl : st l = some (.lst xs)) (slot : Slot "list" name id) (hty : typeOf (.builtin id) = pure (.type "method_descriptor")) : ytx o k st (.ptr l) name (.builtin id) := fun s va pl S r => by
 cases r
 obtain ⟨_, _, e1, rr⟩ := ybc (S.hs l _ hl)
 refine getMethod_builtin ⟨_, e1, rfl⟩ PySem.F.plainAttrs_list slot hty (fun a e => ?_) ⟨rfl, s.toks, rfl⟩
 cases e
 exact ⟨_, e1, rfl⟩
theorem yaw {l : Addr} {xs : List V} (hl : st l = some (.lst xs)) : ytx o k st (.ptr l) "append" (.builtin "list.append") := yhz hl PySem.F.slot_list_append PySem.F.type_list_append
theorem meth_pop {l : Addr} {xs : List V} (hl : st l = some (.lst xs)) : ytx o k st (.ptr l) "pop" (.builtin "list.pop") := yhz hl PySem.F.slot_list_pop PySem.F.type_list_pop
theorem yma {l : Addr} {xs : List V} (hl : st l = some (.lst xs)) : ytx o k st (.ptr l) "reverse" (.builtin "list.reverse") := yhz hl PySem.F.slot_list_reverse PySem.F.type_list_reverse
theorem yn5 {P : Params} {F : Addr -> Prop} {s : Shared} {l : Addr} {xs ys : List V} {ws us : List Value} {n : Nat} {f : Array Value -> Array Value} (H : Holds P st s.heap) (hl : st l = some (.lst xs)) (e1 : s.heap.get? l = some (yks ws n)) (hf : f ws.toArray = us.toArray)
 (hr : ∀ hh, Kp st s.heap hh -> VRs hh ys us) (t : Nat) : Step P F st s (st.set l (.lst ys)) { s with heap := s.heap.update l (Obj.mapSeq f), toks := t } := by
 refine Step.upd H (by rw [hl]; simp) (Heap.SameBut.update ..) (IsL.update (n := n) e1 f) (fun hh K => ?_) t
 rw [hf]
 exact .lst (hr hh K)
set_option tactic.hygienic true in
theorem yaq {l : Addr} {xs : List V} {x : V} (hl : st l = some (.lst xs)) (hz : xs.length <= sizeLine) (h : Q .none (st.set l (.lst (xs ++ [x])))) : yak o k st (.builtin "list.append") [.ptr l, x] Q X := fun s vs S r => by
 cases r.inv2 with
 | mk r1 r2 =>
 cases r1
 obtain ⟨ws, n, e1, rr⟩ := ybc (S.hs l _ hl)
 rename_i v
 refine call_meets PySem.F.slot_list_append ⟨_, e1, rfl⟩ PySem.F.entry_list_append (PySem.F.args_list_append_2 _ _) (list_append l ws.toArray n v (by rw [List.size_toArray, <- rr.length]; exact hz)) ⟨e1, ?_⟩
 exact ⟨.none, _, .none, yn5 S.hs hl e1 (us := ws ++ [v]) (by simp) (fun hh K => (rr.keep S.hs K).append (.cons (r2.keep S.hs K) .nil)) s.toks, h⟩
theorem ymp {l : Addr} {xs : List V} (hl : st l = some (.lst xs)) (hz : xs.length <= sizeLine) (h : Q .none (st.set l (.lst xs.reverse))) : yak o k st (.builtin "list.reverse") [.ptr l] Q X := fun s vs S r => by
 cases r.inv1 with
 | mk r1 =>
 cases r1
 obtain ⟨ws, n, e1, rr⟩ := ybc (S.hs l _ hl)
 refine call_meets PySem.F.slot_list_reverse ⟨_, e1, rfl⟩ PySem.F.entry_list_reverse (PySem.F.args_list_reverse_1 _) (AutoSeq1.list_reverse_list_0 l ws.toArray n (by rw [List.size_toArray, <- rr.length]; exact hz)) ⟨e1, ?_⟩
 exact ⟨.none, _, .none, yn5 S.hs hl e1 (us := ws.reverse) (by simp) (fun hh K => (rr.keep S.hs K).reverse) s.toks, h⟩
theorem call_pop {l : Addr} {xs : List V} {x : V} (hl : st l = some (.lst (xs ++ [x]))) (hz : xs.length + 1 <= sizeLine) (h : Q x (st.set l (.lst xs))) : yak o k st (.builtin "list.pop") [.ptr l] Q X := fun s vs S r => by
 cases r.inv1 with
 | mk r1 =>
 cases r1
 obtain ⟨ws, n, e1, rr⟩ := ybc (S.hs l _ hl)
 have hlen := rr.length
 simp only [List.length_append, List.length_cons, List.length_nil] at hlen
 obtain ⟨v, hv, rv⟩ := rr.get (i := xs.length) (x := x) (by simp)
 have e2 : ws.toArray[ws.toArray.size - 1]? = some v := by
  rw [List.size_toArray, <- hlen]; simpa using hv
 have rt : VRs s.heap xs (ws.take xs.length) := by simpa using rr.take xs.length
 refine call_meets PySem.F.slot_list_pop ⟨_, e1, rfl⟩ PySem.F.entry_list_pop (PySem.F.args_list_pop_1 _) (PySem.MeetsSeq.list_pop_last l ws.toArray n v e2 (by rw [List.size_toArray, <- hlen]; exact hz)) ⟨e1, ?_⟩
 have S1 := yn5 (P := o.P) (F := noF) (ys := xs) (us := ws.take xs.length) (f := fun xs => xs.eraseIdxIfInBounds (ws.toArray.size - 1)) S.hs hl e1 (by
  rw [List.size_toArray, <- hlen]
  apply Array.toList_inj.mp
  simp [List.eraseIdx_eq_take_drop_succ]
  (first | lia | omega)) (fun hh K => rt.keep S.hs K) s.toks
 exact ⟨x, _, rv.keepD (.ofSt S.hs) (S1.kp.d), S1, h⟩
theorem yfr {i : Int} (h : Q (.int (if i < 0 then -i else i)) st) : yak o k st (.builtin "abs") [.int i] Q X := fun s vs S r => by
 cases r.inv1 with
 | mk r1 =>
 cases r1
 exact call_abs_int fun u tk => ⟨_, st, .int _ _, Step.toks S.hs _, h⟩
theorem ycq {i j : Int} (h : Q (.int (if j > i then j else i)) st) : yak o k st (.builtin "max") [.int i, .int j] Q X := fun s vs S r => by
 cases r.inv2 with
 | mk r1 r2 =>
 cases r1; cases r2
 refine max_two_ints S.ok.handled fun h' tk hk => ?_
 refine ⟨.int (if j > i then j else i), st, ?_, Step.grow S.hs hk, h⟩
 split <;> exact .int _ _
theorem ydi {i j : Int} (h : Q (.int (if j < i then j else i)) st) : yak o k st (.builtin "min") [.int i, .int j] Q X := fun s vs S r => by
 cases r.inv2 with
 | mk r1 r2 =>
 cases r1; cases r2
 refine min_two_ints S.ok.handled fun h' tk hk => ?_
 refine ⟨.int (if j < i then j else i), st, ?_, Step.grow S.hs hk, h⟩
 split <;> exact .int _ _
theorem yan {l : Addr} {xs : List V} (hl : st l = some (.lst xs)) (hz : (xs.length : Int) < 2 ^ 63) (h : Q (.int xs.length) st) : yak o k st (.builtin "len") [.ptr l] Q X := fun s vs S r => by
 cases r.inv1 with
 | mk r1 =>
 cases r1
 obtain ⟨_, _, e1, rr⟩ := ybc (S.hs l _ hl)
 have hlen := rr.length
 refine Calls.call_len_list ⟨_, e1, rfl, _, rfl⟩ (by rw [List.size_toArray, <- hlen]; exact hz) ?_
 rw [List.size_toArray, <- hlen]
 exact ⟨_, st, .int _ _, Step.toks S.hs _, h⟩
theorem ymq {xs : List V} (hz : (xs.length : Int) < 2 ^ 63) (h : Q (.int xs.length) st) : yak o k st (.builtin "len") [.tup xs] Q X := fun s vs S r => by
 cases r.inv1 with
 | mk r1 =>
 cases r1 with
 | tup ht rr =>
 have hlen := rr.length
 refine PyProof.Rows.len_tuple ⟨_, ht, rfl, _, rfl⟩ (by rw [List.size_toArray, <- hlen]; exact hz) ?_
 rw [List.size_toArray, <- hlen]
 exact ⟨_, st, .int _ _, Step.toks S.hs _, h⟩
theorem ycw {l : Addr} {xs : List V} (hl : st l = some (.lst xs)) (hz : xs.length <= sizeLine) (h : Q (.tup xs) st) : yak o k st (.type "tuple") [.ptr l] Q X := fun s vs S r => by
 cases r.inv1 with
 | mk r1 =>
 cases r1
 obtain ⟨_, _, e1, rr⟩ := ybc (S.hs l _ hl)
 refine call_tuple_list ⟨_, e1, rfl, _, rfl⟩ (fun h' hk => ?_) (by rw [List.size_toArray, <- rr.length]; exact hz)
 have S1 : Step o.P noF st s st { s with heap := h', toks := s.toks } := Step.grow S.hs hk
 exact ⟨.tup xs, st, .tup (IsT.new _ _) ((rr.keep S.hs S1.kp).keep S1.holds (Kp.push _)), S1.trans (Step.push S1.holds _ s.toks), h⟩
end
section
theorem ygt : fillsNumberSlot (.type "tuple") "mul" = pure false :=
 PySem.fillsNumberSlot_seq (id := "tuple.__mul__") (r := some (.builtin "tuple.__rmul__")) PySem.F.slot_tuple_mul.lookup (by decide +kernel) PySem.F.slot_tuple_rmul.lookup (by decide +kernel)
theorem ylo : seqRepeat? (.type "tuple") = pure (some (.builtin "tuple.__mul__")) := by
 unfold seqRepeat?
 rw [PySem.seqSlot_of (T := "tuple") (name := "__mul__") (id := "tuple.__mul__") PySem.F.slot_tuple_mul.lookup (by decide +kernel), PySem.seqSlot_of (T := "tuple") (name := "__rmul__") (id := "tuple.__rmul__") PySem.F.slot_tuple_rmul.lookup (by decide +kernel)]
 rfl
theorem yiq (a : Int) (t : Tok) (l : Addr) (items : Array Value) (n : Nat) :
 Meets (Builtin.«int.__rmul__» ⟨[.int a t, .ref l], []⟩) (fun O R s => s.heap.get? l = some { cls := .type "tuple", dict := none, data := .seq items n, slots := #[] } /\ R (.ok (.ret Value.notImplemented)) s) :=
 .of_wp fun prog w A R s h => by obtain ⟨hp, g, d, tk, os⟩ := s; obtain ⟨hl, h⟩ := h; wp_walk; exact ⟨_, rfl, h⟩
theorem ym8 (l : Addr) (items : Array Value) (n : Nat) (u : Tok) (hi : ¬ (items.isEmpty = true)) :
 Meets (Builtin.«tuple.__mul__» ⟨[.ref l, .int 0 u], []⟩) (fun O R s => s.heap.get? l = some { cls := .type "tuple", dict := none, data := .seq items n, slots := #[] } /\ R (.ok (.ret (Value.ref s.heap.objs.size))) { s with heap := s.heap.push { cls := Value.type "tuple", data := Data.seq #[] }, toks := s.toks }) :=
 .of_wp fun prog w A R s h => by
  obtain ⟨hp, g, d, tk, os⟩ := s; obtain ⟨hl, h⟩ := h
  have hi' : items.isEmpty = false := by simpa using hi
  wp_walk
  exact ⟨_, rfl, h⟩
theorem ym7 (l : Addr) (items : Array Value) (n : Nat) (u : Tok) :
 Meets (Builtin.«tuple.__mul__» ⟨[.ref l, .int 1 u], []⟩) (fun O R s => s.heap.get? l = some { cls := .type "tuple", dict := none, data := .seq items n, slots := #[] } /\ R (.ok (.ret (Value.ref l))) s) :=
 .of_wp fun prog w A R s h => by
  obtain ⟨hp, g, d, tk, os⟩ := s; obtain ⟨hl, h⟩ := h
  wp_walk
  exact ⟨_, rfl, h⟩
theorem ym6 (l : Addr) (items : Array Value) (n : Nat) (x : Int) (u : Tok) (h1 : 1 < x) (h2 : x < 2 ^ 63) (hi : ¬ (items.isEmpty = true)) (hz : items.size * x.toNat <= 2 ^ 24) :
 Meets (Builtin.«tuple.__mul__» ⟨[.ref l, .int x u], []⟩) (fun O R s => s.heap.get? l = some { cls := .type "tuple", dict := none, data := .seq items n, slots := #[] } /\ R (.ok (.ret (Value.ref s.heap.objs.size))) { s with heap := s.heap.push { cls := Value.type "tuple", data := Data.seq (List.foldl (fun x1 x2 => x1 ++ x2) #[] (List.replicate x.toNat items)) }, toks := s.toks }) :=
 .of_wp fun prog w A R s h => by
  obtain ⟨hp, g, d, tk, os⟩ := s; obtain ⟨hl, h⟩ := h
  have hi' : items.isEmpty = false := by simpa using hi
  have c1 : ¬ ((decide (x < -(2 ^ 63)) || decide (x >= 2 ^ 63)) = true) := by simp; (first | lia | omega)
  have c2 : ¬ ((items.isEmpty || x == 1) = true) := by simp [hi']; (first | lia | omega)
  have c3 : ¬ ((decide (x <= 0) || items.isEmpty) = true) := by simp [hi']; (first | lia | omega)
  have ex : (items.size : Int) * x = ((items.size * x.toNat : Nat) : Int) := by rw [Int.natCast_mul, Int.toNat_of_nonneg (by (first | lia | omega))]
  have c4 : ¬ ((items.size : Int) * x > (2 ^ 63 - 1) / 8) := by rw [ex]; (first | lia | omega)
  have c5 : ¬ (Builtin.Tuple.tupleTooMany ((items.size : Int) * x) = true) := by rw [ex]; unfold Builtin.Tuple.tupleTooMany; simp only [decide_eq_true_eq, sizeLine_eq]; (first | lia | omega)
  have hsz : (List.foldl (fun x1 x2 => x1 ++ x2) #[] (List.replicate x.toNat items)).size <= sizeLine := by
   have : ∀ (m : Nat) (a : Array Value), (List.foldl (fun x1 x2 => x1 ++ x2) a (List.replicate m items)).size = a.size + m * items.size := by
    intro m
    induction m with
    | zero => intro a; simp
    | succ m ih => intro a; rw [List.replicate_succ, List.foldl_cons, ih, Array.size_append, Nat.succ_mul]; (first | lia | omega)
   rw [this, Nat.mul_comm, sizeLine_eq]; simpa using hz
  wp_walk
  rw [if_neg c1]
  wp_walk
  rw [if_neg c2]
  wp_walk
  rw [if_neg c3]
  wp_walk
  rw [if_neg c4]
  wp_walk
  rw [if_neg c5]
  wp_walk
  exact ⟨_, rfl, h⟩
end
theorem VRs.repl {h : Heap} {xs : List V} {ws : List Value} (r : VRs h xs ws) : ∀ m : Nat, VRs h (List.replicate m xs).flatten (List.replicate m ws).flatten
 | 0 => .nil
 | m + 1 => by rw [List.replicate_succ, List.flatten_cons, List.replicate_succ, List.flatten_cons]; exact r.append (r.repl m)
theorem yf4 (ws : List Value) : ∀ (m : Nat) (a : List Value), List.foldl (fun x1 x2 => x1 ++ x2) a.toArray (List.replicate m ws.toArray) = (a ++ (List.replicate m ws).flatten).toArray
 | 0, a => by simp
 | m + 1, a => by
  rw [List.replicate_succ, List.foldl_cons, List.append_toArray, yf4 ws m (a ++ ws), List.replicate_succ, List.flatten_cons, List.append_assoc]
section
variable {o : Wo} [W : WoOk o] {c : Cx} {k : Kx} {loc : yae} {st : St} {Q : V -> St -> Prop} {X : Exc -> St -> Prop} {QF : Fl -> yae -> St -> Prop} {QL : yae -> St -> Prop}
set_option tactic.hygienic true in
theorem ynh {xs : List V} {x : Int} (h0 : 0 <= x) (h1 : x < 2 ^ 63) (hne : xs ≠ []) (hz : xs.length * x.toNat <= 2 ^ 24) (h : Q (.tup (List.replicate x.toNat xs).flatten) st) : OPB o k st .Mult (.tup xs) (.int x) Q X := fun s va vb S ra rb => by
 cases rb with
 | int _ u =>
 cases ra with
 | tup ht rr =>
 rename_i ws l n
 have hlen := rr.length
 have hemp : ¬ (ws.toArray.isEmpty = true) := by
  induction ws with
  | nil => induction xs with | nil => exact absurd rfl hne | cons _ _ => simp at hlen
  | cons _ _ => simp
 have key : wpAny o.M k.A (call (.builtin "tuple.__mul__") [.ref l, .int x u]) (PV o st s Q) (PX o noF st s X) s := by
  by_cases e0 : x = 0
  . subst e0
    refine call_meets PySem.F.slot_tuple_mul ⟨_, ht, rfl⟩ PySem.F.entry_tuple_mul (PySem.F.args_tuple_mul_2 _ _) (ym8 l ws.toArray n u hemp) ⟨ht, ?_⟩
    exact ⟨.tup [], st, .tup (ws := []) (IsT.new _ _) .nil, Step.push S.hs _ s.toks, by simpa using h⟩
  . by_cases e1 : x = 1
    . subst e1
      refine call_meets PySem.F.slot_tuple_mul ⟨_, ht, rfl⟩ PySem.F.entry_tuple_mul (PySem.F.args_tuple_mul_2 _ _) (ym7 l ws.toArray n u) ⟨ht, ?_⟩
      exact ⟨.tup xs, st, .tup ht rr, Step.refl S.hs, by simpa using h⟩
    . refine call_meets PySem.F.slot_tuple_mul ⟨_, ht, rfl⟩ PySem.F.entry_tuple_mul (PySem.F.args_tuple_mul_2 _ _) (ym6 l ws.toArray n x u (by (first | lia | omega)) h1 hemp (by rw [List.size_toArray, <- hlen]; exact hz)) ⟨ht, ?_⟩
      have e := yf4 ws x.toNat []
      rw [List.nil_append] at e
      rw [e]
      exact ⟨.tup _, st, .tup (IsT.new _ _) ((rr.repl x.toNat).keep S.hs (Kp.push _)), Step.push S.hs _ s.toks, h⟩
 exact wpAny_binaryOp_repeat_ref (T := "tuple") (U := "int") (by decide) ⟨_, ht, rfl⟩ (fun s' => typeIs_int s' x u) ygt PySem.F.fills_int_mul PySem.F.slot_int_rmul ylo PySem.F.slot_int_index.lookup
  (call_meets PySem.F.slot_int_rmul (typeIs_int s x u) PySem.F.entry_int_rmul (PySem.F.args_int_rmul_2 _ _) (yiq x u l ws.toArray n) ⟨ht, rfl, ⟨_, ht, rfl⟩, key⟩)
set_option backward.match.sparseCases false in
noncomputable def V.strs : List V -> Option (List Str)
 | [] => some []
 | .str x :: r => (V.strs r).map (x :: ·)
 | _ => Option.none
theorem yjh {h : Heap} : ∀ {xs : List V} {ws : List Value} {ss : List Str} (a : Str) (t : Tok), VRs h xs ws -> V.strs xs = some ss -> ∃ e : Value -> Bool, (∀ y, y ∈ ws -> PySem.MeetsSeq.EqGives y (.str a t) (e y)) /\ ws.any e = ss.any (fun y => y == a) := by
 intro xs ws ss a t r hs
 refine ⟨fun y => match y with | .str b _ => b.cps.toList == a.cps.toList | _ => false, ?_⟩
 have ec : ∀ b : Str, (b.cps.toList == a.cps.toList) = (b == a) := fun b => by
  rw [Bool.eq_iff_iff, beq_iff_eq, beq_iff_eq]
  constructor
  . intro q; induction b; induction a; simp only [Str.mk.injEq]; exact Array.toList_inj.mp q
  . rintro rfl; rfl
 induction xs generalizing ws ss with
 | nil => cases r; simp [V.strs] at hs; subst hs; exact ⟨fun y hy => by simp at hy, rfl⟩
 | cons x xs ih =>
  cases r with
  | cons r1 r2 =>
  cases x with
  | str b =>
   simp only [V.strs, Option.map_eq_some_iff] at hs
   obtain ⟨ss', hs', rfl⟩ := hs
   obtain ⟨i1, i2⟩ := ih r2 hs'
   cases r1 with
   | str _ tb =>
   refine ⟨fun y hy => ?_, ?_⟩
   . rcases List.mem_cons.mp hy with rfl | hy
     . exact PySem.SeqRoads2.EqGives.str b a tb t
     . exact i1 y hy
   . rw [List.any_cons, List.any_cons, i2]
     dsimp only
     rw [ec]
  | _ => simp [V.strs] at hs
theorem Jc.qj {a : Str} {xs : List V} {ss : List Str} (hs : V.strs xs = some ss) (h : Q (.bool (ss.any fun y => y == a)) st) : CMP o k st .In (.str a) (.tup xs) Q X := fun s va vb S ra rb => by
 cases ra with
 | str _ t =>
 cases rb with
 | tup ht rr =>
 obtain ⟨e, h1, h2⟩ := yjh a t rr hs
 refine PySem.SeqRoads2.in_tuple e (fun y hy => h1 y (by simpa using hy)) ht ?_
 rw [List.any_toArray, h2]
 exact ⟨_, st, .bool _, Step.refl S.hs, h⟩
theorem load_R {A : Around} {s : Shared} {x : Str} {v : V} {Qv : Value -> Shared -> Prop} {E : Value -> Shared -> Prop} (I : Inv o c loc st s) (hx : loc x = some v) (h : ∀ u, VR s.heap v u -> Qv u s) : wpAny o.M A (loadName c.env x) Qv E s := by
 obtain ⟨m, hm, q⟩ := I.lc.ns
 rcases q x v hx with ⟨hl, u, hu, r⟩ | ⟨hl, hn, a, u, ha, hc, r⟩
 . exact wpAny_loadName_local I.cx.kind hl hm hu (h u r)
 . rcases hl with hl | hl
   . exact wpAny_loadName_cell I.cx.kind hl ha hc (h u r)
   . exact wpAny_loadName_free I.cx.kind hl ha hc (h u r) hn
theorem ex_aug {x : Str} {np pos : Pos} {op : Operator} {e : Expr} {a : V} (hx : loc x = some a) (hs : ybp c.env x = true) (h : EV o c loc st e (fun b st₁ => OPI o c.k st₁ op a b (fun r st₂ => QF .next (loc.set x r) st₂) X) X) : EX o c loc st (.AugAssign (.Name x np) op e pos) QF X := fun s I => by
 refine wpAny_AugAssign_Name (load_R I hx fun u ru => pxw I (h.use I fun b st₁ vb s₁ q S I₁ rb => pxw I (px S ?_)))
 refine wpAny_mono (q s₁ u vb I₁.si (ru.keep I.si.hs S.kp) rb) (fun r s₂ ⟨rv, st₂, rr, S₂, q₂⟩ => ?_) fun O O p => p
 have I₂ := I₁.step S₂
 have S' : Step o.P (own c) st s st₂ s₂ := (S.trans S₂).weak
 exact ycd I₂ rr hs fun h' t S₃ L => ⟨.next, _, st₂, .next, S'.trans S₃, L, q₂⟩
def ASGS (o : Wo) (c : Cx) (loc : yae) (st : St) (ts : List Expr) (vs : List V) (Q : yae -> St -> Prop) (X : Exc -> St -> Prop) : Prop :=
 ∀ s us, Inv o c loc st s -> VRs s.heap vs us -> wpAny o.M c.k.A (assignInOrder ((assignEach ts c.env).map (·.2)) us) (PU o c st s Q) (PXO o c st s X) s
theorem asgs_nil (h : QL loc st) : ASGS o c loc st [] [] QL X := fun s us I r => by cases r; exact wpAny_pure ⟨loc, st, Step.refl I.si.hs, I.lc, h⟩
set_option tactic.hygienic true in
theorem ydo {t : Expr} {ts : List Expr} {env : Env} (h : ybh t = true) : assignEach (t :: ts) env = (false, assign t env) :: assignEach ts env := by
 revert h
 apply @Expr.casesOn (fun t => ybh t = true -> assignEach (t :: ts) env = (false, assign t env) :: assignEach ts env) t <;> intros <;> first | rfl | (rename_i h; exact Bool.noConfusion h)
theorem ytt {t : Expr} {ts : List Expr} {v : V} {vs : List V} (h : ASG o c loc st t v (fun loc₁ st₁ => ASGS o c loc₁ st₁ ts vs QL X) X) (hp : ybh t = true := by rfl) : ASGS o c loc st (t :: ts) (v :: vs) QL X := fun s us I r => by
 cases r with
 | cons r1 r2 =>
 rw [ydo hp]
 show wpAny _ _ (do holding _ (assign t c.env _); assignInOrder _ _) _ _ s
 refine wpAny_bind (wpAny_holding (wpAny_mono (h s _ I r1) (fun O s₁ p => ?_) fun O O p => p))
 obtain ⟨loc₁, st₁, S, L, q⟩ := p
 have I₁ := I.stepF S L
 exact px S (wpAny_mono (q s₁ _ I₁ (VRs.stepF I S r2)) (fun O O p => p.trans S) fun O O p => p)
theorem ypy {env : Env} : ∀ {ts : List Expr}, ts.all ybh = true -> (assignEach ts env).length = ts.length /\ (assignEach ts env).findIdx? (·.1) = none
 | [], _ => ⟨rfl, rfl⟩
 | t :: ts, h => by
  simp only [List.all_cons, Bool.and_eq_true] at h
  obtain ⟨i1, i2⟩ := ypy (env := env) h.2
  rw [ydo h.1]
  refine ⟨by simp [i1], ?_⟩
  rw [List.findIdx?_cons, i2]; rfl
set_option tactic.hygienic true in
theorem ytu {ts : List Expr} {x1} {pos : Pos} {vs : List V} (hp : ts.all ybh = true) (hl : ts.length = vs.length) (h : ASGS o c loc st ts vs QL X) : ASG o c loc st (.Tuple ts x1 pos) (.tup vs) QL X := fun s u I r => by
 cases r with
 | tup ht rr =>
 rename_i ws a n
 obtain ⟨l1, l2⟩ := ypy (env := c.env) hp
 refine wpAny_assign_Tuple I.si.ok.handled ⟨_, ht, rfl, _, rfl⟩ (by rw [l1, hl, List.size_toArray, rr.length]) l2 fun h' he => ?_
 have S1 : Step o.P noF st s st { s with heap := h', toks := s.toks } := Step.grow I.si.hs fun b ob e => he b ob (Nat.ne_of_lt (Heap.lt_size e)) e
 have I1 := I.step S1
 have S1' := S1.weak (F := own c)
 exact px S1' (wpAny_mono (h _ ws I1 (rr.keep I.si.hs S1.kp)) (fun O O p => p.trans S1') fun O O p => p)
theorem yfe {s : Shared} {a : Addr} {xs : List V} {ds : List PyData} (H : Holds o.P st s.heap) (ha : st a = some (.lst xs)) (hd : V.pys xs = some ds) : ∃ as, Reads s.heap (.ref a) (.list ds) as := by
 obtain ⟨_, _, e1, rr⟩ := ybc (H a _ ha)
 obtain ⟨as, ra⟩ := rr.reads hd
 exact ⟨_, .list e1 rfl rfl (by simpa using ra)⟩
theorem yqx {a b : Addr} {xs ys : List V} {da db : List PyData} (ha : st a = some (.lst xs)) (hb : st b = some (.lst ys)) (h1 : V.pys xs = some da) (h2 : V.pys ys = some db) (la : (PyData.list da).canLay0 = true) (lb : (PyData.list db).canLay0 = true)
 (hd : min (PyData.list da).depth (PyData.list db).depth <= 30) (h : Q (.bool (!PyData.eqv (.list da) (.list db))) st) : CMP o k st .NotEq (.ptr a) (.ptr b) Q X := fun s va vb S ra rb => by
 cases ra; cases rb
 obtain ⟨_, r1⟩ := yfe S.hs ha h1
 obtain ⟨_, r2⟩ := yfe S.hs hb h2
 exact SeqAt.compareNe_reads r1 r2 la lb (yd6 S.ok hd) (ybn S (.bool _) h)
theorem yq1 {a b : Addr} {xs ys : List V} {da db : List PyData} (ha : st a = some (.lst xs)) (hb : st b = some (.lst ys)) (h1 : V.pys xs = some da) (h2 : V.pys ys = some db) (la : (PyData.list da).canLay0 = true) (lb : (PyData.list db).canLay0 = true)
 (hd : min (PyData.list da).depth (PyData.list db).depth <= 30) (h : Q (.bool (PyData.eqv (.list da) (.list db))) st) : CMP o k st .Eq (.ptr a) (.ptr b) Q X := fun s va vb S ra rb => by
 cases ra; cases rb
 obtain ⟨_, r1⟩ := yfe S.hs ha h1
 obtain ⟨_, r2⟩ := yfe S.hs hb h2
 exact SeqAt.compareEq_reads r1 r2 la lb (yd6 S.ok hd) (ybn S (.bool _) h)
theorem ev_dict0 {pos : Pos} (h : ∀ a, st a = none -> Q (.ptr a) (st.set a (.sd []))) : EV o c loc st (.Dict [] [] pos) Q X := fun s I =>
 wpAny_Dict_empty ⟨.ptr _, _, .ptr _, Step.alloc I.si.hs _ (.sd []) rfl (.sd .nil) s.toks, h _ (ybo I.si.hs)⟩
theorem yei {C fI : Addr} {as : List V} (hm : makesIn o.K C = true) (hi : findIn o.K (.ref C) "__init__" = some (some (.ref fI))) (hf : isFn o.K (.ref fI) = true) (hn : 1 <= k.n)
 (h : ∀ A' x dx, A'.frames = k.A.frames -> st dx = none -> yq7 o ⟨A', k.fs, k.n - 1⟩ (st.set dx (.sd [])) (.ref fI) (.obj x C dx :: as) (fun v st' => v = .none /\ Q (.obj x C dx) st') X) : yq7 o k st (.ref C) as Q X := fun s vs S r => by
 obtain ⟨hp, g, d, t, os⟩ := s
 refine make_core (makes_of S.wd.k hm) (looks_findIn S.wd.k hi) (fun self => bind_fn S.wd.k self (beq_iff_eq.mp hf)) (.inl rfl) ?_
 have eF : ∀ x : Option (List Env), pushEnvs (Code.envs (.builtin "type.__call__" ⟨.ref C :: vs, []⟩)) x = x := fun x => rfl
 have eW : Code.weight (.builtin "type.__call__" ⟨.ref C :: vs, []⟩) = 1 := by rfl
 have eU : Code.cUnits (.builtin "type.__call__" ⟨.ref C :: vs, []⟩) = 1 := by rfl
 have hA : KxOk ⟨k.A.under (.builtin "type.__call__" ⟨.ref C :: vs, []⟩), k.fs, k.n - 1⟩ := by
  have h1 := S.ok.depth; have h2 := S.ok.units
  refine ⟨?_, ?_, ?_, S.ok.handled⟩
  . exact (eF _).trans S.ok.fr
  . show k.A.depth + Code.weight (.builtin "type.__call__" ⟨.ref C :: vs, []⟩) + (k.n - 1) < _
    rw [eW]; (first | lia | omega)
  . show k.A.units + Code.cUnits (.builtin "type.__call__" ⟨.ref C :: vs, []⟩) + 5 * (k.n - 1) + 40 < _
    rw [eU]; (first | lia | omega)
 have Sd : Step o.P noF st ⟨hp, g, d, t, os⟩ (st.set hp.objs.size (.sd [])) ⟨hp.push emptyDict, g, d, t, os⟩ := Step.alloc (s := ⟨hp, g, d, t, os⟩) S.hs emptyDict (.sd []) rfl (.sd (n := 0) .nil) t
 have Si : Step o.P noF (st.set hp.objs.size (.sd [])) ⟨hp.push emptyDict, g, d, t, os⟩ (st.set hp.objs.size (.sd [])) ⟨(hp.push emptyDict).push (instObj C hp.objs.size), g, d, t, os⟩ := Step.push (s := ⟨hp.push emptyDict, g, d, t, os⟩) Sd.holds (instObj C hp.objs.size) t
 have S1 := Sd.trans Si
 have SI1 := S.step S1
 have hob : ((hp.push emptyDict).push (instObj C hp.objs.size)).get? (hp.objs.size + 1) = some (instObj C hp.objs.size) := by
  have := Heap.get?_push_size (hp.push emptyDict) (o := instObj C hp.objs.size) rfl
  rwa [Heap.size_push] at this
 have ro : VR ((hp.push emptyDict).push (instObj C hp.objs.size)) (.obj (hp.objs.size + 1) C hp.objs.size) (.ref (hp.objs.size + 1)) := .obj hob rfl rfl rfl
 have hsn : st hp.objs.size = none := ybo S.hs
 have eA : (k.A.under (.builtin "type.__call__" ⟨.ref C :: vs, []⟩)).frames = k.A.frames := eF _
 refine codeAny_mono (h _ (hp.objs.size + 1) hp.objs.size eA hsn _ (.ref (hp.objs.size + 1) :: vs) (SI1.of_depth hA SI1.fs) (.cons ro (r.keep S.hs S1.kp))) fun rr s' z => ?_
 rcases rr with e | (v | _ | _ | _)
 . exact PXg.trans (G := fun O => True) S1 (show PX o noF _ _ X e s' from z)
 all_goals first | exact z.elim | skip
 obtain ⟨rv, st', r1, S2, rfl, q⟩ := z
 cases r1
 exact ⟨rfl, .obj (hp.objs.size + 1) C hp.objs.size, st', ro.keep SI1.hs S2.kp, S1.trans S2, q⟩
end
end NN
end
section
open PySem PySem.W PyProof.Rows PySem.Calls Builtin Builtin.ObjectAttr
set_option maxRecDepth 100000
set_option linter.all false
namespace NN
noncomputable def excMro : List Value -> Bool
 | .ref _ :: r => excMro r
 | l => l == [.type "Exception", .type "BaseException", .type "object"]
section
variable {prog : Program} {w : World} {A : Around} {E : Value -> Shared -> Prop} {s : Shared} {K : Frag} {x C : Addr}
end
noncomputable def makesXIn (K : Frag) (C : Addr) : Bool := match K.lookup C with
 | some ⟨_, _, .cls cd, sl⟩ => !cd.abstract && !cd.hasDel && (sl.toList[4]?).join == some (.builtin "Exception.__new__") && !cd.mro.isEmpty && cd.mro.contains (.ref C) && excMro cd.mro &&
  specialIn K (.ref C) "__call__" == some (some (.builtin "type.__call__")) && instIn K (.ref C) (.type "type") == some true
 | _ => false
section
variable {prog : Program} {w : World} {A : Around} {K : Frag} {C : Addr} {R : Result -> Shared -> Prop} {h : Heap} {g : Array GenState} {d : Drawn} {t : Nat} {os : OsState}
end
section
variable {o : Wo} [W : WoOk o] {c : Cx} {k : Kx} {loc : yae} {st : St} {Q : V -> St -> Prop} {X : Exc -> St -> Prop} {QF : Fl -> yae -> St -> Prop} {QL : yae -> St -> Prop}
end
section
variable {o : Wo} [W : WoOk o] {c : Cx} {k : Kx} {loc : yae} {st : St} {Q : V -> St -> Prop} {X : Exc -> St -> Prop} {QF : Fl -> yae -> St -> Prop} {QL : yae -> St -> Prop}
end
section
variable {prog : Program} {w : World} {A : Around} {E : Value -> Shared -> Prop} {s : Shared} {K : Frag} {x C : Addr}
end
section
variable {M : Model} {A : Around} {E : Value -> Shared -> Prop} {s : Shared} {env : Env}
end
section
variable {o : Wo} [W : WoOk o] {c : Cx} {k : Kx} {loc : yae} {st : St} {Q : V -> St -> Prop} {X : Exc -> St -> Prop} {QF : Fl -> yae -> St -> Prop} {QL : yae -> St -> Prop}
theorem yrp {L : Addr} {h' : Heap} {s : Shared} (I : Inv o c loc st s) (hL : own c L) (sb : Heap.SameBut L s.heap h') (oo : ∀ ob, s.heap.get? L = some ob -> OOx h' L ob) (t : Nat) : Step o.P (own c) st s st { s with heap := h', toks := t } := by
 have K : KpD (fun b => st b ≠ none \/ own c b) s.heap h' := fun b ob hb hob => ⟨ob, (sb.2 b (by intro q; subst q; exact hb (.inr hL))).trans hob, .refl ob⟩
 refine ⟨fun a m e => ?_, fun a e => .inl e, fun b ob hf O hob => ⟨ob, (sb.2 b (by intro q; subst q; exact hf hL)).trans hob, .refl ob⟩, fun b ob hf hst hob => ?_, fun b e => ?_, rfl, rfl⟩
 . obtain ⟨ob, h1, h2⟩ := I.si.hs a m e
   have : a ≠ L := by intro q; subst q; rw [I.ost a hL] at e; cases e
   exact ⟨ob, (sb.2 a this).trans h1, h2.keepD (DOk.own I) K⟩
 . by_cases q : b = L
   . subst q; exact oo ob hob
   . exact ⟨ob, (sb.2 b q).trans hob, .refl ob⟩
 . by_cases q : b = L
   . subst q
     obtain ⟨ob, hob⟩ := Option.isSome_iff_exists.mp e
     obtain ⟨ob', h1, _⟩ := oo ob hob
     show (h'.get? b).isSome = true
     rw [h1]; rfl
   . show (h'.get? b).isSome = true
     rw [sb.2 b q]; exact e
end
section
variable {o : Wo} [W : WoOk o] {c : Cx} {k : Kx} {loc : yae} {st st₁ st' : St} {s s' : Shared} {Q : V -> St -> Prop} {X : Exc -> St -> Prop} {QF : Fl -> yae -> St -> Prop}
end
section
variable {o : Wo} [W : WoOk o] {c : Cx} {k : Kx} {loc : yae} {st st₁ st' : St} {s s' : Shared} {Q : V -> St -> Prop} {X : Exc -> St -> Prop} {QF : Fl -> yae -> St -> Prop}
end
theorem yae.set_set (l : yae) (x : Str) (a b : V) : (l.set x a).set x b = l.set x b := by
 funext y; unfold yae.set; split <;> rfl
noncomputable def ybd (cells : List (Str × Addr)) : List (Str × NameKind) -> List (Str × Addr) -> Option (List (Str × Addr))
 | [], acc => some acc
 | (n, k) :: r, acc => if k == .free then (match cells.lookup n with | some a => ybd cells r ((n, a) :: acc) | none => none) else ybd cells r acc
set_option tactic.hygienic true in
theorem yf9 {env : Env} : ∀ (names : List (Str × NameKind)) (acc cl : List (Str × Addr)), ybd env.cells names acc = some cl ->
 (forIn (m := Sem) names acc fun (x : Str × NameKind) cs => if x.2 == .free then do let a <- cellOf env x.1; pure (.yield ((x.1, a) :: cs)) else pure (.yield cs)) = pure cl
 | [], acc, cl, h => by cases h; rfl
 | (n, k) :: r, acc, cl, h => by
  unfold ybd at h
  rw [List.forIn_cons]
  split at h
  . rename_i hk
    split at h
    . rename_i a ha
      have : cellOf env n = pure a := by unfold cellOf; rw [ha]
      simp only [hk, if_true, this, pure_bind]
      exact yf9 r _ _ h
    . cases h
  . rename_i hk
    simp only [hk, if_false, pure_bind]
    exact yf9 r _ _ h
theorem yfp {scope : Scope} {env : Env} {cl : List (Str × Addr)} (h : ybd env.cells scope.names [] = some cl) : closureFor scope env = pure cl := by
 unfold closureFor
 have := yf9 scope.names [] cl h
 simp only [bind_pure]
 exact this
set_option tactic.hygienic true in
theorem yf8 {cells : List (Str × Addr)} : ∀ {names : List (Str × NameKind)} {acc cl : List (Str × Addr)}, ybd cells names acc = some cl -> ∀ n a, (n, a) ∈ cl -> (n, a) ∈ acc \/ (cells.lookup n = some a /\ ∃ k, (n, k) ∈ names)
 | [], acc, cl, h, n, a, m => by cases h; exact .inl m
 | (n', k) :: r, acc, cl, h, n, a, m => by
  unfold ybd at h
  split at h
  . split at h
    . rename_i b hb
      rcases yf8 h n a m with q | ⟨q, k', hk⟩
      . rcases List.mem_cons.mp q with e | q
        . cases e; exact .inr ⟨hb, _, .head _⟩
        . exact .inl q
      . exact .inr ⟨q, k', .tail _ hk⟩
    . cases h
  . rcases yf8 h n a m with q | ⟨q, k', hk⟩
    . exact .inl q
    . exact .inr ⟨q, k', .tail _ hk⟩
set_option tactic.hygienic true in
theorem yd4 {cells : List (Str × Addr)} (hp : cells.Pairwise fun x y => x.2 ≠ y.2) : ∀ {names : List (Str × NameKind)} {acc cl : List (Str × Addr)}, ybd cells names acc = some cl -> (names.map (·.1)).Nodup -> (∀ p ∈ acc, cells.lookup p.1 = some p.2 /\ p.1 ∉ names.map (·.1)) -> (acc.Pairwise fun x y => x.2 ≠ y.2) -> cl.Pairwise fun x y => x.2 ≠ y.2
 | [], acc, cl, h, _, _, ha => by cases h; exact ha
 | (n', k) :: r, acc, cl, h, nd, hacc, ha => by
  unfold ybd at h
  have nd' := List.nodup_cons.mp nd
  split at h
  . split at h
    . rename_i b hb
      refine yd4 hp h nd'.2 (fun p hp' => ?_) (List.pairwise_cons.mpr ⟨fun y hy e => ?_, ha⟩)
      . rcases List.mem_cons.mp hp' with rfl | hp'
        . exact ⟨hb, nd'.1⟩
        . exact ⟨(hacc p hp').1, fun q => (hacc p hp').2 (.tail _ q)⟩
      . have e : b = y.2 := e
        have := name_of_addr hp (mem_of_lookup hb) (e ▸ mem_of_lookup (hacc y hy).1)
        exact (hacc y hy).2 (this ▸ .head _)
    . cases h
  . exact yd4 hp h nd'.2 (fun p hp' => ⟨(hacc p hp').1, fun q => (hacc p hp').2 (.tail _ q)⟩) ha
noncomputable def yc5 (c : Cx) (scope : Scope) (cl : List (Str × Addr)) (C : Addr) : Cx := ⟨c.k, compEnvC scope cl C c.env⟩
noncomputable def yq9 (c : Cx) (scope : Scope) (cl : List (Str × Addr)) (loc : yae) : yae := fun y =>
 if ((relabel scope c.env).names.lookup y == some .cell || (relabel scope c.env).names.lookup y == some .free) && (cl.lookup y).isSome && (c.env.kindOf y == some .cell || c.env.kindOf y == some .free) && !(y == ("__classdict__" : Str)) then loc y else none
section
variable {o : Wo} [W : WoOk o] {c : Cx} {k : Kx} {loc : yae} {st st₁ st' : St} {s s₁ s' : Shared} {Q : V -> St -> Prop} {X : Exc -> St -> Prop}
set_option tactic.hygienic true in
theorem yds {A : Around} {x : Str} {v : V} {u : Value} {Q : Unit -> Shared -> Prop} {E : Value -> Shared -> Prop} (I : Inv o c loc st s) (r : VR s.heap v u) (hl : c.env.kindOf x = some .local)
 (h : ∀ h' t, Step o.P (fun b => b = c.env.locals) st s st { s with heap := h', toks := t } -> LocR c.env (loc.set x v) h' -> Q () { s with heap := h', toks := t }) :
 wpAny o.M A (storeName c.env x u) Q E s := by
 obtain ⟨m, hm, q⟩ := I.lc.ns
 have locne : ∀ (a : Addr) (w : Option Value), s.heap.IsCell a w -> a ≠ c.env.locals := fun a w ⟨ob, h1, h2⟩ e => by
  subst e
  obtain ⟨ob', es, ep, h3, h4, _⟩ := hm
  rw [h1] at h3; cases h3; rw [h2] at h4; cases h4
 rw [storeName_local hl (by rw [I.cx.kind]; rfl)]
 refine yge hm fun h' hn hs oo => ?_
 have S := yrp I (.inl rfl) hs oo (s.toks + 1)
 have S' : Step o.P (fun b => b = c.env.locals) st s st { s with heap := h', toks := s.toks + 1 } := ⟨S.holds, S.sub, fun b ob hb O hob => ⟨ob, (hs.2 b hb).trans hob, .refl ob⟩, fun b ob hb hst hob => S.own b ob (.inl hb) hst hob, S.mono, S.gens, S.os⟩
 have keep : ∀ {a : V} {w : Value}, VR s.heap a w -> VR h' a w := fun r => VR.stepF I S r
 refine h h' _ S' ⟨⟨_, hn, fun y a e => ?_⟩, fun y a e => ?_, I.lc.apart⟩
 . unfold yae.set at e
   split at e
   . rename_i hy; cases e; subst hy
     exact .inl ⟨hl, u, by simp, keep r⟩
   . rename_i hy
     rcases q y a e with ⟨b1, w, b2, b3⟩ | ⟨b1, b2, d, w, b3, b4, b5⟩
     . exact .inl ⟨b1, w, by simp [hy, b2], keep b3⟩
     . exact .inr ⟨b1, b2, d, w, b3, b4.sameBut hs (locne d _ b4), keep b5⟩
 . obtain ⟨w, hw⟩ := I.lc.cells y a e
   exact ⟨w, hw.sameBut hs (locne a _ hw)⟩
theorem Step.gone {F : Addr -> Prop} {it : Addr} {h' : Heap} {t : Nat} (x : Step o.P F st s st₁ s₁) (hn : st₁ it = none) (hfr : s.heap.get? it = none) (D : DOk (fun b => st₁ b ≠ none \/ b = it) s₁.heap) (hs : Heap.ExtBut it s₁.heap h') :
 Step o.P F st s st₁ { s₁ with heap := h', toks := t } := by
 have K : KpD (fun b => st₁ b ≠ none \/ b = it) s₁.heap h' := fun b ob hb hob => ⟨ob, hs b ob (fun q => hb (.inr q)) hob, .refl ob⟩
 have ne : ∀ {b ob}, s.heap.get? b = some ob -> b ≠ it := fun h q => by rw [q, hfr] at h; cases h
 refine ⟨fun a m e => ?_, x.sub, fun b ob hb hst hob => ?_, fun b ob hb hst hob => ?_, fun b hb => ?_, x.gens, x.os⟩
 . obtain ⟨ob, h1, h2⟩ := x.holds a m e
   have : a ≠ it := by intro q; subst q; rw [hn] at e; cases e
   exact ⟨ob, hs a ob this h1, h2.keepD D K⟩
 . obtain ⟨o', h1, h2⟩ := x.ext b ob hb hst hob
   exact ⟨o', hs _ _ (ne hob) h1, h2⟩
 . obtain ⟨o', h1, h2⟩ := x.own b ob hb hst hob
   exact ⟨o', hs _ _ (ne hob) h1, h2⟩
 . obtain ⟨ob, hob⟩ := Option.isSome_iff_exists.mp hb
   obtain ⟨o', ho'⟩ := Option.isSome_iff_exists.mp (x.mono b hb)
   show (h'.get? b).isSome = true
   rw [hs _ _ (ne hob) ho']; rfl
theorem yex : ∀ (names : List (Str × NameKind)) (n : Nat) (acc : List (Str × Addr)), (∀ y ∈ names, (y.2 == NameKind.cell) = false) -> cellsFrom n names acc = acc
 | [], _, _, _ => rfl
 | (m, k) :: r, n, acc, h => by
  have := h (m, k) (.head _)
  unfold cellsFrom
  rw [this]
  exact yex r n acc fun y hy => h y (.tail _ hy)
theorem yen : ∀ (names : List (Str × NameKind)) (h : Heap), (∀ y ∈ names, (y.2 == NameKind.cell) = false) -> pushCells h names = h
 | [], _, _ => rfl
 | (m, k) :: r, h, hh => by
  have := hh (m, k) (.head _)
  unfold pushCells
  rw [this]
  exact yen r h fun y hy => hh y (.tail _ hy)
end
theorem St.set_set (st : St) (a : Addr) (m n : MO) : (st.set a m).set a n = st.set a n := by
 funext b; unfold St.set; split <;> rfl
section
variable {o : Wo} [W : WoOk o] {c : Cx} {k : Kx} {loc : yae} {st : St} {Q : V -> St -> Prop} {X : Exc -> St -> Prop}
noncomputable def tests (ifs : List Expr) (env : Env) : Sem Bool := forIn ifs true fun c r => if r = true then do let ok <- isTrue c env (eval c env); pure (ForInStep.yield ok) else pure (ForInStep.yield r)
noncomputable def CTest (o : Wo) (c : Cx) (loc : yae) (elt : Expr) (D : Addr) (i : Nat) (ys : List V) (J : Nat -> List V -> St -> Prop) : Bool -> St -> Prop := fun b st1 =>
 if b then EV o c loc st1 elt (fun y st'' => ∃ st₃, st'' = st₃.set D (.lst ys) /\ st₃ D = none /\ J (i + 1) (ys ++ [y]) st₃) (fun O O => False) else ∃ st₃, st1 = st₃.set D (.lst ys) /\ st₃ D = none /\ J (i + 1) ys st₃
def CT (o : Wo) (c : Cx) (loc : yae) (elt : Expr) (ifs : List Expr) (x : Str) (scope : Scope) (cl : List (Str × Addr)) (xs : List V) (J : Nat -> List V -> St -> Prop) : Prop :=
 ∀ i v ys st' D C s, xs[i]? = some v -> J i ys st' -> st' D = none -> Inv o (yc5 c scope cl C) ((yq9 c scope cl loc).set x v) (st'.set D (.lst ys)) s ->
  wpAny o.M c.k.A (tests ifs (yc5 c scope cl C).env) (PB o (st'.set D (.lst ys)) s (CTest o (yc5 c scope cl C) ((yq9 c scope cl loc).set x v) elt D i ys J)) (fun O O => False) s
theorem yp0 {M : Model} {A : Around} {scope : Scope} {cl : List (Str × Addr)} {env : Env} {Q : Env -> Shared -> Prop} {E : Value -> Shared -> Prop} {s : Shared} (hcell : ∀ y ∈ scope.names, (y.2 == NameKind.cell) = false)
 (h : Q { scope, locals := s.heap.objs.size, globals := env.globals, cells := cl, qual := env.qual, func := none, code := env.code, frame := env.frame, builtins := env.builtins } { s with heap := s.heap.push { cls := .type "dict", data := .dict #[] } }) :
 wpAny M A (newFunctionEnv scope env.globals cl [] env.qual none .none (some env)) Q E s := by
 refine wpAny_bind (wpAny_alloc ?_)
 refine wpAny_bind (wpAny_layCells _ (fun name kind cells => by induction hkc : kind == NameKind.cell <;> simp [hkc]) _ _ _ _ ?_)
 rw [yex _ _ _ hcell, yen _ _ hcell]
 exact wpAny_bind (wpAny_pure (wpAny_pure h))
variable {it : Addr} {T : String} {P : Nat -> Heap -> Prop} {R : Heap -> Prop}
structure CI (o : Wo) (P : Nat -> Heap -> Prop) (R : Heap -> Prop) (st₀ : St) (s₀ : Shared) (c : Cx) (loc : yae) (st : St) (i : Nat) (s : Shared) : Prop where
 p : P i s.heap
 r : R s.heap
 s0 : Step o.P noF st₀ s₀ st s
 inv : Inv o c loc st s
theorem CI.step (K : IterOk o it T P R) {st₀ st₁ : St} {s₀ s s₁ : Shared} {i : Nat} (h : CI o P R st₀ s₀ c loc st i s) (S : Step o.P noF st s st₁ s₁) : CI o P R st₀ s₀ c loc st₁ i s₁ :=
 ⟨K.keep S h.inv.si.hs (fun q => q) h.p, K.r (DOk.ofSt h.inv.si.hs) S.kp.d h.r, h.s0.trans S, h.inv.step S⟩
inductive CLoop (o : Wo) (P : Nat -> Heap -> Prop) (R : Heap -> Prop) (st₀ : St) (s₀ : Shared) (c : Cx) (loc : yae) (x : Str) (xs : List V) (D : Addr) (J : Nat -> List V -> St -> Prop) (n : Nat) (s : Shared) : Prop
 | mk {i : Nat} {ys : List V} {st' : St} {loc' : yae} : n = xs.length - i -> i <= xs.length -> ys.length <= i -> J i ys st' -> st' D = none -> CI o P R st₀ s₀ c loc' (st'.set D (.lst ys)) i s -> (∀ v, loc'.set x v = loc.set x v) -> CLoop o P R st₀ s₀ c loc x xs D J n s
set_option tactic.hygienic true in
theorem ypz {scope : Scope} {cl : List (Str × Addr)} {C : Addr} {s : Shared} (hkind : scope.kind = .function) (hnd : (scope.names.map (·.1)).Nodup) (hcl : ybd c.env.cells scope.names [] = some cl)
 (I : Inv o c loc st s) (fC : OwX s.heap C) {m0 : Str -> Option Value} (nsC : s.heap.Ns C m0) (Cst : st C = none) (Cad : ¬ o.ad C) : Inv o (yc5 c scope cl C) (yq9 c scope cl loc) st s := by
 have mem : ∀ {n a}, (n, a) ∈ cl -> c.env.cells.lookup n = some a := fun {n a} hm => (yf8 hcl n a hm).elim (fun q => nomatch q) And.left
 refine ⟨⟨hkind, I.cx.glob, I.cx.blt⟩, I.si, ⟨⟨m0, nsC, fun y v e => ?_⟩, fun y a e => I.lc.cells y a (mem (mem_of_lookup e)), yd4 I.lc.apart hcl hnd (fun O h => nomatch h) .nil⟩, ⟨fun b hb => hb.elim (fun q => q ▸ fC) fun ⟨y, hb⟩ => I.ow.ex b (.inr ⟨y, mem_of_lookup (mem hb)⟩)⟩, fun b hb => hb.elim (fun q => q ▸ Cst) fun ⟨y, hb⟩ => I.ost b (.inr ⟨y, mem_of_lookup (mem hb)⟩), fun b hb => hb.elim (fun q => q ▸ Cad) fun ⟨y, hb⟩ => I.oad b (.inr ⟨y, mem_of_lookup (mem hb)⟩)⟩
 unfold yq9 at e
 split at e
 . rename_i hc
   have hc := Bool.and_eq_true_iff.mp hc
   have hd := Bool.and_eq_true_iff.mp hc.1
   have he := Bool.and_eq_true_iff.mp hd.1
   obtain ⟨a', ha'⟩ := Option.isSome_iff_exists.mp he.2
   obtain ⟨m, hm, q⟩ := I.lc.ns
   rcases q y v e with ⟨k1, _⟩ | ⟨k1, k2, a, u, k3, k4, k5⟩
   . have c3 := hd.2
     rw [k1] at c3; cases c3
   . have e2 : a' = a := Option.some.inj ((mem (mem_of_lookup ha')).symm.trans k3)
     exact .inr ⟨(Bool.or_eq_true_iff.mp he.1).imp beq_iff_eq.mp beq_iff_eq.mp, by simpa using hc.2, a', u, ha', e2 ▸ k4, k5⟩
 . cases e
theorem ite_ff {P Q : Prop} (h : Q) : if false = true then P else Q := h
theorem ite_tt {P Q : Prop} (h : P) : if true = true then P else Q := h
theorem CI.turn (K : IterOk o it T P R) {st₀ st : St} {s₀ s s₁ s₂ : Shared} {i : Nat} {loc₂ : yae} (hfresh : s₀.heap.get? it = none) (Cn0 : s₀.heap.get? c.env.locals = none) (h : CI o P R st₀ s₀ c loc st i s)
 (S1 : Step o.P (fun b => b = it) st s st s₁) (hp : P (i + 1) s₁.heap) (I1 : Inv o c loc st s₁) (S2 : Step o.P (fun b => b = c.env.locals) st s₁ st s₂) (L2 : LocR c.env loc₂ s₂.heap) : CI o P R st₀ s₀ c loc₂ st (i + 1) s₂ := by
 have S2o : Step o.P (own c) st s₁ st s₂ := S2.wider fun b hb => .inl hb
 have ne : ¬ it = c.env.locals := fun q => by
  obtain ⟨ob, T', e1, _, e3⟩ := I1.ow.ex c.env.locals (.inl rfl)
  obtain ⟨ob', vs, f1, _, f3⟩ := K.ex _ _ hp
  rw [<- q, f1] at e1; cases e1
  rcases e3 with ⟨_, _, e3⟩ | ⟨_, e3⟩ <;> (rw [f3] at e3; cases e3)
 exact ⟨K.keep S2 I1.si.hs ne hp, K.r (DOk.own I1) S2o.kpd (K.r (DOk.free h.inv.si.hs fun a (q : a = it) => q ▸ K.free h.p) S1.kpd h.r), (h.s0.absorbF S1 fun a (q : a = it) => .inr (q ▸ hfresh)).absorbF S2 fun a (q : a = c.env.locals) => .inr (q ▸ Cn0), I1.stepF S2o L2⟩
inductive CEnd (o : Wo) (st₀ : St) (s₀ : Shared) (C : Addr) (st1 : St) (s1 : Shared) : Prop
 | mk (h0 : s₀.heap.get? C = none) (h1 : st1 C = none) (m : Str -> Option Value) (ns : s1.heap.Ns C m) (S : Step o.P noF st₀ s₀ st1 s1)
theorem ymi {P : Params} {st1 : St} {h : Heap} {C : Addr} {m : Str -> Option Value} (H : Holds P st1 h) (ns : h.Ns C m) : DOk (fun b => st1 b ≠ none \/ b = C) h := by
 obtain ⟨ob, es, ep, gC, n2, n3⟩ := ns
 refine ⟨fun a ws n hx q => ?_, fun a ob' vs hx hc hd q => ?_, fun a ob' hx hd O q => ?_⟩
 . rcases q with q | rfl
   . exact q (yd7 H hx)
   . have := Option.some.inj (gC.symm.trans hx); subst this; cases n2
 . rcases q with q | rfl
   . exact q (ycy H hx hc hd)
   . rw [gC] at hx; cases hx; rw [n2] at hd; cases hd
 . rcases q with q | rfl
   . exact q (ydb H hx hd)
   . rw [gC] at hx; cases hx; rw [n2] at hd; cases hd
theorem comp_end (K : IterOk o it T P R) {st₀ st : St} {s₀ s : Shared} {i : Nat} (hfresh : s₀.heap.get? it = none) (Cn0 : s₀.heap.get? c.env.locals = none) (h : CI o P R st₀ s₀ c loc st i s) {h' : Heap} (he : Heap.ExtBut it s.heap h') : CEnd o st₀ s₀ c.env.locals st { s with heap := h' } := by
 obtain ⟨m, ⟨ob, es, ep, n1, n2, n3⟩, _⟩ := h.inv.lc.ns
 have Cit : ¬ c.env.locals = it := fun q => by
  obtain ⟨ob', vs, f1, f2, f3⟩ := K.ex _ _ h.p
  rw [q, f1] at n1; cases n1
  rw [f3] at n2; cases n2
 have fr := K.free h.p
 exact ⟨Cn0, h.inv.ost _ (.inl rfl), m, ⟨ob, es, ep, he _ ob Cit n1, n2, n3⟩, h.s0.gone (t := s.toks) (fr.stn h.inv.si.hs) hfresh (DOk.free h.inv.si.hs fun a (q : a = it) => q ▸ fr) he⟩
set_option tactic.hygienic true in
theorem ytj (K : IterOk o it T P R) {elt iter : Expr} {ifs : List Expr} {x : Str} {px pos : Pos} {scope : Scope} {cl : List (Str × Addr)} {xs : List V} {Ast : St -> Prop} {J : Nat -> List V -> St -> Prop} {st₀ : St} {s₀ s : Shared} {C D : Addr} {E : Value -> Shared -> Prop} {use : Option (Value -> Sem Unit)} {PQ : Value -> Shared -> Prop}
 (hfresh : s₀.heap.get? it = none) (Cn0 : s₀.heap.get? C = none) (hx : scope.names.lookup x = some .local) (hz : xs.length <= sizeLine)
 (hA : ∀ i ys st' D, J i ys st' -> st' D = none -> Ast (st'.set D (.lst ys)))
 (hItem : ∀ {E : Value -> Shared -> Prop} i v st' (s : Shared) Q, xs[i]? = some v -> Ast st' -> SI o c.k st' s -> R s.heap -> P i s.heap -> (∀ h' va t, P (i + 1) h' -> Heap.SameBut it s.heap h' -> VR s.heap v va -> Q (some va) { s with heap := h', toks := t }) -> wpAny o.M c.k.A (pyNext (.ref it)) Q E s)
 (hEnd : ∀ {E : Value -> Shared -> Prop} st' (s : Shared) Q, Ast st' -> SI o c.k st' s -> R s.heap -> P xs.length s.heap -> (∀ h', Heap.ExtBut it s.heap h' -> Q none { s with heap := h' }) -> wpAny o.M c.k.A (pyNext (.ref it)) Q E s)
 (turn : CT o c loc elt ifs x scope cl xs J)
 (fin : ∀ ys st' D, J xs.length ys st' -> ys.length <= xs.length -> st' D = none -> Q (.ptr D) (st'.set D (.lst ys)))
 (hu : ∀ D C st1 s1, CEnd o st₀ s₀ C st1 s1 -> Q (.ptr D) st1 -> compPost o.M c.k.A E use PQ (.ref D) C (.ok .next) s1)
 (h : CLoop o P R st₀ s₀ (yc5 c scope cl C) (yq9 c scope cl loc) x xs D J xs.length s) :
 codeAny o.M c.k.A (.compLoop (.ListComp elt [⟨.Name x px, iter, ifs, 0⟩] scope pos) 0 (.ref it) (.ref D) (compEnvC scope cl C c.env)) (compPost o.M c.k.A E use PQ (.ref D) C) s := by
 refine codeAny_compLoop_tests (CLoop o P R st₀ s₀ (yc5 c scope cl C) (yq9 c scope cl loc) x xs D J) (fun n s' h => ?_) xs.length h
 obtain ⟨hn, hi, hy, hJ, hDs, ci, hl⟩ := h
 rename_i i ys st' loc'
 subst hn
 induction hv : xs[i]? with
 | none =>
  have hil : i = xs.length := Nat.le_antisymm hi (List.getElem?_eq_none_iff.mp hv)
  refine hEnd _ s' _ (hA _ _ _ _ hJ hDs) ci.inv.si ci.r (hil ▸ ci.p) fun h' he => hu D _ _ _ (comp_end K hfresh Cn0 ci he) (fin ys st' D (hil ▸ hJ) (hil ▸ hy) hDs)
 | some v =>
  have hlt : i < xs.length := (List.getElem?_eq_some_iff.mp hv).1
  refine hItem i v _ s' _ hv (hA _ _ _ _ hJ hDs) ci.inv.si ci.r ci.p fun h' va t hp' hsb rv => ?_
  have S1 := K.stepI (t := t) ci.inv.si.hs ci.p hp' hsb
  have fr' : ∀ a, a = it -> FreeRec o s'.heap a := fun a (q : a = it) => q ▸ K.free ci.p
  have I1 := ci.inv.stepG fr' S1
  refine wpAny_bind (m := standAt px) (wpAny_standAt (wpAny_bindName (yds I1 (VR.stepG ci.inv.si.hs fr' S1 rv) (lookup_relabel_local hx) fun h2 t2 S2 L2 => ?_)))
  have c2 := ci.turn K hfresh Cn0 S1 hp' I1 S2 L2
  refine wpAny_mono (turn i v ys st' D C _ hv hJ hDs (hl v ▸ c2.inv)) (fun bv s3 p => ?_) fun O O p => p.elim
  obtain ⟨st1, S3, q3⟩ := p
  have c3 := c2.step K S3
  induction bv with
  | false =>
   obtain ⟨st₃, rfl, hD3, hJ3⟩ := q3
   exact ite_ff ⟨_, Nat.sub_lt_sub_left hlt (Nat.lt_succ_self i), .mk rfl hlt (Nat.le_succ_of_le hy) hJ3 hD3 c3 fun u => yae.set_set _ _ _ _ |>.trans (hl u)⟩
  | true =>
   refine ite_tt (wpAny_mono ((show EV o (yc5 c scope cl C) _ st1 elt _ _ from q3) _ (hl v ▸ c3.inv)) (fun yv s4 p => ?_) fun O O p => ?_)
   . obtain ⟨y, st'', ry, S4, st₃, rfl, hD4, hJ4⟩ := p
     have c4 := c3.step K S4
     refine wpAny_mono (yaq (o := o) (k := c.k) (Q := fun O stt => stt = (st₃.set D (.lst ys)).set D (.lst (ys ++ [y]))) (X := fun O O => False) (St.set_same ..) (Nat.le_trans hy (Nat.le_trans hi hz)) rfl s4 [.ref D, yv] c4.inv.si (.cons (.ptr D) (.cons ry .nil))) (fun O s5 p => ?_) fun _ _ ⟨_, _, _, _, _, _, _, q⟩ => q.elim
     obtain ⟨_, stt, _, S5, e5⟩ := p
     exact ⟨_, Nat.sub_lt_sub_left hlt (Nat.lt_succ_self i), .mk rfl hlt (by rw [List.length_append]; exact Nat.succ_le_succ hy) hJ4 hD4 (c4.step K (e5.trans (St.set_set ..) ▸ S5)) fun u => yae.set_set _ _ _ _ |>.trans (hl u)⟩
   . obtain ⟨_, _, _, _, _, _, _, q⟩ := p
     exact q.elim
theorem yif {elt iter : Expr} {ifs : List Expr} {x : Str} {px pos : Pos} {scope : Scope} {cl : List (Str × Addr)} {it : Addr} {xs : List V} {T : String} {P : Nat -> Heap -> Prop} {R : Heap -> Prop} {Ast : St -> Prop} {J : Nat -> List V -> St -> Prop} {st₀ : St} {s₀ s : Shared} {E : Value -> Shared -> Prop} {use : Option (Value -> Sem Unit)} {PQ : Value -> Shared -> Prop}
 (hkind : scope.kind = .function) (hcell : ∀ y ∈ scope.names, (y.2 == NameKind.cell) = false) (hx : scope.names.lookup x = some .local) (hnd : (scope.names.map (·.1)).Nodup) (hcl : ybd c.env.cells scope.names [] = some cl) (hz : xs.length <= sizeLine)
 (hfresh : s₀.heap.get? it = none) (H₀ : SI o c.k st₀ s₀) (S : Step o.P noF st₀ s₀ st s) (I : Inv o c loc st s)
 (hP : ∀ i h h', P i h -> h'.get? it = h.get? it -> P i h')
 (hPex : ∀ i h, P i h -> ∃ ob vs, h.get? it = some ob /\ ob.cls = .type T /\ ob.data = .fields vs) (hTf : T ≠ "frame") (hTr : T ≠ "range")
 (hR : ∀ {D : Addr -> Prop} {h h' : Heap}, DOk D h -> KpD D h h' -> R h -> R h')
 (hA : ∀ i ys st' D, J i ys st' -> st' D = none -> Ast (st'.set D (.lst ys)))
 (hItem : ∀ {E : Value -> Shared -> Prop} i v st' (s : Shared) Q, xs[i]? = some v -> Ast st' -> SI o c.k st' s -> R s.heap -> P i s.heap -> (∀ h' va t, P (i + 1) h' -> Heap.SameBut it s.heap h' -> VR s.heap v va -> Q (some va) { s with heap := h', toks := t }) -> wpAny o.M c.k.A (pyNext (.ref it)) Q E s)
 (hEnd : ∀ {E : Value -> Shared -> Prop} st' (s : Shared) Q, Ast st' -> SI o c.k st' s -> R s.heap -> P xs.length s.heap -> (∀ h', Heap.ExtBut it s.heap h' -> Q none { s with heap := h' }) -> wpAny o.M c.k.A (pyNext (.ref it)) Q E s)
 (hself : ∀ {E : Value -> Shared -> Prop} (s : Shared) Q, P 0 s.heap -> Q (.ref it) s -> wpAny o.M c.k.A (pyIter (.ref it)) Q E s)
 (h0 : P 0 s.heap) (hR0 : R s.heap) (hJ0 : J 0 [] st)
 (turn : CT o c loc elt ifs x scope cl xs J)
 (fin : ∀ ys st' D, J xs.length ys st' -> ys.length <= xs.length -> st' D = none -> Q (.ptr D) (st'.set D (.lst ys)))
 (hu : ∀ D C st1 s1, CEnd o st₀ s₀ C st1 s1 -> Q (.ptr D) st1 -> compPost o.M c.k.A E use PQ (.ref D) C (.ok .next) s1) :
 wpAny o.M c.k.A (newList []) (fun acc s₃ => wpAny o.M c.k.A (newFunctionEnv scope c.env.globals cl [] c.env.qual none .none (some c.env)) (fun cenv s₄ =>
  codeAny o.M c.k.A (.compStart (.ListComp elt [⟨.Name x px, iter, ifs, 0⟩] scope pos) 0 (.ref it) acc { cenv with scope := relabel scope c.env }) (compPost o.M c.k.A E use PQ acc cenv.locals) s₄) E s₃) E s := by
 have K : IterOk o it T P R := ⟨fun q => nsome (In.ex H₀.wd q) hfresh, hP, hPex, hTf, hTr, hR⟩
 refine wpAny_newObj_type (yp0 hcell ?_)
 have ID := (CI.mk h0 hR0 S I).step K (Step.alloc I.si.hs { cls := .type "list", dict := none, data := .seq ([] : List Value).toArray } (.lst []) rfl (.lst (ws := []) .nil) s.toks)
 have IC := ID.step K (Step.push ID.inv.si.hs { cls := .type "dict", data := .dict #[] } s.toks)
 have Cn := Heap.get?_none_of_le (h := s.heap.push { cls := .type "list", dict := none, data := .seq ([] : List Value).toArray }) (Nat.le_refl _)
 have I0 := ypz hkind hnd hcl IC.inv ⟨_, _, Heap.get?_push_size _ rfl, rfl, .inl ⟨_, _, rfl⟩⟩ (Heap.Ns.new _ _) (ybo ID.inv.si.hs) fun q => nsome (In.ex ID.inv.si.wd q) Cn
 have loop := ytj K hfresh (ya5 ID.s0 Cn) hx hz hA hItem hEnd turn fin hu (E := E) (iter := iter) (px := px) (pos := pos) (.mk rfl (Nat.zero_le _) (Nat.le_refl _) hJ0 (ybo I.si.hs) ⟨IC.p, IC.r, IC.s0, I0⟩ fun O => rfl)
 exact codeAny_compStart_list loop (hself _ _ IC.p loop)
noncomputable def ybt (scope : Scope) (x : Str) : Bool := scope.kind == .function && scope.names.all (fun y => !(y.2 == NameKind.cell)) && scope.names.lookup x == some .local && decide ((scope.names.map (·.1)).Nodup)
def COMPg (o : Wo) (c : Cx) (loc : yae) (st : St) (v : V) (elt iter : Expr) (ifs : List Expr) (x : Str) (px : Pos) (scope : Scope) (pos : Pos) (cl : List (Str × Addr)) (Q : V -> St -> Prop) : Prop :=
 ∀ st₀ s₀ s va E use PQ, (∀ D C st1 s1, CEnd o st₀ s₀ C st1 s1 -> Q (.ptr D) st1 -> compPost o.M c.k.A E use PQ (.ref D) C (.ok .next) s1) -> SI o c.k st₀ s₀ -> Step o.P noF st₀ s₀ st s -> Inv o c loc st s -> VR s.heap v va -> wpAny o.M c.k.A (pyIter va) (fun it s₂ => wpAny o.M c.k.A (newList []) (fun acc s₃ => wpAny o.M c.k.A (newFunctionEnv scope c.env.globals cl [] c.env.qual none .none (some c.env)) (fun cenv s₄ =>
  codeAny o.M c.k.A (.compStart (.ListComp elt [⟨.Name x px, iter, ifs, 0⟩] scope pos) 0 it acc { cenv with scope := relabel scope c.env }) (compPost o.M c.k.A E use PQ acc cenv.locals) s₄) E s₃) E s₂) E s
theorem ev_compg {elt iter : Expr} {ifs : List Expr} {x : Str} {px pos : Pos} {scope : Scope} (cl : List (Str × Addr)) (hs : ∀ env y, foldedSetIterable iter env y = pure y) (hok : ybt scope x = true) (hcl : ybd c.env.cells scope.names [] = some cl)
 (h : EV o c loc st iter (fun v st₁ => COMPg o c loc st₁ v elt iter ifs x px scope pos cl Q) X) : EV o c loc st (.ListComp elt [⟨.Name x px, iter, ifs, 0⟩] scope pos) Q X := fun s I => by
 unfold ybt at hok
 simp only [Bool.and_eq_true, beq_iff_eq, decide_eq_true_eq, List.all_eq_true] at hok
 obtain ⟨⟨⟨k1, k2⟩, k3⟩, k4⟩ := hok
 rw [eval_ListComp]
 have hloc : ∀ y ∈ scope.names, y.2 = .local -> scope.names.lookup y.1 = some .local := fun y hy hl => by
  have key : ∀ {l : List (Str × NameKind)}, (l.map (·.1)).Nodup -> ∀ y ∈ l, l.lookup y.1 = some y.2 := by
   intro l
   induction l with
   | nil => intro _ y h; cases h
   | cons p r ih =>
    intro nd y hy
    have nd' := List.nodup_cons.mp nd
    rw [List.lookup_cons]
    rcases List.mem_cons.mp hy with rfl | hy
    . simp
    . have : (y.1 == p.1) = false := beq_eq_false_iff_ne.mpr fun q => nd'.1 (by show p.1 ∈ _; rw [<- q]; exact List.mem_map_of_mem hy)
      rw [this]; exact ih nd'.2 y hy
  rw [key k4 y hy, hl]
 refine wpAny_comprehension_free (use := none) rfl (hs _) (yfp hcl) k1 hloc ?_
 show wpAny o.M c.k.A (eval iter c.env) _ _ s
 exact h.use I fun v st₁ va s₁ q S I₁ r => q st s s₁ va _ _ _ (fun D C st1 s1 ⟨e0, e1, m, ns, S1⟩ hq => ⟨m, ns, fun h' hsb => ⟨.ptr D, st1, .ptr D, S1.gone (t := s1.toks) e1 e0 (ymi S1.holds ns) hsb.extBut, hq⟩⟩) I.si S I₁ r
noncomputable abbrev ymx (o : Wo) (c : Cx) (loc : yae) (st : St) (v : V) (elt iter : Expr) (x : Str) (px : Pos) (scope : Scope) (pos : Pos) (cl : List (Str × Addr)) (Q : V -> St -> Prop) : Prop := COMPg o c loc st v elt iter [] x px scope pos cl Q
theorem ye4 {elt iter : Expr} {x : Str} {px pos : Pos} {scope : Scope} (cl : List (Str × Addr)) (hs : ∀ env y, foldedSetIterable iter env y = pure y) (hok : ybt scope x = true) (hcl : ybd c.env.cells scope.names [] = some cl)
 (h : EV o c loc st iter (fun v st₁ => ymx o c loc st₁ v elt iter x px scope pos cl Q) X) : EV o c loc st (.ListComp elt [⟨.Name x px, iter, [], 0⟩] scope pos) Q X := ev_compg cl hs hok hcl h
theorem yc9 {scope : Scope} {x : Str} (hok : ybt scope x = true) : scope.kind = .function /\ (∀ y ∈ scope.names, (y.2 == NameKind.cell) = false) /\ scope.names.lookup x = some .local /\ (scope.names.map (·.1)).Nodup := by
 unfold ybt at hok
 simp only [Bool.and_eq_true, beq_iff_eq, decide_eq_true_eq, List.all_eq_true] at hok
 obtain ⟨⟨⟨k1, k2⟩, k3⟩, k4⟩ := hok
 exact ⟨k1, fun y hy => by simpa using k2 y hy, k3, k4⟩
def yty (o : Wo) (c : Cx) (loc : yae) (elt : Expr) (x : Str) (scope : Scope) (cl : List (Str × Addr)) (xs : List V) (J : Nat -> List V -> St -> Prop) : Prop :=
 ∀ i v ys st' D C, xs[i]? = some v -> J i ys st' -> st' D = none -> EV o (yc5 c scope cl C) ((yq9 c scope cl loc).set x v) (st'.set D (.lst ys)) elt (fun y st'' => ∃ st₃, st'' = st₃.set D (.lst ys) /\ st₃ D = none /\ J (i + 1) (ys ++ [y]) st₃) (fun O O => False)
theorem yty.ct {elt : Expr} {x : Str} {scope : Scope} {cl : List (Str × Addr)} {xs : List V} {J : Nat -> List V -> St -> Prop} (h : yty o c loc elt x scope cl xs J) : CT o c loc elt [] x scope cl xs (fun i ys st => J i ys st /\ ys.length = i) := fun i v ys st' D C s hx hj hD I => by
 refine wpAny_pure ⟨_, Step.refl I.si.hs, ?_⟩
 exact (h i v ys st' D C hx hj.1 hD).mono (fun y st'' ⟨st₃, e, hD3, hJ3⟩ => ⟨st₃, e, hD3, hJ3, by rw [List.length_append, hj.2]; rfl⟩) fun O O q => q
variable {elt iter : Expr} {x : Str} {px pos : Pos} {scope : Scope} {cl : List (Str × Addr)}
theorem yti {ifs : List Expr} {l : Addr} {xs : List V} (J : Nat -> List V -> St -> Prop) (hok : ybt scope x = true) (hcl : ybd c.env.cells scope.names [] = some cl) (hz : xs.length <= sizeLine) (hJ : ∀ i ys st', J i ys st' -> st' l = some (.lst xs)) (h0 : J 0 [] st)
 (turn : CT o c loc elt ifs x scope cl xs J) (fin : ∀ ys st' D, J xs.length ys st' -> ys.length <= xs.length -> st' D = none -> Q (.ptr D) (st'.set D (.lst ys))) : COMPg o c loc st (.ptr l) elt iter ifs x px scope pos cl Q := fun st₀ s₀ s va E use PQ hu H₀ S I r => by
 cases r
 obtain ⟨k1, k2, k3, k4⟩ := yc9 hok
 obtain ⟨ws, n, h1, rr⟩ := ybc (I.si.hs l _ (hJ _ _ _ h0))
 refine wpAny_pyIter_list ⟨_, h1, rfl, _, rfl⟩ ?_
 have S1 : Step o.P noF st s st { s with heap := s.heap.push { cls := .type "list_iterator", data := .fields #[.ref l, .int 0 0] } } := Step.push I.si.hs _ s.toks
 refine yif (T := "list_iterator") (xs := xs) (P := fun i h => h.IsListIter s.heap.objs.size l i) (R := fun O => True) (Ast := fun stx => stx l = some (.lst xs)) (J := J) k1 k2 k3 k4 hcl hz (ya5 S (Heap.get?_none_of_le (Nat.le_refl _))) H₀ (S.trans S1) (I.step S1)
  (fun i h h' ⟨ob, p1, p2⟩ e => ⟨ob, e.trans p1, p2⟩) (fun i h ⟨ob, p1, p2, p3⟩ => ⟨_, _, p1, p2, p3⟩) (by decide) (by decide) (fun O O O => trivial)
  (fun i ys st' D hj hD => (St.set_ne _ _ (fun q => by rw [<- q, hJ _ _ _ hj] at hD; cases hD)).trans (hJ _ _ _ hj)) ?_ ?_ (fun s' Q' hp hq => wpAny_pyIter_listiter hp hq) ⟨_, Heap.get?_push_size _ rfl, rfl, rfl⟩ trivial h0 turn fin hu
 . intro E i x st' s' Q' hx hj S' _ hp hq
   obtain ⟨ws', n', h1', rr'⟩ := ybc (S'.hs l _ hj)
   obtain ⟨v, hv, rv⟩ := rr'.get hx
   exact wpAny_pyNext_list_item hp ⟨_, h1', rfl, _, rfl⟩ (x := v) (by simpa using hv) fun h' hit hsb => hq h' v s'.toks hit hsb rv
 . intro E st' s' Q' hj S' _ hp hq
   obtain ⟨ws', n', h1', rr'⟩ := ybc (S'.hs l _ hj)
   exact wpAny_pyNext_list_end S'.ok.handled hp ⟨_, h1', rfl, _, rfl⟩ (by simp [rr'.length]) hq
theorem yth {l : Addr} {xs : List V} (J : Nat -> List V -> St -> Prop) (hok : ybt scope x = true) (hcl : ybd c.env.cells scope.names [] = some cl) (hz : xs.length <= sizeLine) (hJ : ∀ i ys st', J i ys st' -> st' l = some (.lst xs)) (h0 : J 0 [] st)
 (turn : yty o c loc elt x scope cl xs J) (fin : ∀ ys st' D, J xs.length ys st' -> ys.length = xs.length -> st' D = none -> Q (.ptr D) (st'.set D (.lst ys))) : ymx o c loc st (.ptr l) elt iter x px scope pos cl Q :=
 yti _ hok hcl hz (fun i ys st' h => hJ i ys st' h.1) ⟨h0, rfl⟩ turn.ct fun ys st' D hj O hD => fin ys st' D hj.1 hj.2 hD
theorem ymk {lo hi : Int} (J : Nat -> List V -> St -> Prop) (hb : -(2 ^ 62) <= lo /\ lo < 2 ^ 62 /\ -(2 ^ 62) <= hi /\ hi < 2 ^ 62) (hok : ybt scope x = true) (hcl : ybd c.env.cells scope.names [] = some cl) (hz : (hi - lo).toNat <= sizeLine) (h0 : J 0 [] st)
 (turn : yty o c loc elt x scope cl (rngV lo hi) J) (fin : ∀ ys st' D, J (hi - lo).toNat ys st' -> ys.length = (hi - lo).toNat -> st' D = none -> Q (.ptr D) (st'.set D (.lst ys))) : ymx o c loc st (.rng lo hi) elt iter x px scope pos cl Q := fun st₀ s₀ s va E use PQ hu H₀ S I r => by
 obtain ⟨k1, k2, k3, k4⟩ := yc9 hok
 cases r with
 | rng ht =>
 refine wpAny_pyIter_range ht (small_one hb.1 hb.2.1 hb.2.2.1 hb.2.2.2) ?_
 have hsz : Builtin.Range.rangeSize lo hi 1 = ((hi - lo).toNat : Int) := by rw [rangeSize_one]; split <;> (first | lia | omega)
 rw [hsz]
 have S1 : Step o.P noF st s st { s with heap := s.heap.push { cls := .type "range_iterator", data := .fields #[rawInt lo, rawInt ((hi - lo).toNat : Int), rawInt 1] } } := Step.push I.si.hs _ s.toks
 refine yif (T := "range_iterator") (xs := rngV lo hi) (P := fun i h => IsRangeIter h s.heap.objs.size (lo + (i : Nat)) (((hi - lo).toNat : Int) - (i : Nat)) 1) (R := fun h => True) (Ast := fun O => True) (J := fun i ys st => J i ys st /\ ys.length = i) k1 k2 k3 k4 hcl (by rw [ya8]; exact hz) (ya5 S (Heap.get?_none_of_le (Nat.le_refl _))) H₀ (S.trans S1) (I.step S1)
  (fun i h h' p e => e.trans p) (fun i h p => ⟨_, _, p, rfl, rfl⟩) (by decide) (by decide) (fun O O O => trivial) (fun O O O O O O => trivial) ?_ ?_ (fun s' Q' hp hq => wpAny_pyIter_rangeiter hp hq) (by
   have := Heap.get?_push_size s.heap (o := { cls := .type "range_iterator", data := .fields #[rawInt lo, rawInt ((hi - lo).toNat : Int), rawInt 1] }) rfl
   simpa using this)
  trivial ⟨h0, rfl⟩ turn.ct (by rw [ya8]; exact fun ys st' D hj O hD => fin ys st' D hj.1 hj.2 hD) hu
 . intro E i x st' s' Q' hx hj S' hR hp hq
   obtain ⟨rfl, hi'⟩ := yea hx
   refine wpAny_pyNext_range_item hp (by (first | lia | omega)) fun h' hit hsb => hq h' _ _ ?_ hsb (.int _ _)
   have e1 : lo + ((i + 1 : Nat) : Int) = lo + (i : Int) + 1 := by (first | lia | omega)
   have e2 : ((hi - lo).toNat : Int) - ((i + 1 : Nat) : Int) = ((hi - lo).toNat : Int) - (i : Int) - 1 := by (first | lia | omega)
   show IsRangeIter _ _ _ _ _
   rw [e1, e2]; exact hit
 . intro E st' s' Q' hj S' hR hp hq
   rw [ya8] at hp
   exact wpAny_pyNext_range_end S'.ok.handled hp (by (first | lia | omega)) hq
end
end NN
end
section
open PySem PySem.W PyProof.Rows PySem.Calls
set_option maxRecDepth 100000
set_option linter.all false
namespace NN
theorem St.le_none {st st' : St} (h : St.le st' st) {a : Addr} (q : st a = none) : st' a = none := (h a).elim id fun e => e.trans q
section
variable {o : Wo} [W : WoOk o] {c : Cx} {k : Kx} {loc : yae} {st st' : St} {Q : V -> St -> Prop} {X : Exc -> St -> Prop} {QF : Fl -> yae -> St -> Prop} {s : Shared}
theorem SI.older (hle : St.le st' st) (S : SI o k st s) : SI o k st' s := ⟨S.ok, S.wd, S.fs, fun a m e => by
 rcases hle a with q | q
 . rw [q] at e; cases e
 . exact S.hs a m (q ▸ e), fun a ha => St.le_none hle (S.sep a ha)⟩
theorem Inv.older (hle : St.le st' st) (I : Inv o c loc st s) : Inv o c loc st' s := ⟨I.cx, I.si.older hle, I.lc, I.ow, fun a ha => St.le_none hle (I.ost a ha), I.oad⟩
end
def KL (o : Wo) (l : Addr) (xs : List Int) : Prop := ∃ ws n, o.K.lookup l = some (yks ws n) /\ ∀ h, VRs h (xs.map V.int) ws
section
variable {o : Wo} [W : WoOk o] {c : Cx} {k : Kx} {loc : yae} {st : St} {Q : V -> St -> Prop} {X : Exc -> St -> Prop}
theorem slv_klst {l : Addr} {xs : List Int} {lo hi : Option Int} (hl : KL o l xs) (hz : xs.length <= sizeLine) (h : ∀ a, st a = none -> Q (.ptr a) (st.set a (.lst (yam (xs.map V.int) lo hi)))) : SLV o k st (.ptr l) lo hi Q X := fun s va sl vl vu S ra hs pl pu => by
 cases ra
 obtain ⟨ws, n, hk, rr⟩ := hl
 have e1 := S.wd.k l _ hk
 have rr := rr s.heap
 have hlen := rr.length
 rw [List.length_map] at hlen
 refine ⟨"list", _, ⟨_, e1, rfl⟩, list_getitem_lookup, wpAny_getItem_list_slice ⟨_, e1, rfl, _, rfl⟩ hs pl pu .none (by simp) ?_ (by rw [List.size_toArray, <- hlen]; exact hz)⟩
 rw [slicePick_plain]
 have e2 : (((ws.toArray).toList.drop (lo.elim 0 (clipAt ws.toArray.size))).take (hi.elim ws.toArray.size (clipAt ws.toArray.size) - lo.elim 0 (clipAt ws.toArray.size))) = yam ws lo hi := by
  simp [yam]
 rw [e2]
 have e3 : VRs s.heap (yam (xs.map V.int) lo hi) (yam ws lo hi) := by
  unfold yam
  rw [List.length_map, hlen]
  exact (rr.drop _).take _
 exact ⟨.ptr _, _, .ptr _, Step.alloc S.hs _ (.lst (yam (xs.map V.int) lo hi)) rfl (.lst e3) s.toks, h _ (ybo S.hs)⟩
end
section
variable {o : Wo} [W : WoOk o] {c : Cx} {k : Kx} {loc : yae} {st : St} {X : Exc -> St -> Prop} {QF : Fl -> yae -> St -> Prop}
end
class SmOk (o : Wo) : Prop where
 sm : ∃ ob, o.K.lookup sysModules = some ob
class inductive SK {K : Type} (h : Heap) : List (K × V) -> List (K × Value) -> Prop
 | nil : SK h [] []
 | cons {k x v l r} : VR h x v -> SK h l r -> SK h ((k, x) :: l) ((k, v) :: r)
noncomputable def yfa {K : Type} [DecidableEq K] (k : K) : List (K × V) -> Option V
 | [] => none
 | (k', y) :: r => if k' = k then some y else yfa k r
noncomputable def ygm {K : Type} [DecidableEq K] (k : K) (x : V) : List (K × V) -> List (K × V)
 | [] => [(k, x)]
 | (k', y) :: r => if k' = k then (k', x) :: r else (k', y) :: ygm k x r
section
variable {K : Type} [DecidableEq K] {h : Heap}
theorem SK.names {l : List (K × V)} {r : List (K × Value)} (x : SK h l r) : r.map (·.1) = l.map (·.1) := by
 induction x with
 | nil => rfl
 | cons _ _ ih => exact congrArg (List.cons _) ih
theorem SK.len {l : List (K × V)} {r : List (K × Value)} (x : SK h l r) : r.length = l.length := by
 induction x with
 | nil => rfl
 | cons _ _ ih => exact congrArg Nat.succ ih
theorem yqb {k : K} {v : Value} {r : List (K × Value)} : valueAt ((k, v) :: r) k = some v := by
 unfold valueAt; rw [List.find?_cons, decide_eq_true rfl]; rfl
theorem yje {k k' : K} {v : Value} {r : List (K × Value)} (q : k' ≠ k) : valueAt ((k', v) :: r) k = valueAt r k := by
 unfold valueAt; rw [List.find?_cons, decide_eq_false q]
theorem pgc_eq {k : K} {x : V} {r : List (K × V)} : yfa k ((k, x) :: r) = some x := if_pos rfl
theorem pgc_ne {k k' : K} {x : V} {r : List (K × V)} (q : k' ≠ k) : yfa k ((k', x) :: r) = yfa k r := if_neg q
theorem ppc_eq {k : K} {x y : V} {r : List (K × V)} : ygm k x ((k, y) :: r) = (k, x) :: r := if_pos rfl
theorem ppc_ne {k k' : K} {x y : V} {r : List (K × V)} (q : k' ≠ k) : ygm k x ((k', y) :: r) = (k', y) :: ygm k x r := if_neg q
set_option tactic.hygienic true in
theorem SK.get {k : K} {x : V} {l : List (K × V)} {r : List (K × Value)} (X : SK h l r) (e : yfa k l = some x) : ∃ v, valueAt r k = some v /\ VR h x v := by
 induction X with
 | nil => exact nomatch e
 | cons rv _ ih =>
  rename_i k' _ _ _ _ _
  by_cases q : k' = k
  . subst q
    exact ⟨_, yqb, Option.some.inj (pgc_eq.symm.trans e) ▸ rv⟩
  . obtain ⟨v', h1, h2⟩ := ih ((pgc_ne q).symm.trans e)
    exact ⟨v', (yje q).trans h1, h2⟩
set_option tactic.hygienic true in
theorem SK.miss {k : K} {l : List (K × V)} {r : List (K × Value)} (X : SK h l r) (e : yfa k l = none) : valueAt r k = none := by
 induction X with
 | nil => rfl
 | cons rv _ ih =>
  rename_i k' _ _ _ _ _
  by_cases q : k' = k
  . subst q
    exact nomatch pgc_eq.symm.trans e
  . exact (yje q).trans (ih ((pgc_ne q).symm.trans e))
theorem SK.keepV {h' : Heap} (Kp : KpV h h') {l : List (K × V)} {r : List (K × Value)} (x : SK h l r) : SK h' l r := by
 induction x with
 | nil => exact .nil
 | cons rv _ ih => exact .cons (rv.keepV Kp) ih
theorem yio {k' k : K} {v' v : Value} {r : List (K × Value)} (q : k' ≠ k) : stored ((k', v') :: r) k v = (k', v') :: stored r k v := by
 unfold stored
 have e : ((k', v') :: r).any (fun kv => decide (kv.1 = k)) = r.any (fun kv => decide (kv.1 = k)) := by rw [List.any_cons]; simp [q]
 rw [e]
 split
 . rw [List.map_cons, if_neg q]
 . rfl
set_option tactic.hygienic true in
theorem SK.put {k : K} {x : V} {v : Value} (rv : VR h x v) {l : List (K × V)} {r : List (K × Value)} (X : SK h l r) (nd : (l.map (·.1)).Nodup) : SK h (ygm k x l) (stored r k v) := by
 induction X with
 | nil => exact .cons rv .nil
 | cons rv' rr ih =>
  rename_i k' x' v' l r
  have nd := List.nodup_cons.mp nd
  by_cases q : k' = k
  . subst q
    have e : stored ((k', v') :: r) k' v = (k', v) :: r := by
     unfold stored
     rw [if_pos (by simp), List.map_cons, if_pos rfl, map_store_of_not_mem r k' v (by rw [rr.names]; exact nd.1)]
    rw [e, ppc_eq]; exact .cons rv rr
  . rw [yio q, ppc_ne q]; exact .cons rv' (ih nd.2)
end
theorem yhh (k : Str) : ∀ l : List (Str × V), ygl k l = yfa k l
 | [] => rfl
 | (k', y) :: r => by
  unfold ygl yfa
  rw [yhh k r]
  by_cases q : k' = k
  . rw [if_pos q, if_pos (beq_iff_eq.mpr q)]
  . rw [if_neg q, if_neg (fun e => q (beq_iff_eq.mp e))]
theorem yhd (k : Str) (x : V) : ∀ l : List (Str × V), yip k x l = ygm k x l
 | [] => rfl
 | (k', y) :: r => by
  unfold yip ygm
  rw [yhd k x r]
  by_cases q : k' = k
  . rw [if_pos q, if_pos (beq_iff_eq.mpr q)]
  . rw [if_neg q, if_neg (fun e => q (beq_iff_eq.mp e))]
section
variable {prog : Program} {w : World} {h : Heap}
theorem isS (x : Str) (t : Tok) : (strKind prog w).is x (.str x t) = true := by simp [PySem.strKind, Value.isStrOf]
theorem isN (x : Int) (t : Tok) : (intKind prog w).is x (.int x t) = true := by simp [PySem.intKind, Value.isInt]
theorem sk_of {l : List (Str × V)} {es : List DictEntry} (x : SEs w.params h l es) : ∃ kvs, SK h l kvs /\ Pairs (strKind prog w) es kvs /\ ∀ e ∈ es, ∃ k, (strKind prog w).is k e.key = true /\ e.hash = (strKind prog w).hash k := by
 induction x with
 | nil => exact ⟨[], .nil, .nil, fun O h => nomatch h⟩
 | cons rv _ ih =>
  obtain ⟨kvs, h1, h2, h3⟩ := ih
  exact ⟨(_, _) :: kvs, .cons rv h1, .cons (isS _ _) rfl h2, fun e he => (List.mem_cons.mp he).elim (fun q => q ▸ ⟨_, isS _ _, rfl⟩) (h3 e)⟩
theorem nk_of {l : List (Int × V)} {es : List DictEntry} (x : NEs h l es) : ∃ kvs, SK h l kvs /\ Pairs (intKind prog w) es kvs /\ ∀ e ∈ es, ∃ k, (intKind prog w).is k e.key = true /\ e.hash = (intKind prog w).hash k := by
 induction x with
 | nil => exact ⟨[], .nil, .nil, fun O h => nomatch h⟩
 | cons rv _ ih =>
  obtain ⟨kvs, h1, h2, h3⟩ := ih
  exact ⟨(_, _) :: kvs, .cons rv h1, .cons (isN _ _) rfl h2, fun e he => (List.mem_cons.mp he).elim (fun q => q ▸ ⟨_, isN _ _, rfl⟩) (h3 e)⟩
set_option tactic.hygienic true in
theorem yrt {l : List (Str × V)} {kvs : List (Str × Value)} {es : List DictEntry} (x : SK h l kvs) (p : Pairs (strKind prog w) es kvs) (hk : ∀ e ∈ es, ∃ k, (strKind prog w).is k e.key = true /\ e.hash = (strKind prog w).hash k) : SEs w.params h l es := by
 induction x generalizing es with
 | nil => cases p; exact .nil
 | cons rv _ ih =>
  cases p with
  | cons h1 h2 h3 =>
  obtain ⟨k', a1, a2⟩ := hk _ (.head _)
  have r := ih h3 fun e he => hk e (.tail _ he)
  rw [(strKind prog w).inj _ _ _ a1 h1] at a2
  obtain ⟨t, et⟩ := Value.isStrOf_shape h1
  clear ih h3 hk a1 h1
  rename_i e _
  obtain ⟨hh, key, val⟩ := e
  dsimp only at et h2 a2
  subst et h2 a2
  exact .cons rv r
set_option tactic.hygienic true in
theorem nk_back {l : List (Int × V)} {kvs : List (Int × Value)} {es : List DictEntry} (x : SK h l kvs) (p : Pairs (intKind prog w) es kvs) (hk : ∀ e ∈ es, ∃ k, (intKind prog w).is k e.key = true /\ e.hash = (intKind prog w).hash k) : NEs h l es := by
 induction x generalizing es with
 | nil => cases p; exact .nil
 | cons rv _ ih =>
  cases p with
  | cons h1 h2 h3 =>
  obtain ⟨k', a1, a2⟩ := hk _ (.head _)
  have r := ih h3 fun e he => hk e (.tail _ he)
  rw [(intKind prog w).inj _ _ _ a1 h1] at a2
  obtain ⟨t, et⟩ := Value.isInt_shape h1
  clear ih h3 hk a1 h1
  rename_i e _
  obtain ⟨hh, key, val⟩ := e
  dsimp only at et h2 a2
  subst et h2 a2
  exact .cons rv r
end
section
variable {o : Wo} [W : WoOk o] [Sm : SmOk o] {c : Cx} {k : Kx} {loc : yae} {st : St} {Q : V -> St -> Prop} {X : Exc -> St -> Prop} {QL : yae -> St -> Prop}
def SD (st : St) (d : Addr) (l : List (Str × V)) : Prop := st d = some (.sd l) /\ (l.map (·.1)).Nodup
def ND (st : St) (d : Addr) (l : List (Int × V)) : Prop := (st d = some (.nd l) \/ (l = [] /\ st d = some (.sd []))) /\ (l.map (·.1)).Nodup
theorem SD.of {d : Addr} {l : List (Str × V)} {s : Shared} (H : Holds o.P st s.heap) (x : SD st d l) : ∃ kvs, SK s.heap l kvs /\ s.heap.DictOf (strKind o.prog o.w) d kvs := by
 obtain ⟨es, n, h1, r⟩ := sd_of (H d _ x.1)
 obtain ⟨kvs, a, b, e⟩ := sk_of (prog := o.prog) r
 exact ⟨kvs, a, _, es.toArray, n, h1, ⟨rfl, rfl, rfl⟩, rfl, fun en he => e en (by simpa using he), by simpa using b, by rw [a.names]; exact x.2⟩
set_option tactic.hygienic true in
theorem ND.of {d : Addr} {l : List (Int × V)} {s : Shared} (H : Holds o.P st s.heap) (x : ND st d l) : ∃ kvs, SK s.heap l kvs /\ s.heap.DictOf (intKind o.prog o.w) d kvs := by
 rcases x.1 with x1 | ⟨rfl, x1⟩
 . obtain ⟨ob, h1, m⟩ := H d _ x1
   cases m with
   | nd r =>
   rename_i es n
   obtain ⟨kvs, a, b, e⟩ := nk_of (prog := o.prog) (w := o.w) r
   exact ⟨kvs, a, _, es.toArray, n, h1, ⟨rfl, rfl, rfl⟩, rfl, fun en he => e en (by simpa using he), by simpa using b, by rw [a.names]; exact x.2⟩
 . obtain ⟨_, _, h1, r⟩ := sd_of (H d _ x1)
   cases r
   exact ⟨[], .nil, _, #[], _, h1, ⟨rfl, rfl, rfl⟩, rfl, fun en he => by simp at he, .nil, List.nodup_nil⟩
theorem sm_ne {d : Addr} {m : MO} {s : Shared} (S : SI o k st s) (h : st d = some m) : (d == sysModules) = false := by
 rw [beq_eq_false_iff_ne]
 rintro rfl
 obtain ⟨ob, e⟩ := Sm.sm
 rw [S.sep _ (.inl ⟨ob, e⟩)] at h; cases h
theorem SD.ne {d : Addr} {l : List (Str × V)} {s : Shared} (S : SI o k st s) (x : SD st d l) : (d == sysModules) = false := sm_ne S x.1
theorem ND.ne {d : Addr} {l : List (Int × V)} {s : Shared} (S : SI o k st s) (x : ND st d l) : (d == sysModules) = false := by
 rcases x.1 with q | ⟨_, q⟩ <;> exact sm_ne S q
theorem opt_bool {α : Type} {a : Option α} {b : Option Value} (h : a = none -> b = none) (h' : ∀ x, a = some x -> ∃ v, b = some v) : b.isSome = a.isSome := by
 induction e : a with
 | none => rw [h e]; rfl
 | some x => obtain ⟨v, q⟩ := h' x e; rw [q]; rfl
theorem ymm {d : Addr} {l : List (Str × V)} {x : Str} (hd : SD st d l) (h : Q (.bool (ygl x l).isSome) st) : CMP o k st .In (.str x) (.ptr d) Q X := fun s va vb S ra rb => by
 cases ra; cases rb
 obtain ⟨kvs, a, D⟩ := hd.of S.hs
 refine wpAny_in_of (knd := strKind o.prog o.w) (isS _ _) (hd.ne S) D.mapOf ?_
 rw [opt_bool (a := yfa x l) (fun e => a.miss e) (fun y e => let ⟨v, h1, _⟩ := a.get e; ⟨v, h1⟩), <- yhh]
 exact ⟨_, st, .bool _, Step.toks S.hs _, h⟩
theorem yhc {d : Addr} {l : List (Str × V)} {x : Str} {v : V} (hd : SD st d l) (hx : ygl x l = some v) (h : Q v st) : SUB o k st (.ptr d) (.str x) Q X := fun s va vi S ra ri => by
 cases ra; cases ri
 obtain ⟨kvs, a, D⟩ := hd.of S.hs
 rw [yhh] at hx
 obtain ⟨u, h1, h2⟩ := a.get hx
 exact ⟨"dict", _, D.typeIs, PySem.F.slot_dict_getitem.lookup, wpAny_getItem_of (knd := strKind o.prog o.w) (isS _ _) D.mapOf h1 ⟨v, st, h2, Step.toks S.hs _, h⟩⟩
theorem ymb {d : Addr} {m : MO} {name : Str} {id : String} (hd : st d = some m) (hm : (∃ l, m = .sd l) \/ ∃ l, m = .nd l) (slot : Slot "dict" name id) (hty : typeOf (.builtin id) = pure (.type "method_descriptor")) : ytx o k st (.ptr d) name (.builtin id) := fun s va pl S r => by
 cases r
 obtain ⟨ob, e1, m1⟩ := S.hs d _ hd
 have : ob.cls = .type "dict" /\ ob.dict = none := by
  rcases hm with ⟨l, rfl⟩ | ⟨l, rfl⟩ <;> cases m1 <;> exact ⟨rfl, rfl⟩
 refine getMethod_builtin ⟨_, e1, this.1⟩ PySem.F.plainAttrs_dict slot hty (fun a e => ?_) ⟨rfl, s.toks, rfl⟩
 cases e
 exact ⟨_, e1, this.2⟩
theorem yn3 {d : Addr} {l : List (Int × V)} (hd : ND st d l) : ytx o k st (.ptr d) "get" (.builtin "dict.get") := by
 rcases hd.1 with q | ⟨_, q⟩
 . exact ymb q (.inr ⟨_, rfl⟩) PySem.F.slot_dict_get PySem.F.type_dict_get
 . exact ymb q (.inl ⟨_, rfl⟩) PySem.F.slot_dict_get PySem.F.type_dict_get
theorem yog {d : Addr} {l : List (Int × V)} {x : Int} (hd : ND st d l) (h : Q ((yfa x l).getD .none) st) : yak o k st (.builtin "dict.get") [.ptr d, .int x] Q X := fun s vs S r => by
 cases r.inv2 with
 | mk r1 r2 =>
 cases r1; cases r2
 obtain ⟨kvs, a, D⟩ := hd.of S.hs
 refine call_meetsIn PySem.F.slot_dict_get D.typeIs PySem.F.entry_dict_get (PySem.F.args_dict_get_2 _ _) (meets_dict_get (intKind o.prog o.w) d (k := x) (isN _ _) (hd.ne S)) ⟨_, D.mapOf, ?_⟩
 induction e : yfa x l with
 | none => rw [e] at h; rw [a.miss e]; exact ⟨.none, st, .none, Step.toks S.hs _, h⟩
 | some y => rw [e] at h; obtain ⟨v, h1, h2⟩ := a.get e; rw [h1]; exact ⟨y, st, h2, Step.toks S.hs _, h⟩
def SETI (o : Wo) (k : Kx) (st : St) (a i v : V) (Q : St -> Prop) (X : Exc -> St -> Prop) : Prop :=
 ∀ s va vi vv, SI o k st s -> VR s.heap a va -> VR s.heap i vi -> VR s.heap v vv -> wpAny o.M k.A (setItem va vi vv) (fun O s' => ∃ st', Step o.P noF st s st' s' /\ Q st') (PX o noF st s X) s
theorem ynb {d : Addr} {l : List (Str × V)} {x : Str} {v : V} {Q : St -> Prop} (hd : SD st d l) (hz : l.length <= 60) (h : Q (st.set d (.sd (yip x v l)))) : SETI o k st (.ptr d) (.str x) v Q X := fun s va vi vv S ra ri rv => by
 cases ra; cases ri
 obtain ⟨kvs, a, D⟩ := hd.of S.hs
 refine wpAny_setItem_pairs (knd := strKind o.prog o.w) (isS _ _) D (fun h' D' hs => ?_) (hsz := by rw [a.len]; exact Nat.le_trans hz (by decide))
 obtain ⟨ob, es, n, e1, ⟨c1, c2, c3⟩, e2, e3, e4, e5⟩ := D'
 have eo : ob = yoc es.toList n := by obtain ⟨cl, di, da, sl⟩ := ob; dsimp only at c1 c2 c3 e2; subst c1 c2 c3 e2; simp
 refine ⟨_, Step.upd (P := o.P) S.hs (by rw [hd.1]; simp) hs (eo ▸ e1) (fun hh K => ?_) _, h⟩
 have KV : KpV s.heap hh := .of (.ofSt S.hs) K.d
 have a' : SK hh (ygm x v l) (stored kvs x vv) := (a.keepV KV).put (rv.keepV KV) hd.2
 rw [yhd]
 exact .sd (yrt (prog := o.prog) a' (by simpa using e4) fun e he => e3 e (by simpa using he))
theorem seti_nd {d : Addr} {l : List (Int × V)} {x : Int} {v : V} {Q : St -> Prop} (hd : ND st d l) (hz : l.length <= 60) (h : Q (st.set d (.nd (ygm x v l)))) : SETI o k st (.ptr d) (.int x) v Q X := fun s va vi vv S ra ri rv => by
 cases ra; cases ri
 obtain ⟨kvs, a, D⟩ := hd.of S.hs
 refine wpAny_setItem_pairs (knd := intKind o.prog o.w) (isN _ _) D (fun h' D' hs => ?_) (hsz := by rw [a.len]; exact Nat.le_trans hz (by decide))
 obtain ⟨ob, es, n, e1, ⟨c1, c2, c3⟩, e2, e3, e4, e5⟩ := D'
 have eo : ob = yoc es.toList n := by obtain ⟨cl, di, da, sl⟩ := ob; dsimp only at c1 c2 c3 e2; subst c1 c2 c3 e2; simp
 refine ⟨_, Step.upd (P := o.P) S.hs (by rcases hd.1 with q | ⟨_, q⟩ <;> rw [q] <;> simp) hs (eo ▸ e1) (fun hh K => ?_) _, h⟩
 have KV : KpV s.heap hh := .of (.ofSt S.hs) K.d
 have a' : SK hh (ygm x v l) (stored kvs x vv) := (a.keepV KV).put (rv.keepV KV) hd.2
 exact .nd (nk_back (prog := o.prog) a' (by simpa using e4) fun e he => e3 e (by simpa using he))
theorem asg_sub {e i : Expr} {pos : Pos} {v : V} (hn : ∀ l u s p, i ≠ .Slice l u s p) (h : EV o c loc st e (fun a st₁ => EV o c loc st₁ i (fun b st₂ => SETI o c.k st₂ a b v (fun st₃ => QL loc st₃) X) X) X) : ASG o c loc st (.Subscript e i pos) v QL X := fun s u I r => by
 rw [arm_assign_Subscript]
 refine wpAny_bind (wpAny_holding (pxw I (h.use I fun a st₁ va s₁ q S I₁ ra => ?_)))
 refine wpAny_bind (wpAny_holding (pxw I (px S (q.use I₁ fun b st₂ vb s₂ q₂ S₂ I₂ rb => ?_))))
 have r2 := (r.keep I.si.hs S.kp).keep I₁.si.hs S₂.kp
 refine wpAny_bind (wpAny_standAt (wpAny_bind (wpAny_holding (pxw I (px (S.trans S₂) (wpAny_mono (q₂ s₂ va vb u I₂.si (ra.keep I₁.si.hs S₂.kp) rb r2) (fun _ s₃ ⟨st₃, S₃, hq⟩ => ?_) fun O O p => p))))))
 have SS := (S.trans S₂).trans S₃
 have I₃ := I.step SS
 exact wpAny_release ⟨loc, st₃, SS.weak, I₃.lc, hq⟩
end
section
variable {o : Wo} [W : WoOk o] {c : Cx} {k : Kx} {loc : yae} {st : St} {Q : V -> St -> Prop} {X : Exc -> St -> Prop}
variable {elt iter cnd : Expr} {x : Str} {px pos : Pos} {scope : Scope} {cl : List (Str × Addr)}
set_option tactic.hygienic true in
theorem yid {xs : List V} (J : Nat -> List V -> St -> Prop) (hok : ybt scope x = true) (hcl : ybd c.env.cells scope.names [] = some cl) (hz : xs.length <= sizeLine) (h0 : J 0 [] st)
 (turn : yty o c loc elt x scope cl xs J) (fin : ∀ ys st' D, J xs.length ys st' -> ys.length = xs.length -> st' D = none -> Q (.ptr D) (st'.set D (.lst ys))) : ymx o c loc st (.tup xs) elt iter x px scope pos cl Q := fun st₀ s₀ s va E use PQ hu H₀ S I r => by
 obtain ⟨k1, k2, k3, k4⟩ := yc9 hok
 cases r with
 | tup ht rr =>
 rename_i ws a n
 refine wpAny_pyIter_tuple ⟨_, ht, rfl, _, rfl⟩ ?_
 have S1 : Step o.P noF st s st { s with heap := s.heap.push { cls := .type "tuple_iterator", data := .fields #[.ref a, .int 0 0] } } := Step.push I.si.hs _ s.toks
 have ex : ∀ {h : Heap}, (∃ ws n, IsT h a ws.toArray n /\ VRs h xs ws) -> ∃ ws, h.IsTuple a ws.toArray /\ VRs h xs ws := fun ⟨ws, n, h1, h2⟩ => ⟨ws, ⟨_, h1, rfl, _, rfl⟩, h2⟩
 refine yif (T := "tuple_iterator") (xs := xs) (P := fun i h => h.IsTupleIter s.heap.objs.size a i) (R := fun h => ∃ ws n, IsT h a ws.toArray n /\ VRs h xs ws) (Ast := fun O => True) (J := fun i ys st => J i ys st /\ ys.length = i) k1 k2 k3 k4 hcl hz (ya5 S (Heap.get?_none_of_le (Nat.le_refl _))) H₀ (S.trans S1) (I.step S1)
  (fun i h h' ⟨ob, p1, p2⟩ e => ⟨ob, e.trans p1, p2⟩) (fun i h ⟨ob, p1, p2, p3⟩ => ⟨_, _, p1, p2, p3⟩) (by decide) (by decide) (fun D K ⟨ws, n, h1, h2⟩ => ⟨ws, n, (KpV.of D K).tup _ _ _ h1, h2.keepD D K⟩)
  (fun O O O O O O => trivial) ?_ ?_ (fun s' Q' hp hq => ?_) ⟨_, Heap.get?_push_size _ rfl, rfl, rfl⟩ ⟨ws, n, Heap.get?_push_of_some _ ht, rr.keep I.si.hs (Kp.push _)⟩ ⟨h0, rfl⟩ turn.ct (fun ys st' D hj O hD => fin ys st' D hj.1 hj.2 hD) hu
 . intro E i x st' s' Q' hx hj S' hR hp hq
   obtain ⟨ws', ht', rr'⟩ := ex hR
   obtain ⟨v, hv, rv⟩ := rr'.get hx
   exact wpAny_pyNext_tuple_item hp ht' (x := v) (by simpa using hv) fun h' hit hsb => hq h' v s'.toks hit hsb rv
 . intro E st' s' Q' hj S' hR hp hq
   obtain ⟨ws', ht', rr'⟩ := ex hR
   exact wpAny_pyNext_tuple_end S'.ok.handled hp ht' (by simp [rr'.length]) hq
 . exact wpAny_pyIter_tupleiter hp hq
theorem ycj {α β : Type} {f : α -> β} {zs : List α} {i : Nat} {x : β} (h : (zs.map f)[i]? = some x) : ∃ z, zs[i]? = some z /\ x = f z := by
 rw [List.getElem?_map] at h
 obtain ⟨z, h1, h2⟩ := Option.map_eq_some_iff.mp h
 exact ⟨z, h1, h2.symm⟩
theorem yie {α : Type} {l : Addr} {zs : List α} (f g : α -> V) {L : List V} (hL : zs.map g = L) (hok : ybt scope x = true) (hcl : ybd c.env.cells scope.names [] = some cl) (hz : zs.length <= sizeLine) (hl : st l = some (.lst (zs.map f)))
 (turn : ∀ z ys D C, z ∈ zs -> st D = none -> EV o (yc5 c scope cl C) ((yq9 c scope cl loc).set x (f z)) (st.set D (.lst ys)) elt (fun y st' => y = g z /\ st' = st.set D (.lst ys)) (fun O O => False))
 (fin : ∀ D, st D = none -> Q (.ptr D) (st.set D (.lst L))) : ymx o c loc st (.ptr l) elt iter x px scope pos cl Q := by
 subst hL
 refine yth (fun i vs st' => st' = st /\ vs = (zs.take i).map g) hok hcl (by rw [List.length_map]; exact hz) (fun i ys st' hj => hj.1 ▸ hl) ⟨rfl, rfl⟩ (fun i v ys st' D C hx hj hD => ?_) (fun ys st' D hj O hD => ?_)
 . obtain ⟨z, hz, rfl⟩ := ycj hx
   obtain ⟨rfl, rfl⟩ := hj
   exact (turn z _ D C (List.mem_of_getElem? hz) hD).mono (fun y st'' q => ⟨_, q.2, hD, rfl, by rw [List.take_add_one, hz, List.map_append, q.1]; rfl⟩) fun O O q => q
 . obtain ⟨rfl, rfl⟩ := hj
   rw [List.length_map, List.take_length]
   exact fin D hD
end
section
variable {o : Wo} [W : WoOk o] {c : Cx} {k : Kx} {loc : yae} {st : St} {Q : V -> St -> Prop} {X : Exc -> St -> Prop} {QF : Fl -> yae -> St -> Prop}
noncomputable def chV (c : Nat) : V := .str ⟨#[c]⟩
theorem ydr {x : Str} {i : Int} {n : Nat} (hr : -(2 ^ 63) <= i /\ i < 2 ^ 63) (hc : (seqIndex? i x.length).bind (x.cps[·]?) = some n) (h : Q (chV n) st) : SUB o k st (.str x) (.int i) Q X := fun s va vi S ra ri => by
 cases ra; cases ri
 exact ⟨"str", _, typeIs_str _ _ _, PySem.F.slot_str_getitem.lookup, PySem.P.getItem_str (by simp; (first | lia | omega)) hc ⟨_, st, .str _ _, Step.toks S.hs _, h⟩⟩
theorem forv_str {x : Str} {target : Expr} {body : List Stmt} (J : Nat -> yae -> St -> Prop) (h0 : J 0 loc st) (turn : Turn o c target body (x.cps.toList.map chV) J QF) (fin : ∀ loc st, J x.cps.size loc st -> QF .next loc st) :
 FORV o c loc st (.str x) target body QF := fun s va E' R' I r hr => by
 cases r with
 | str _ t =>
 have len : (x.cps.toList.map chV).length = x.cps.size := by simp
 have get : ∀ {i : Nat} {v : V}, (x.cps.toList.map chV)[i]? = some v -> ∃ n, x.cps[i]? = some n /\ v = chV n := fun {i v} e => by
  rw [List.getElem?_map] at e
  induction q : x.cps.toList[i]? with
  | none => rw [q] at e; cases e
  | some n => rw [q] at e; exact ⟨n, by simpa using q, (Option.some.inj e).symm⟩
 have main : ∀ (ty : String) (hT : ["enumerate", "zip", "dict_itemiterator", "dict_reverseitemiterator", "odict_iterator", "itertools.zip_longest", "itertools.pairwise"].contains ty = false) (hTf : ty ≠ "frame") (hTr : ty ≠ "range")
  (item : ∀ {E : Value -> Shared -> Prop} {s : Shared} {it : Addr} {i n : Nat} {Q : Option Value -> Shared -> Prop}, s.heap.IsStrIter it ty x t i -> x.cps[i]? = some n -> (∀ h', h'.IsStrIter it ty x t (i + 1) -> Heap.SameBut it s.heap h' -> Q (some (.str ⟨#[n]⟩ s.toks)) { s with heap := h', toks := s.toks + 1 }) -> wpAny o.M c.k.A (pyNext (.ref it)) Q E s)
  (done : ∀ {E : Value -> Shared -> Prop} {s : Shared} {it : Addr} {i : Nat} {Q : Option Value -> Shared -> Prop}, c.k.A.handled = none -> s.heap.IsStrIter it ty x t i -> x.cps[i]? = none -> (∀ h', Heap.ExtBut it s.heap h' -> Q none { s with heap := h' }) -> wpAny o.M c.k.A (pyNext (.ref it)) Q E s),
  codeAny o.M c.k.A (.forLoop target (.ref s.heap.objs.size) body [] c.env) R' { s with heap := s.heap.push { cls := .type ty, data := .fields #[.str x t, .int 0 0] } } := fun ty hT hTf hTr item done => by
  have S : Step o.P (own c) st s st { s with heap := s.heap.push { cls := .type ty, data := .fields #[.str x t, .int 0 0] } } := Step.push I.si.hs _ s.toks
  refine yfk (T := ty) (xs := x.cps.toList.map chV) (P := fun i h => h.IsStrIter s.heap.objs.size ty x t i) (R := fun O => True) (J := J) (Heap.get?_none_of_le (Nat.le_refl _)) I.si S ?_
   (fun i h h' ⟨ob, p1, p2⟩ e => ⟨ob, e.trans p1, p2⟩) (fun i h ⟨ob, p1, p2, p3⟩ => ⟨_, _, p1, p2, p3⟩) hT hTf hTr (fun O O O => trivial) ?_ ?_ ⟨_, Heap.get?_push_size _ rfl, rfl, rfl⟩ trivial h0 turn (by rw [len]; exact fin) hr rfl
  . exact I.step (Step.push I.si.hs _ s.toks)
  . intro i v loc' st' s' Q' hx hj S' _ hp hq
    obtain ⟨n, hn, rfl⟩ := get hx
    exact item hp hn fun h' hit hsb => hq h' _ _ hit hsb (.str _ _)
  . intro loc' st' s' Q' hj S' _ hp hq
    rw [len] at hp
    exact done S'.ok.handled hp (by simp) hq
 induction ha : x.cps.all (· < 128) with
 | true => exact wpAny_pyIter_ascii ha (main "str_ascii_iterator" (by decide) (by decide) (by decide) (fun a b c => wpAny_pyNext_ascii_item a b c) (fun a b c d => wpAny_pyNext_ascii_end a b c d))
 | false => exact wpAny_pyIter_wide ha (main "str_iterator" (by decide) (by decide) (by decide) (fun a b c => wpAny_pyNext_wide_item a b c) (fun a b c d => wpAny_pyNext_wide_end a b c d))
theorem ya9 {l : Addr} {xs : List V} {x : Int} (hl : st l = some (.lst xs)) (h0 : -(2 ^ 62) <= x) (h1 : x < 2 ^ 62) (hz : xs.length * x.toNat <= 2 ^ 24) (h : ∀ a, st a = none -> Q (.ptr a) (st.set a (.lst (List.replicate x.toNat xs).flatten))) : OPB o k st .Mult (.ptr l) (.int x) Q X := fun s va vb S ra rb => by
 cases rb with
 | int _ u =>
 cases ra
 obtain ⟨ws, n, e1, rr⟩ := ybc (S.hs l _ hl)
 have hlen := rr.length
 have hsz : ws.toArray.size * x.toNat <= 2 ^ 24 := by rw [List.size_toArray, <- hlen]; exact hz
 refine wpAny_binaryOp_repeat_ref (T := "list") (U := "int") (by decide) ⟨_, e1, rfl⟩ (fun s' => typeIs_int s' x u) noFill_list_mul PySem.F.fills_int_mul PySem.F.slot_int_rmul repeat_list PySem.F.slot_int_index.lookup
  (call_meets PySem.F.slot_int_rmul (typeIs_int s x u) PySem.F.entry_int_rmul (PySem.F.args_int_rmul_2 _ _) (int___rmul___int_list x u l ws.toArray n)
   ⟨e1, rfl, ⟨_, e1, rfl⟩, call_meets PySem.F.slot_list_mul ⟨_, e1, rfl⟩ PySem.F.entry_list_mul (PySem.F.args_list_mul_2 _ _)
    (AutoListH.list___mul___list_int_3 l ws.toArray n x u (by simp [Builtin.List.listFitsIndex]; (first | lia | omega)) (by (first | lia | omega)) (by simp [Builtin.List.listTooLong, sizeLine]; simp at hsz; (first | lia | omega)))
    ⟨e1, ?_⟩⟩)
 have e2 : List.foldl (fun x1 x2 => x1 ++ x2) #[] (List.replicate (if ws.toArray.isEmpty = true then 0 else x.toNat) ws.toArray) = ((List.replicate x.toNat ws).flatten).toArray := by
  induction ws with
  | nil => simp
  | cons w r =>
   rw [if_neg (by simp)]
   have := yf4 (w :: r) x.toNat []
   simpa using this
 rw [e2]
 exact ⟨.ptr _, _, .ptr _, Step.alloc S.hs _ (.lst (List.replicate x.toNat xs).flatten) rfl (.lst (rr.repl x.toNat)) s.toks, h _ (ybo S.hs)⟩
end
end NN
end
section
open PySem PySem.W PyProof.Rows PySem.Calls Builtin Builtin.ObjectAttr
set_option maxRecDepth 100000
set_option linter.all false
namespace NN
section
variable {o : Wo} [W : WoOk o] {c : Cx} {k : Kx} {loc : yae} {st : St} {Q : V -> St -> Prop} {X : Exc -> St -> Prop} {QF : Fl -> yae -> St -> Prop}
section
variable {prog : Program} {w : World} {A : Around} {E : Value -> Shared -> Prop} {s : Shared}
theorem yhf {sl : Addr} {a b n : Nat} {u u' : Tok} {Q : Int × Int × Nat -> Shared -> Prop} (hs : s.heap.IsSliceOf sl (.int a u) (.int b u') .none) (ha : a <= b) (hb : b <= n) (h : Q ((a : Int), 1, b - a) s) :
 wpAny (model prog w) A (Builtin.Slice.sliceApplied (.ref sl) (pure (n : Int))) Q E s := by
 obtain ⟨os, hos, hcs, hds⟩ := id hs
 unfold Builtin.Slice.sliceApplied Builtin.Slice.sliceFields
 refine wpAny_bind (wpAny_bind (wpAny_field hos hds (x := .int a u) rfl (wpAny_bind (wpAny_field hos hds (x := .int b u') rfl (wpAny_bind (wpAny_field hos hds (x := .none) rfl (wpAny_pure ?_)))))))
 refine wpAny_bind (slicePart_none ?_)
 show wpAny _ _ (if ((1 : Int) == 0) = true then _ else _) _ _ s
 rw [if_neg (by decide)]
 refine wpAny_bind (slicePart_int (wpAny_bind (slicePart_int (wpAny_bind (wpAny_pure ?_)))))
 show wpAny _ _ (match Builtin.Slice.sliceAdjust (some (a : Int)) (some (b : Int)) 1 (n : Int) with | (lo, hi) => pure (lo, (1 : Int), Builtin.Slice.slicePlaces lo hi 1)) _ _ s
 have e : Builtin.Slice.sliceAdjust (some (a : Int)) (some (b : Int)) 1 (n : Int) = ((a : Int), (b : Int)) := by
  unfold Builtin.Slice.sliceAdjust
  have h1 : ¬ ((1 : Int) < 0) := by decide
  have h2 : ¬ ((a : Int) < 0) := Int.not_lt.mpr (Int.natCast_nonneg a)
  have h3 : ¬ ((b : Int) < 0) := Int.not_lt.mpr (Int.natCast_nonneg b)
  simp only [h1, h2, h3, if_false]
  congr 1
  . exact Int.min_eq_left (Int.ofNat_le.mpr (Nat.le_trans ha hb))
  . exact Int.min_eq_left (Int.ofNat_le.mpr hb)
 rw [e]
 show wpAny _ _ (pure ((a : Int), (1 : Int), Builtin.Slice.slicePlaces (a : Int) (b : Int) 1)) _ _ s
 have e2 : Builtin.Slice.slicePlaces (a : Int) (b : Int) 1 = b - a := by
  unfold Builtin.Slice.slicePlaces
  have h1 : (1 : Int) > 0 := by decide
  simp only [h1, if_true, Int.ediv_one]
  split
  . rw [Int.sub_add_cancel]; exact congrArg Int.toNat (Int.ofNat_sub ha).symm
  . next q => exact (Nat.sub_eq_zero_of_le (Nat.le_of_not_lt fun p => q (Int.ofNat_lt.mpr p))).symm
 rw [e2]
 exact wpAny_pure h
theorem pick_ab (xs : Array Value) (a m : Nat) : ((List.range m).filterMap fun (k : Nat) => xs[((a : Int) + (k : Int) * 1).toNat]?).toArray = ((xs.toList.drop a).take m).toArray := by
 have e : (fun (k : Nat) => xs[((a : Int) + (k : Int) * 1).toNat]?) = fun k => xs[a + k]? := by
  funext k
  have : ((a : Int) + (k : Int) * 1).toNat = a + k := by rw [Int.mul_one]; rfl
  rw [this]
 rw [e]
 have := pick_run xs a m
 rw [List.filterMap_map] at this
 have e2 : ((fun x => xs[x]?) ∘ fun x => a + x) = fun k => xs[a + k]? := rfl
 rw [e2] at this
 rw [this]
theorem ygv {t sl : Addr} {items : Array Value} {a b : Nat} {u u' : Tok} {Q : Value -> Shared -> Prop} (ht : IsTup s.heap t items) (hs : s.heap.IsSliceOf sl (.int a u) (.int b u') .none) (hab : a <= b) (hb : b < items.size)
 (h : Q (.ref s.heap.objs.size) { s with heap := s.heap.push { cls := .type "tuple", data := .seq ((items.toList.drop a).take (b - a)).toArray } })
 (hsz : items.size <= sizeLine) : wpAny (model prog w) A (getItem (.ref t) (.ref sl)) Q E s := by
 have hdrop : sizeOk (.seq ((items.toList.drop a).take (b - a)).toArray) := by
  show ((items.toList.drop a).take (b - a)).toArray.size <= sizeLine
  rw [List.size_toArray, List.length_take, List.length_drop, Array.length_toList]
  exact Nat.le_trans (Nat.min_le_right ..) (Nat.le_trans (Nat.sub_le ..) hsz)
 obtain ⟨os, hos, hcs, hds⟩ := id hs
 have hTs : s.TypeIs (.ref sl) "slice" := ⟨os, hos, hcs⟩
 unfold getItem
 try with_reducible refine wpAny_holding ?_
 first | refine wpAny_bind (wpAny_pure ?_) | skip
 refine wpAny_bind (wpAny_sequenceKey ht.typeIs (by decide) ?_)
 refine wpAny_bind (wpAny_callSpecial?_slot (name := Str.ofString "__getitem__") ht.typeIs slot_tuple_getitem
  (wpAny_call_entry slot_tuple_getitem ht.typeIs entry_tuple_getitem ?_ (args_tuple_getitem _ _)))
 show wpAny _ _ (Builtin.Tuple.tupleItemsOf (.ref t) >>= _) _ _ s
 refine wpAny_bind (tupleItemsOf_ ht ?_)
 refine wpAny_bind (wpAny_typeOf hTs ?_)
 rw [if_pos (by decide)]
 refine wpAny_bind (yhf hs hab (Nat.le_of_lt hb) ?_)
 have hno : ¬ (((a : Int) == 0 && (1 : Int) == 1 && (b - a) == items.size) = true) := by
  have : ((b - a) == items.size) = false := by rw [beq_eq_false_iff_ne]; exact Nat.ne_of_lt (Nat.lt_of_le_of_lt (Nat.sub_le ..) hb)
  rw [this]; simp
 show wpAny _ _ (if ((a : Int) == 0 && (1 : Int) == 1 && (b - a) == items.size) = true then _ else _) _ _ s
 rw [if_neg hno, pick_ab items a (b - a)]
 first
  | exact wpAny_bind (m := Builtin.Tuple.tupleExact _) (wpAny_newObj_type (wpAny_pure ⟨_, rfl, wpAny_pure h⟩) hdrop)
  | exact wpAny_bind (m := Builtin.Tuple.tupleExact _) (wpAny_newObj_type (wpAny_bind (wpAny_pure (wpAny_pure ⟨_, rfl, wpAny_pure h⟩))) hdrop)
  | exact wpAny_bind (wpAny_bind (m := Builtin.Tuple.tupleExact _) (wpAny_newObj_type (wpAny_pure (wpAny_pure ⟨_, rfl, wpAny_pure h⟩)) hdrop))
  | exact wpAny_bind (wpAny_bind (m := Builtin.Tuple.tupleExact _) (wpAny_newObj_type (wpAny_pure ⟨_, rfl, wpAny_pure h⟩) hdrop))
end
set_option tactic.hygienic true in
theorem yqd {xs : List V} {a b : Nat} (hab : a <= b) (hb : b < xs.length) (hz : xs.length <= sizeLine) (h : Q (.tup ((xs.drop a).take (b - a))) st) : SLV o k st (.tup xs) (some (a : Int)) (some (b : Int)) Q X := fun s va sl vl vu S ra hs pl pu => by
 cases pu
 cases pl
 cases ra with
 | tup ht rr =>
 rename_i ws b' n
 have hlen := rr.length
 have tt : IsTup s.heap b' ws.toArray := ⟨_, ht, rfl, _, rfl⟩
 refine ⟨"tuple", _, tt.typeIs, slot_tuple_getitem.lookup, ygv tt hs hab (by rw [List.size_toArray, <- hlen]; exact hb) ?_ (by rw [List.size_toArray, <- hlen]; exact hz)⟩
 exact ⟨.tup _, st, .tup (IsT.new _ _) (by simpa using ((rr.drop a).take (b - a)).keep S.hs (Kp.push _)), Step.push S.hs _ s.toks, h⟩
end
end NN
end
section
open PySem PySem.W PyProof.Rows PySem.Calls
set_option maxRecDepth 100000
set_option linter.all false
namespace NN
section
variable {o : Wo} [W : WoOk o] {c : Cx} {k : Kx} {loc : yae} {st : St} {QB : Bool -> St -> Prop} {X : Exc -> St -> Prop}
theorem tr_cmp2 {l r₁ r₂ : Expr} {op₁ op₂ : CmpOp} {pos : Pos} (h : EV o c loc st l (fun a st₁ => EV o c loc st₁ r₁ (fun b st₂ => CMP o c.k st₂ op₁ a b (fun v st₃ => TRV o c.k st₃ v (fun t st₄ => if t then EV o c loc st₄ r₂ (fun d st₅ => CMP o c.k st₅ op₂ b d (fun v st₆ => TRV o c.k st₆ v QB X) X) X else QB false st₄) X) X) X) X)
 (hm : lastMarks [op₁, op₂] [r₁, r₂] = false := by with_unfolding_all rfl) : TR o c loc st (.Compare l [op₁, op₂] [r₁, r₂] pos) QB X := fun s I => by
 refine isTrue_chain (h.use I fun a st₁ va s₁ q S I₁ ra => test_link (px S (q.use I₁ fun b st₂ vb s₂ q₂ S₂ I₂ rb => px (S.trans S₂) ?_))) hm
 refine wpAny_mono (q₂ s₂ va vb I₂.si (ra.keep I₁.si.hs S₂.kp) rb) (fun v s₃ p => ?_) fun O O p => p
 obtain ⟨r3, st₃, rr, S₃, q₃⟩ := p
 have S' := (S.trans S₂).trans S₃
 have I₃ := I₂.step S₃
 refine px S' (wpAny_mono (q₃ s₃ _ I₃.si rr) (fun t s₄ p => ?_) fun O O p => p)
 obtain ⟨st₄, S₄, q₄⟩ := p
 have I₄ := I₃.step S₄
 induction t with
 | false => exact ⟨st₄, S'.trans S₄, q₄⟩
 | true =>
  have rb4 := (rb.keep I₂.si.hs S₃.kp).keep I₃.si.hs S₄.kp
  have q₄ : EV o c loc st₄ r₂ (fun d st₅ => CMP o c.k st₅ op₂ b d (fun v st₆ => TRV o c.k st₆ v QB X) X) X := q₄
  have T := S'.trans S₄
  show wpAny _ _ (testChain pos vb [op₂] [eval r₂ c.env]) _ _ s₄
  refine px T (test_last (q₄.use I₄ fun d st₅ vd s₅ q₅ S₅ I₅ rd => px S₅ (wpAny_mono (q₅ s₅ vb vd I₅.si (rb4.keep I₄.si.hs S₅.kp) rd) (fun v s₆ p => ?_) fun O O p => p)))
  obtain ⟨r6, st₆, rr6, S₆, q₆⟩ := p
  exact px (S₅.trans S₆) (wpAny_mono (q₆ s₆ _ (I₅.step S₆).si rr6) (fun b s₇ p => p.trans ((T.trans S₅).trans S₆)) fun O O p => p)
end
section
variable {o : Wo} [W : WoOk o] {c : Cx} {k : Kx} {loc : yae} {st : St} {Q : V -> St -> Prop} {X : Exc -> St -> Prop}
theorem Step.adopt {P : Params} {F : Addr -> Prop} {s s' : Shared} {a : Addr} {m : MO} (x : Step P F st s st s') (ha : s.heap.get? a = none) (hm : HO P s'.heap a m) : Step P F st s (st.set a m) s' where
 holds b mb e := by
  by_cases q : b = a
  . subst q
    rw [St.set_same] at e; cases e; exact hm
  . rw [St.set_ne _ _ q] at e; exact x.holds b mb e
 sub b e := by
  by_cases q : b = a
  . subst q; exact .inr ha
  . rw [St.set_ne _ _ q] at e; exact x.sub b e
 ext := x.ext
 own := x.own
 mono := x.mono
 gens := x.gens
 os := x.os
noncomputable def rngD (lo hi : Int) : List V := (List.range (lo - hi).toNat).map fun (i : Nat) => V.int (lo - (i : Int))
theorem yq3 {lo n : Int} (h1 : -1000 <= lo /\ lo <= 1000) (h2 : -1000 <= n /\ n <= 1000) (h : Q (.rgd lo n) st) : yak o k st (.type "range") [.int lo, .int n, .int (-1)] Q X := fun s vs S r => by
 cases r.inv3 with
 | mk r1 r2 r3 =>
 cases r1; cases r2; cases r3
 exact call_range_3 (by decide) ⟨.rgd lo n, st, .rgd (Heap.get?_push_size _ rfl), Step.push S.hs _ _, h⟩ (Or.inl (PyProof.noPylong_small (by decide)))
theorem yey {lo hi : Int} : (rngD lo hi).length = (lo - hi).toNat := by simp [rngD]
theorem yoy {lo hi : Int} {i : Nat} {x : V} (h : (rngD lo hi)[i]? = some x) : x = .int (lo - i) := by
 unfold rngD at h
 rw [List.getElem?_map] at h
 by_cases q : i < (lo - hi).toNat
 . rw [List.getElem?_range q] at h; simp at h; exact h.symm
 . rw [List.getElem?_eq_none (by simpa using q)] at h; simp at h
theorem yem (a b : Int) : Builtin.Range.rangeSize a b (-1) = ((a - b).toNat : Int) := by
 unfold Builtin.Range.rangeSize
 simp only [show ¬ (-1 : Int) > 0 by decide, if_false, show -(-1 : Int) = 1 by decide, Int.ediv_one]
 split
 . next q => exact (Int.sub_add_cancel ..).trans (tnl (Int.le_of_lt q))
 . next q => exact tn0 (Int.not_lt.mp q)
theorem ykz {a : Int} (h : -3000 <= a /\ a <= 3000) : Builtin.Range.rangeFitsLong a = true := by
 unfold Builtin.Range.rangeFitsLong
 rw [Bool.and_eq_true, decide_eq_true_eq, decide_eq_true_eq]; exact ⟨Int.le_trans (by decide) h.1, Int.lt_of_le_of_lt h.2 (by decide)⟩
theorem sm_sz {a b : Int} (h1 : -1000 <= a /\ a <= 1000) (h2 : -1000 <= b /\ b <= 1000) : -3000 <= ((a - b).toNat : Int) /\ ((a - b).toNat : Int) <= 3000 := ⟨Int.le_trans (by decide) (Int.natCast_nonneg _), Int.ofNat_le.mpr (Int.toNat_le.mpr (Int.le_trans (Int.sub_le_sub h1.2 h2.1) (by decide)))⟩
theorem sm_w {a : Int} (h1 : -1000 <= a /\ a <= 1000) : -3000 <= a /\ a <= 3000 := ⟨Int.le_trans (by decide) h1.1, Int.le_trans h1.2 (by decide)⟩
theorem sm_p {b : Int} (h2 : -1000 <= b /\ b <= 1000) : -3000 <= b + (-1 + 1) /\ b + (-1 + 1) <= 3000 := sm_w (by rw [show b + (-1 + 1) = b from Int.add_zero b]; exact h2)
theorem yqc {a b : Int} (h1 : -1000 <= a /\ a <= 1000) (h2 : -1000 <= b /\ b <= 1000) : Builtin.Range.small a b (-1) = true := by
 unfold Builtin.Range.small
 rw [yem, ykz (sm_w h1), ykz (sm_w h2), ykz (sm_sz h1 h2), if_neg (by decide), ykz (sm_p h2)]
 rw [Bool.or_true]; rfl
theorem yev {elt iter : Expr} {x y : Str} {px np pos asp : Pos} {scope : Scope} {QF : Fl -> yae -> St -> Prop} (cl : List (Str × Addr)) (hs : ∀ env y, foldedSetIterable iter env y = pure y) (hok : ybt scope x = true) (hcl : ybd c.env.cells scope.names [] = some cl)
 (hsw : swapsWith (.ListComp elt [⟨.Name x px, iter, [], 0⟩] scope pos) (some (.Name y np)) asp.line c.env = pure true) (hy : ybp c.env y = true)
 (h : EV o c loc st iter (fun v st₁ => ymx o c loc st₁ v elt iter x px scope pos cl (fun r st₂ => QF .next (loc.set y r) st₂)) X) : EX o c loc st (.Assign [.Name y np] (.ListComp elt [⟨.Name x px, iter, [], 0⟩] scope pos) asp) QF X := fun s I => by
 unfold ybt at hok
 simp only [Bool.and_eq_true, beq_iff_eq, decide_eq_true_eq, List.all_eq_true] at hok
 obtain ⟨⟨⟨k1, k2⟩, k3⟩, k4⟩ := hok
 have hloc : ∀ y ∈ scope.names, y.2 = .local -> scope.names.lookup y.1 = some .local := fun y hy hl => by
  have key : ∀ {l : List (Str × NameKind)}, (l.map (·.1)).Nodup -> ∀ y ∈ l, l.lookup y.1 = some y.2 := by
   intro l
   induction l with
   | nil => intro _ y h; cases h
   | cons p r ih =>
    intro nd y hy
    have nd' := List.nodup_cons.mp nd
    rw [List.lookup_cons]
    rcases List.mem_cons.mp hy with rfl | hy
    . simp
    . have : (y.1 == p.1) = false := beq_eq_false_iff_ne.mpr fun q => nd'.1 (by show p.1 ∈ _; rw [<- q]; exact List.mem_map_of_mem hy)
      rw [this]; exact ih nd'.2 y hy
  rw [key k4 y hy, hl]
 rw [exec_Assign_Name_used _ _ _ _ hsw]
 refine wpAny_bind (wpAny_standAt (wpAny_bind (wpAny_bind (wpAny_comprehension_free (use := some (assign (.Name y np) c.env)) rfl (hs _) (yfp hcl) k1 hloc ?_))))
 show wpAny o.M c.k.A (eval iter c.env) _ _ s
 refine pxw I (h.use I fun v st₁ va s₁ q S I₁ r => ?_)
 refine q st s s₁ va _ _ _ (fun D C st1 s1 ⟨e0, e1, m, ns, S1⟩ hq => ?_) I.si S I₁ r
 have I1 := I.step S1
 show wpAny o.M c.k.A (do standAt np; bindName c.env y (.ref D)) _ _ s1
 refine wpAny_bind (wpAny_standAt (wpAny_bindName (ycd I1 (.ptr D) hy fun h2 t S2 L => ?_)))
 have nC : ¬ own c C := fun q => by
  obtain ⟨ob, T, g, _⟩ := I.ow.ex C q
  rw [e0] at g; cases g
 obtain ⟨ob, es, ep, g1, g2, g3⟩ := ns
 obtain ⟨ob', g', kk⟩ := S2.ext C ob nC e1 g1
 have ns2 : h2.Ns C m := ⟨ob', es, ep, g', kk.data.trans g2, g3⟩
 refine ⟨m, ns2, fun h3 hsb => ?_⟩
 have I2 := I1.stepF S2 L
 have dk := ymi (h := h2) S2.holds ns2
 have S3 := ((S1.weak (F := own c)).trans S2).gone (t := t) e1 e0 dk hsb.extBut
 have L3 : LocR c.env (loc.set y (.ptr D)) h3 := LocR.keepD I2 dk (fun b ob hb hob => ⟨ob, hsb.extBut b ob (fun q => hb (.inr q)) hob, .refl ob⟩) fun a ha q => q.elim (fun q => q (I2.ost a ha)) fun q => nC (q ▸ ha)
 exact wpAny_pure (wpAny_pure ⟨.next, _, st1, .next, S3, L3, hq⟩)
end
section
variable {o : Wo} [W : WoOk o] {c : Cx} {k : Kx} {loc : yae} {st : St} {Q : V -> St -> Prop} {X : Exc -> St -> Prop} {QF : Fl -> yae -> St -> Prop}
theorem yh0 {i : Int} : ytx o k st (.int i) "bit_length" (.builtin "int.bit_length") := fun s va pl S r => by
 cases r
 exact getMethod_int_bit_length ⟨rfl, s.toks, rfl⟩
theorem yim {i : Int} (h : Q (.int (Builtin.Int.intBits i)) st) : yak o k st (.builtin "int.bit_length") [.int i] Q X := fun s vs S r => by
 cases r.inv1 with
 | mk r1 =>
 cases r1
 exact call_int_bit_length ⟨.int _, st, .int _ _, Step.toks S.hs _, h⟩
theorem yln {lo hi : Int} : (rngD lo hi).length = (lo - hi).toNat := by simp [rngD]
theorem forv_rgd {lo hi : Int} {target : Expr} {body : List Stmt} (J : Nat -> yae -> St -> Prop) (h1 : -1000 <= lo /\ lo <= 1000) (h2 : -1000 <= hi /\ hi <= 1000) (h0 : J 0 loc st) (turn : Turn o c target body (rngD lo hi) J QF) (fin : ∀ loc st, J (lo - hi).toNat loc st -> QF .next loc st) :
 FORV o c loc st (.rgd lo hi) target body QF := fun s va E' R' I r hr => by
 cases r with
 | rgd ht =>
 refine wpAny_pyIter_range ht (yqc h1 h2) ?_
 rw [yem]
 have S : Step o.P (own c) st s st { s with heap := s.heap.push { cls := .type "range_iterator", data := .fields #[rawInt lo, rawInt ((lo - hi).toNat : Int), rawInt (-1)] } } := Step.push I.si.hs _ s.toks
 refine yfk (T := "range_iterator") (xs := rngD lo hi) (P := fun i h => IsRangeIter h s.heap.objs.size (lo - (i : Nat)) (((lo - hi).toNat : Int) - (i : Nat)) (-1)) (R := fun h => True) (J := J) (Heap.get?_none_of_le (Nat.le_refl _)) I.si S ?_
  (fun i h h' p e => e.trans p) (fun i h p => ⟨_, _, p, rfl, rfl⟩) (by decide) (by decide) (by decide) (fun O O O => trivial) ?_ ?_ (by
   have := Heap.get?_push_size s.heap (o := { cls := .type "range_iterator", data := .fields #[rawInt lo, rawInt ((lo - hi).toNat : Int), rawInt (-1)] }) rfl
   simpa using this)
  trivial h0 turn (by rw [yey]; exact fin) hr rfl
 . exact I.step (Step.push I.si.hs _ s.toks)
 . intro i x loc' st' s' Q' hx hj S' hR hp hq
   have hi' := (List.getElem?_eq_some_iff.mp hx).1
   rw [yey] at hi'
   rw [yoy hx] at hq
   refine wpAny_pyNext_range_item hp (Int.sub_pos_of_lt (Int.ofNat_lt.mpr hi')) fun h' hit hsb => hq h' _ _ ?_ hsb (.int _ _)
   have e1 : lo - ((i + 1 : Nat) : Int) = lo - (i : Int) + -1 := (Int.sub_sub lo i 1).symm
   have e2 : ((lo - hi).toNat : Int) - ((i + 1 : Nat) : Int) = ((lo - hi).toNat : Int) - (i : Int) - 1 := (Int.sub_sub _ (i : Int) 1).symm
   show IsRangeIter _ _ _ _ _
   rw [e1, e2]; exact hit
 . intro loc' st' s' Q' hj S' hR hp hq
   rw [yey] at hp
   exact wpAny_pyNext_range_end S'.ok.handled hp (by omega) hq
theorem ykw {h : Heap} : ∀ {xs : List Int} {ws : List Value}, VRs h (xs.map V.int) ws -> IntsAre ws xs := fun {xs} => by
 induction xs with
 | nil => intro ws r; cases r; exact .nil
 | cons x xs ih =>
  intro ws r
  cases r with
  | cons a r => cases a; exact .cons _ _ (ih r)
theorem yfq {a : Addr} {xs : List Int} (ha : st a = some (.lst (xs.map V.int))) (h : Q (.int xs.sum) st) : yak o k st (.builtin "sum") [.ptr a] Q X := fun s vs S r => by
 cases r.inv1 with
 | mk r1 =>
 cases r1
 obtain ⟨ws, n, e1, rr⟩ := ybc (S.hs a _ ha)
 have hi := ykw rr
 have hn := hi.numsOf
 obtain ⟨ps, hps⟩ := hi.allInts.items
 refine sum_intListG S.ok.handled (xs := ps) (by rw [<- hps]; exact ⟨_, e1, rfl, _, rfl⟩) fun h' tk t' hk => ?_
 have e : preSum (numAt ps) ps.size = xs.sum := by
  rw [preSum_eq, List.take_of_length_le (by simp), <- hn, show ws = (intItems ps).toList by rw [<- hps], nums_intItems]
 rw [e]
 exact ⟨.int _, st, .int _ _, Step.grow S.hs hk, h⟩
end
end NN
end
section
open PySem PySem.W PyProof.Rows PySem.Calls Builtin Builtin.ObjectAttr
set_option maxRecDepth 100000
set_option linter.all false
namespace NN
theorem vri {h h' : Heap} : ∀ {xs : List Int} {ws : List Value}, VRs h (xs.map V.int) ws -> VRs h' (xs.map V.int) ws := fun {xs} => by
 induction xs with
 | nil => intro ws r; cases r; exact .nil
 | cons x xs ih =>
  intro ws r
  cases r with
  | cons a r => cases a; exact .cons (.int _ _) (ih r)
def LI (h : Heap) (a : Addr) (xs : List Int) : Prop := HL h a (xs.map V.int)
theorem LI.to {h h' : Heap} {a : Addr} {xs : List Int} (x : LI h a xs) (k : ∀ o, h.get? a = some o -> h'.get? a = some o) : LI h' a xs := by
 obtain ⟨ws, n, e, r⟩ := x
 exact ⟨ws, n, k _ e, vri r⟩
theorem LI.get {h : Heap} {a : Addr} {xs : List Int} (x : LI h a xs) : ∃ ws : List Value, h.IsList a ws.toArray /\ ws.length = xs.length /\ ∀ (i : Nat) (y : Int), xs[i]? = some y -> ∃ t, ws.toArray[i]? = some (.int y t) := by
 obtain ⟨ws, n, e, r⟩ := x
 refine ⟨ws, ⟨_, e, rfl, _, rfl⟩, by rw [<- r.length, List.length_map], fun i y hy => ?_⟩
 obtain ⟨v, hv, rv⟩ := r.get (x := .int y) (by rw [List.getElem?_map, hy]; rfl)
 obtain ⟨t, rfl⟩ := Ja.iw rv
 exact ⟨t, by simpa using hv⟩
noncomputable def S2i (l1 l2 : Addr) (xs ys : List Int) : St := (St.nil.set l1 (.lst (xs.map V.int))).set l2 (.lst (ys.map V.int))
theorem S2i.le {st : St} {l1 l2 : Addr} {xs ys : List Int} (h1 : st l1 = some (.lst (xs.map V.int))) (h2 : st l2 = some (.lst (ys.map V.int))) : St.le (S2i l1 l2 xs ys) st := fun x => by
 unfold S2i St.set
 split
 . next q => exact .inr (q ▸ h2.symm)
 . split
   . next q => exact .inr (q ▸ h1.symm)
   . exact .inl rfl
structure H3 (h : Heap) (l1 l2 D : Addr) (xs ys zs : List Int) : Prop where
 a : LI h l1 xs
 b : LI h l2 ys
 d : LI h D zs
theorem H3.to {h h' : Heap} {l1 l2 D : Addr} {xs ys zs : List Int} (x : H3 h l1 l2 D xs ys zs) (k : ∀ b o, b = l1 \/ b = l2 \/ b = D -> h.get? b = some o -> h'.get? b = some o) : H3 h' l1 l2 D xs ys zs :=
 ⟨x.a.to fun o => k _ o (.inl rfl), x.b.to fun o => k _ o (.inr (.inl rfl)), x.d.to fun o => k _ o (.inr (.inr rfl))⟩
noncomputable abbrev S3i (l1 l2 D : Addr) (xs ys zs : List Int) : St := (S2i l1 l2 xs ys).set D (.lst (zs.map V.int))
theorem H3.holds {P : Params} {h : Heap} {l1 l2 D : Addr} {xs ys zs : List Int} (x : H3 h l1 l2 D xs ys zs) : Holds P (S3i l1 l2 D xs ys zs) h := fun a m e => by
 have go : ∀ {b ws}, LI h b ws -> HO P h b (.lst (ws.map V.int)) := fun ⟨vs, n, e, r⟩ => ⟨_, e, .lst r⟩
 unfold S3i S2i St.set at e
 split at e
 . next q => cases e; exact q ▸ go x.d
 . split at e
   . next q => cases e; exact q ▸ go x.b
   . split at e
     . next q => cases e; exact q ▸ go x.a
     . cases e
theorem H3.of {P : Params} {h : Heap} {l1 l2 D : Addr} {xs ys zs : List Int} (H : Holds P (S3i l1 l2 D xs ys zs) h) (n1 : D ≠ l1) (n2 : D ≠ l2) (h12 : l1 = l2 -> xs = ys) : H3 h l1 l2 D xs ys zs := by
 have hb : (S3i l1 l2 D xs ys zs) l2 = some (.lst (ys.map V.int)) := (St.set_ne _ _ n2.symm).trans (St.set_same ..)
 refine ⟨?_, ybc (H l2 _ hb), ybc (H D _ (St.set_same ..))⟩
 by_cases q : l1 = l2
 . rw [h12 q, q]; exact ybc (H l2 _ hb)
 . exact ybc (H l1 _ ((St.set_ne _ _ n1.symm).trans ((St.set_ne _ _ q).trans (St.set_same ..))))
theorem Step.frame1 {P : Params} {st st' : St} {s s₁ : Shared} {D : Addr} {m : MO} (H : Holds P st s.heap) (hle : St.le st' st) (x : Step P noF st' s (st'.set D m) s₁) (hD : s.heap.get? D = none) : Step P noF st s (st.set D m) s₁ := by
 have H' : Holds P st' s.heap := fun a m e => H a m (by rcases hle a with q | q; rw [e] at q; cases q; exact q ▸ e)
 have hK : KpV s.heap s₁.heap := KpV.of (DOk.ofSt H') x.kp.d
 refine ⟨fun a ma e => ?_, fun a h => ?_, fun b o hb hst ho => x.ext b o hb (St.le_none hle hst) ho, fun b o hb => hb.elim, x.mono, x.gens, x.os⟩
 . by_cases q : a = D
   . subst q
     rw [St.set_same] at e; cases e
     exact x.holds a _ (St.set_same ..)
   . rw [St.set_ne _ _ q] at e
     rcases hle a with n | n
     . obtain ⟨ob, go, mr⟩ := H a ma e
       obtain ⟨ob', g', kk⟩ := x.ext a ob (fun q => q) n go
       have : ob' = ob := kk.eq (by rcases mr.shape with ⟨c, _⟩ | ⟨c, _⟩ | ⟨C, vs, c, _⟩ <;> rw [c] <;> simp)
       exact ⟨ob, this ▸ g', mr.keepV hK⟩
     . exact x.holds a ma (by rw [St.set_ne _ _ q, n]; exact e)
 . by_cases q : a = D
   . exact .inr (q ▸ hD)
   . rw [St.set_ne _ _ q] at h; exact .inl h
structure ZS (h : Heap) (z TI TO i1 i2 l1 l2 : Addr) (i : Nat) : Prop where
 z : IsZip h z TI TO .none
 ti : IsPair h TI (.ref i1) (.ref i2)
 to : ∃ a b, IsPair h TO a b
 a : h.IsListIter i1 l1 i
 b : h.IsListIter i2 l2 i
structure ZN (h0 : Heap) (S : St) (z TI TO i1 i2 : Addr) : Prop where
 z : h0.get? z = none /\ S z = none
 ti : h0.get? TI = none /\ S TI = none
 to : h0.get? TO = none /\ S TO = none
 a : h0.get? i1 = none /\ S i1 = none
 b : h0.get? i2 = none /\ S i2 = none
theorem ZS.step {P : Params} {F : Addr -> Prop} {S S' : St} {s s' : Shared} {h0 : Heap} {z TI TO i1 i2 l1 l2 : Addr} {i : Nat} (x : ZS s.heap z TI TO i1 i2 l1 l2 i) (n : ZN h0 S z TI TO i1 i2) (X : Step P F S s S' s') (hF : ∀ b o, F b -> s.heap.get? b = some o -> ∃ es n, o.data = .dict es n) : ZS s'.heap z TI TO i1 i2 l1 l2 i := by
 have k : ∀ {b o}, S b = none -> s.heap.get? b = some o -> o.cls ≠ .type "frame" -> (∀ es n, o.data ≠ .dict es n) -> s'.heap.get? b = some o := fun {b o} hs hg hc hd => by
  obtain ⟨o', g, kk⟩ := X.ext b o (fun q => by obtain ⟨es, n, e⟩ := hF b o q hg; exact hd _ _ e) hs hg
  rw [g, kk.eq hc]
 obtain ⟨a, b, e⟩ := x.to
 obtain ⟨oa, a1, a2, a3⟩ := x.a
 obtain ⟨ob, b1, b2, b3⟩ := x.b
 exact ⟨k n.z.2 x.z (by simp) (by simp), k n.ti.2 x.ti (by simp) (by simp), ⟨a, b, k n.to.2 e (by simp) (by simp)⟩, ⟨oa, k n.a.2 a1 (by rw [a2]; simp) (by rw [a3]; simp), a2, a3⟩, ⟨ob, k n.b.2 b1 (by rw [b2]; simp) (by rw [b3]; simp), b2, b3⟩⟩
section
variable {o : Wo} [W : WoOk o] {c : Cx} {k : Kx} {loc : yae} {st : St} {Q : V -> St -> Prop} {X : Exc -> St -> Prop}
inductive ZLoop (o : Wo) (st0 : St) (s0 : Shared) (z TI TO i1 i2 l1 l2 C D : Addr) (g : Int -> Int -> Int) (xs ys : List Int) (n : Nat) (s : Shared) : Prop
 | mk (i : Nat) (hi : i <= xs.length) (hn : n = xs.length - i) (S : Step o.P noF st0 s0 (S3i l1 l2 D xs ys (List.zipWith g (xs.take i) (ys.take i))) s) (Z : ZS s.heap z TI TO i1 i2 l1 l2 i) (m : Str -> Option Value) (ns : s.heap.Ns C m) (ow : OwX s.heap C)
noncomputable def zOk (scope : Scope) (x y : Str) : Bool := scope.kind == .function && scope.names.all (fun y => !(y.2 == NameKind.cell)) && scope.names.lookup x == some .local && scope.names.lookup y == some .local && decide ((scope.names.map (·.1)).Nodup) && !(x == y)
inductive ZOk (scope : Scope) (x y : Str) : Prop
 | mk (k1 : scope.kind = .function) (k2 : ∀ y ∈ scope.names, (y.2 == NameKind.cell) = false) (k3 : scope.names.lookup x = some .local) (k4 : scope.names.lookup y = some .local) (k5 : (scope.names.map (·.1)).Nodup)
theorem ylc {scope : Scope} {x y : Str} (hok : zOk scope x y = true) : ZOk scope x y := by
 unfold zOk at hok
 simp only [Bool.and_eq_true, beq_iff_eq, decide_eq_true_eq, List.all_eq_true] at hok
 obtain ⟨⟨⟨⟨⟨k1, k2⟩, k3⟩, k4⟩, k5⟩, _⟩ := hok
 exact ⟨k1, fun y hy => by simpa using k2 y hy, k3, k4, k5⟩
def ZTurn (o : Wo) (c : Cx) (loc : yae) (elt : Expr) (x y : Str) (scope : Scope) (cl : List (Str × Addr)) (g : Int -> Int -> Int) (xs ys : List Int) : Prop :=
 ∀ S u v C, u ∈ xs -> v ∈ ys -> EV o (yc5 c scope cl C) (((yq9 c scope cl loc).set x (.int u)).set y (.int v)) S elt (fun r S' => r = .int (g u v) /\ S' = S) (fun O O => False)
theorem yr3 {P : Params} {S S' : St} {s s' : Shared} {C : Addr} {F : Addr -> Prop} (w : OwX s.heap C) (X : Step P F S s S' s') (hF : ¬ F C) (hC : S C = none) : OwX s'.heap C := by
 obtain ⟨ob, T, e, cl, d⟩ := w
 obtain ⟨o', g, kk⟩ := X.ext C ob hF hC e
 refine ⟨o', T, g, kk.cls.trans cl, ?_⟩
 rw [kk.data]; exact d
theorem ypa {P : Params} {S S' : St} {s s' : Shared} {C : Addr} {m : Str -> Option Value} {F : Addr -> Prop} (w : s.heap.Ns C m) (X : Step P F S s S' s') (hF : ¬ F C) (hC : S C = none) : s'.heap.Ns C m := by
 obtain ⟨ob, es, ep, g1, g2, g3⟩ := w
 obtain ⟨o', g, kk⟩ := X.ext C ob hF hC g1
 exact ⟨o', es, ep, g, kk.data.trans g2, g3⟩
theorem zip_snoc (g : Int -> Int -> Int) {xs ys : List Int} {i : Nat} {u v : Int} (hu : xs[i]? = some u) (hv : ys[i]? = some v) : List.zipWith g (xs.take (i + 1)) (ys.take (i + 1)) = List.zipWith g (xs.take i) (ys.take i) ++ [g u v] := by
 have h1 := (List.getElem?_eq_some_iff.mp hu).1
 have h2 := (List.getElem?_eq_some_iff.mp hv).1
 rw [List.take_add_one, hu, List.take_add_one, hv]
 exact List.zipWith_append (by rw [List.length_take, List.length_take]; exact (Nat.min_eq_left (Nat.le_of_lt h1)).trans (Nat.min_eq_left (Nat.le_of_lt h2)).symm)
theorem hide {P : Prop} (h : ∀ G : Prop, G = P -> G) : P := h P rfl
theorem zip_turn {elt : Expr} {x y : Str} {px py tp : Pos} {tk : Nat} {scope : Scope} {cl : List (Str × Addr)} {g : Int -> Int -> Int} {xs ys : List Int} {l1 l2 z TI TO i1 i2 C D : Addr} {s0 s : Shared} {n : Nat} {R : Result -> Shared -> Prop}
 (hok : ZOk scope x y) (hcl : ybd c.env.cells scope.names [] = some cl) (hlen : xs.length <= 1000) (hl : xs.length = ys.length) (turn : ZTurn o c loc elt x y scope cl g xs ys)
 (hD1 : D ≠ l1) (hD2 : D ≠ l2) (h12 : l1 = l2 -> xs = ys) (DD : ZipApart z TI TO i1 i2 l1 l2) (zn : ZN s0.heap (S2i l1 l2 xs ys) z TI TO i1 i2)
 (nD : z ≠ D /\ TI ≠ D /\ TO ≠ D /\ i1 ≠ D /\ i2 ≠ D) (nC : z ≠ C /\ TO ≠ C /\ i1 ≠ C /\ i2 ≠ C) (hC0 : s0.heap.get? C = none) (CD : C ≠ D) (CS : (S2i l1 l2 xs ys) C = none) (Cad : ¬ o.ad C)
 (I0 : Inv o c loc (S2i l1 l2 xs ys) s0) (h : ZLoop o (S2i l1 l2 xs ys) s0 z TI TO i1 i2 l1 l2 C D g xs ys n s)
 (fin : ∀ s', Step o.P noF (S2i l1 l2 xs ys) s0 (S3i l1 l2 D xs ys (List.zipWith g xs ys)) s' -> (∃ m, s'.heap.Ns C m) -> R (.ok .next) s') :
 wpAny o.M c.k.A (pyNext (.ref z)) (fun r s₁ => match r with
  | none => R (.ok .next) s₁
  | some v => wpAny o.M c.k.A (letOwnedTupleGo (.Tuple [.Name x px, .Name y py] tk tp) (.ref z) v) (fun O s₁' => wpAny o.M c.k.A (assign (.Tuple [.Name x px, .Name y py] tk tp) (compEnvC scope cl C c.env) v) (fun O s₂ =>
   wpAny o.M c.k.A (eval elt (compEnvC scope cl C c.env)) (fun x s₄ =>
    wpAny o.M c.k.A (call (.builtin "list.append") [.ref D, x]) (fun O s₅ => ∃ m, m < n /\ ZLoop o (S2i l1 l2 xs ys) s0 z TI TO i1 i2 l1 l2 C D g xs ys m s₅) (notedBy o.M c.k.A (compEnvC scope cl C c.env) fun e s' => R (.error e) s') s₄) (notedBy o.M c.k.A (compEnvC scope cl C c.env) fun e s' => R (.error e) s') s₂)
   (notedBy o.M c.k.A (compEnvC scope cl C c.env) fun e s' => R (.error e) s') s₁') (notedBy o.M c.k.A (compEnvC scope cl C c.env) fun e s' => R (.error e) s') s₁) (notedBy o.M c.k.A (compEnvC scope cl C c.env) fun e s' => R (.error e) s') s := by
 refine hide fun G hG => ?_
 obtain ⟨i, hi, hn, S, Z, m, ns, ow⟩ := h
 obtain ⟨k1, k2, k3, k4, k5⟩ := hok
 subst hn
 have H := H3.of S.holds hD1 hD2 h12
 have hh : c.k.A.handled = none := I0.si.ok.handled
 have old : ∀ b o, s0.heap.get? b = some o -> ∀ {W : Addr}, s0.heap.get? W = none -> b ≠ W := fun b o e W w q => by rw [q, w] at e; cases e
 have inZ : ∀ {b}, (S2i l1 l2 xs ys) b = none -> b ≠ D -> (S3i l1 l2 D xs ys (List.zipWith g (xs.take i) (ys.take i))) b = none := fun a b => (St.set_ne _ _ b).trans a
 obtain ⟨w1, e1, n1, g1⟩ := H.a.get
 obtain ⟨w2, e2, n2, g2⟩ := H.b.get
 obtain ⟨ta, tb, hTO⟩ := Z.to
 have step : ∀ {s1 : Shared} {h1 : Heap}, Step o.P noF (S2i l1 l2 xs ys) s0 (S3i l1 l2 D xs ys (List.zipWith g (xs.take i) (ys.take i))) s1 -> (∀ c o, c ≠ z -> c ≠ TO -> c ≠ i1 -> c ≠ i2 -> s1.heap.get? c = some o -> h1.get? c = some o) -> Step o.P noF (S2i l1 l2 xs ys) s0 (S3i l1 l2 D xs ys (List.zipWith g (xs.take i) (ys.take i))) { s1 with heap := h1 } := fun {s1 h1} S1 hk => by
  have hk' : ∀ {b}, (s0.heap.get? b).isSome = true -> ∀ o, s1.heap.get? b = some o -> h1.get? b = some o := fun {b} hs o e => by
   obtain ⟨o0, e0⟩ := Option.isSome_iff_exists.mp hs
   exact hk b o (old _ _ e0 zn.z.1) (old _ _ e0 zn.to.1) (old _ _ e0 zn.a.1) (old _ _ e0 zn.b.1) e
  refine ⟨((H3.of S1.holds hD1 hD2 h12).to fun b o hb e => ?_).holds, S1.sub, fun b o hb hs ho => ?_, fun b o hb => hb.elim, fun b hb => ?_, S1.gens, S1.os⟩
  . rcases hb with rfl | rfl | rfl
    . exact hk _ o DD.l1z DD.l1TO DD.l1i1 DD.l1i2 e
    . exact hk _ o DD.l2z DD.l2TO DD.l2i1 DD.l2i2 e
    . exact hk _ o nD.1.symm nD.2.2.1.symm nD.2.2.2.1.symm nD.2.2.2.2.symm e
  . obtain ⟨o', g', kk⟩ := S1.ext b o hb hs ho
    exact ⟨o', hk' (by rw [ho]; rfl) o' g', kk⟩
  . obtain ⟨o', e'⟩ := Option.isSome_iff_exists.mp (S1.mono b hb)
    rw [hk' hb o' e']; rfl
 induction hv : xs[i]? with
 | none =>
  have hil : i = xs.length := Nat.le_antisymm hi (List.getElem?_eq_none_iff.mp hv)
  refine hG.mpr ?_
  refine wpAny_pyNext_zip_end hh DD Z.z Z.ti hTO Z.a Z.b e1 e2 (.inl (by simpa [n1] using List.getElem?_eq_none_iff.mp hv)) fun h' hk => ?_
  have S' := step S hk
  rw [hil, List.take_length, hl, List.take_length] at S'
  refine fin _ S' ⟨m, ?_⟩
  obtain ⟨ob, es, ep, q1, q2, q3⟩ := ns
  exact ⟨ob, es, ep, hk _ _ nC.1.symm nC.2.1.symm nC.2.2.1.symm nC.2.2.2.symm q1, q2, q3⟩
 | some u =>
  have hlt : i < xs.length := (List.getElem?_eq_some_iff.mp hv).1
  obtain ⟨v, hw⟩ : ∃ v, ys[i]? = some v := ⟨_, List.getElem?_eq_getElem (hl ▸ hlt)⟩
  obtain ⟨tu, hu'⟩ := g1 i u hv
  obtain ⟨tv, hv'⟩ := g2 i v hw
  refine hG.mpr ?_
  refine wpAny_pyNext_zip_item DD Z.z Z.ti hTO Z.a Z.b e1 e2 hu' hv' fun h1 a1 a2 a3 a4 a5 a6 hk => ?_
  refine wpAny_letOwnedTupleGo_zip a1 fun h2 b1 b2 => ?_
  have S2 : Step o.P noF (S2i l1 l2 xs ys) s0 (S3i l1 l2 D xs ys (List.zipWith g (xs.take i) (ys.take i))) { s with heap := h2 } := step S fun c o c1 c2 c3 c4 e => b2.extBut _ _ c1 (hk c o c1 c2 c3 c4 e)
  have szne : ∀ {b o}, s.heap.get? b = some o -> b ≠ s.heap.objs.size := fun e => Nat.ne_of_lt (Heap.lt_size e)
  have T2 : IsTup h2 s.heap.objs.size #[.int u tu, .int v tv] := ⟨_, b2.extBut _ _ (szne Z.z).symm a5, rfl, _, rfl⟩
  have Z2 : ZS h2 z TI TO i1 i2 l1 l2 (i + 1) := ⟨b1, b2.extBut _ _ DD.TIz (hk _ _ DD.TIz DD.TITO DD.TIi1 DD.TIi2 Z.ti), ⟨_, _, b2.extBut _ _ DD.TOz a2⟩, a3.extBut b2.extBut DD.i1z, a4.extBut b2.extBut DD.i2z⟩
  refine assign_Tuple_tuple hh T2 rfl rfl fun h3 he => ?_
  have he' : ∀ b o, h2.get? b = some o -> h3.get? b = some o := fun b o e => he b o (Nat.ne_of_lt (Heap.lt_size e)) e
  have S3 := step S2 fun c o O O O O e => he' c o e
  have Z3 : ZS h3 z TI TO i1 i2 l1 l2 (i + 1) := ⟨he' _ _ Z2.z, he' _ _ Z2.ti, (let ⟨a, b, e⟩ := Z2.to; ⟨a, b, he' _ _ e⟩), Z2.a.at fun o e => he' _ o e, Z2.b.at fun o e => he' _ o e⟩
  have hC3 : ∀ o, s.heap.get? C = some o -> h3.get? C = some o := fun o e => he' _ _ (b2.extBut _ _ nC.1.symm (hk _ _ nC.1.symm nC.2.1.symm nC.2.2.1.symm nC.2.2.2.symm e))
  have I1 : Inv o (yc5 c scope cl C) (yq9 c scope cl loc) (S3i l1 l2 D xs ys (List.zipWith g (xs.take i) (ys.take i))) { s with heap := h3 } := ypz k1 k5 hcl (I0.step S3) (by obtain ⟨ob, T, q1, q2, q3⟩ := ow; exact ⟨ob, T, hC3 _ q1, q2, q3⟩) (by obtain ⟨ob, es, ep, q1, q2, q3⟩ := ns; exact ⟨ob, es, ep, hC3 _ q1, q2, q3⟩) (inZ CS CD) Cad
  have zn' : ZN s0.heap (S3i l1 l2 D xs ys (List.zipWith g (xs.take i) (ys.take i))) z TI TO i1 i2 := ⟨⟨zn.z.1, inZ zn.z.2 nD.1⟩, ⟨zn.ti.1, inZ zn.ti.2 nD.2.1⟩, ⟨zn.to.1, inZ zn.to.2 nD.2.2.1⟩, ⟨zn.a.1, inZ zn.a.2 nD.2.2.2.1⟩, ⟨zn.b.1, inZ zn.b.2 nD.2.2.2.2⟩⟩
  have dC : ∀ {s' : Shared} {m : Str -> Option Value}, s'.heap.Ns C m -> ∀ b o, b = C -> s'.heap.get? b = some o -> ∃ es n, o.data = .dict es n := fun n b o q e => by
   obtain ⟨ob, es, ep, q1, q2, q3⟩ := n
   rw [q, q1] at e; cases e; exact ⟨es, ep, q2⟩
  have ns3 : Heap.Ns h3 C m := by obtain ⟨ob, es, ep, q1, q2, q3⟩ := ns; exact ⟨ob, es, ep, hC3 _ q1, q2, q3⟩
  refine assignInOrder_cons (wpAny_assign_Name (yds I1 (.int u tu) (lookup_relabel_local k3) fun h4 t4 S4 L4 => ?_))
  have I4 := I1.stepF (S4.wider fun b hb => .inl hb) L4
  have Z4 := Z3.step zn' S4 (dC ns3)
  obtain ⟨m4, ns4, _⟩ := L4.ns
  refine assignInOrder_cons (wpAny_assign_Name (yds I4 (.int v tv) (lookup_relabel_local k4) fun h5 t5 S5 L5 => ?_))
  have I5 := I4.stepF (S5.wider fun b hb => .inl hb) L5
  have Z5 := Z4.step zn' S5 (dC ns4)
  obtain ⟨m5, ns5, _⟩ := L5.ns
  refine assignInOrder_nil ?_
  refine wpAny_mono (turn _ u v C (List.mem_of_getElem? hv) (List.mem_of_getElem? hw) _ I5) (fun r s6 p => ?_) fun _ _ ⟨_, _, _, _, _, _, _, q⟩ => q.elim
  obtain ⟨r', st', rr, S6, q6⟩ := p
  obtain ⟨rfl, rfl⟩ := q6
  have I6 := I5.step S6
  have Z6 := Z5.step zn' S6 fun O O q => q.elim
  refine wpAny_mono (yaq (o := o) (k := c.k) (Q := fun O stt => stt = S3i l1 l2 D xs ys (List.zipWith g (xs.take (i + 1)) (ys.take (i + 1)))) (X := fun O O => False) (St.set_same ..) (by rw [List.length_map, List.length_zipWith, List.length_take]; exact Nat.le_trans (Nat.le_trans (Nat.min_le_left ..) (Nat.min_le_left ..)) (Nat.le_trans (Nat.le_of_lt (Nat.lt_of_lt_of_le hlt hlen)) (by decide))) (by
   unfold S3i
   rw [St.set_set, zip_snoc g hv hw, List.map_append]; rfl) s6 [.ref D, r] I6.si (.cons (.ptr D) (.cons rr .nil))) (fun O s7 p => ?_) fun _ _ ⟨_, _, _, _, _, _, _, q⟩ => q.elim
  obtain ⟨_, stt, _, S7, e7⟩ := p
  subst e7
  have Z7 := Z6.step zn' S7 fun O O q => q.elim
  have iC : ∀ j, (S3i l1 l2 D xs ys (List.zipWith g (xs.take j) (ys.take j))) C = none := fun j => (St.set_ne _ _ CD).trans CS
  have ns7 := ypa (ypa ns5 S6 (fun q => q) (iC i)) S7 (fun q => q) (iC i)
  have ow7 := yr3 (yr3 (I5.ow.ex C (.inl rfl)) S6 (fun q => q) (iC i)) S7 (fun q => q) (iC i)
  have Sx := ((((S3.absorbF S4 fun a (q : a = C) => .inr (q ▸ hC0)).absorbF S5 fun a (q : a = C) => .inr (q ▸ hC0)).trans S6).trans S7)
  exact ⟨xs.length - (i + 1), Nat.sub_lt_sub_left hlt (Nat.lt_succ_self i), ⟨i + 1, hlt, rfl, Sx, Z7, m5, ns7, ow7⟩⟩
theorem yom {elt : Expr} {x y a b : Str} {px py tp np ap bp cp pos : Pos} {tk : Nat} {scope : Scope} {cl : List (Str × Addr)} {g : Int -> Int -> Int} {xs ys : List Int} {l1 l2 : Addr} {s : Shared} {E : Value -> Shared -> Prop} {use : Option (Value -> Sem Unit)} {PQ : Value -> Shared -> Prop}
 (hf : EV o c loc st (.Name "zip" np) (fun v st₁ => v = .raw (.type "zip") /\ st₁ = st) (fun O O => False)) (ha : loc a = some (.ptr l1)) (hb : loc b = some (.ptr l2)) (da : (a == ("__debug__" : Str)) = false) (db : (b == ("__debug__" : Str)) = false)
 (h1 : st l1 = some (.lst (xs.map V.int))) (h2 : st l2 = some (.lst (ys.map V.int))) (hok : ZOk scope x y) (hcl : ybd c.env.cells scope.names [] = some cl) (hlen : xs.length <= 1000) (hl : xs.length = ys.length) (turn : ZTurn o c loc elt x y scope cl g xs ys) (I : Inv o c loc st s)
 (hu : ∀ D C s1, CEnd o st s C (st.set D (.lst ((List.zipWith g xs ys).map V.int))) s1 -> st D = none -> compPost o.M c.k.A E use PQ (.ref D) C (.ok .next) s1) :
 wpAny o.M c.k.A (eval (.Call (.Name "zip" np) [.Name a ap, .Name b bp] [] cp) c.env) (fun va s₁ => wpAny o.M c.k.A (pyIter va) (fun it s₂ => wpAny o.M c.k.A (newList []) (fun acc s₃ => wpAny o.M c.k.A (newFunctionEnv scope c.env.globals cl [] c.env.qual none .none (some c.env)) (fun cenv s₄ =>
  codeAny o.M c.k.A (.compStart (.ListComp elt [⟨.Tuple [.Name x px, .Name y py] tk tp, .Call (.Name "zip" np) [.Name a ap, .Name b bp] [] cp, [], 0⟩] scope pos) 0 it acc { cenv with scope := relabel scope c.env }) (compPost o.M c.k.A E use PQ acc cenv.locals) s₄) E s₃) E s₂) E s₁) E s := by
 have no : ∀ {F G fl st s v s'}, PXg o F G fl st s (fun O O => False) v s' -> False := fun ⟨_, _, _, _, _, _, _, q⟩ => q
 refine wpAny_Call_ofName (wpAny_mono (hf s I) (fun va s₁ p => ?_) fun O O p => (no p).elim)
 obtain ⟨v, st₁, rv, S1, e1, e2⟩ := p
 subst e1; subst e2
 have ev := Jd.iv rv
 subst ev
 have I1 := I.step S1
 have hp : [Expr.Name a ap, Expr.Name b bp].all ybh = true := rfl
 refine callWith_of (P := o.K.In) (by rw [ycs hp]; rfl) (ypq rfl) ?_
 have evs : EVs o c loc st₁ cp [.Name a ap, .Name b bp] (fun vs st₂ => vs = [.ptr l1, .ptr l2] /\ st₂ = st₁) (fun O O => False) := yk3 (yib ha da (yk3 (yib hb db (ytb ⟨rfl, rfl⟩))))
 have key := evs s₁ I1
 rw [yb2 (by rfl)] at key ⊢
 refine evalArgs_plain (wpAny_mono key (fun vs s₂ p => ?_) fun O O p => (no p).elim)
 obtain ⟨vs', st₂, rv, S2, q1, q2⟩ := p
 subst q1; subst q2
 have I2 := I1.step S2
 refine ⟨I2.si.wd.k, ?_⟩
 cases rv.inv2 with
 | mk r1 r2 =>
 have e1 := Ja.iv r1
 have e2 := Ja.iv r2
 subst e1; subst e2
 have le := S2i.le h1 h2
 have h12 : l1 = l2 -> xs = ys := fun q => by
  subst q
  rw [h1] at h2
  have : xs.map V.int = ys.map V.int := by injection h2 with e; injection e
  exact List.map_inj_right (fun a b e => V.int.inj e) |>.mp this
 have hs1 : LI s₂.heap l1 xs := ybc (I2.si.hs l1 _ h1)
 have hs2 : LI s₂.heap l2 ys := ybc (I2.si.hs l2 _ h2)
 obtain ⟨w1, c1, n1, g1⟩ := hs1.get
 obtain ⟨w2, c2, n2, g2⟩ := hs2.get
 refine call_zip_2 c1 c2 fun h3 z1 z2 z3 z4 z5 z6 z7 => ?_
 refine wpAny_pyIter_zip z1 ?_
 refine wpAny_newObj_type (yp0 (by obtain ⟨k1, k2, k3, k4, k5⟩ := hok; exact k2) ?_)
 have hsz : h3.objs.size = s₂.heap.objs.size + 5 := z6
 have gone : ∀ {a}, s₂.heap.objs.size <= a -> s₂.heap.get? a = none := fun h => Heap.get?_none_of_le h
 have stn : ∀ {a}, s₂.heap.objs.size <= a -> st₂ a = none := fun h => by
  induction q : st₂ _ with
  | none => rfl
  | some m =>
   obtain ⟨ob, e, _⟩ := I2.si.hs _ m q
   rw [gone h] at e; cases e
 have sn : ∀ {a}, s₂.heap.objs.size <= a -> (S2i l1 l2 xs ys) a = none := fun h => St.le_none le (stn h)
 have l1n : l1 < s₂.heap.objs.size := by obtain ⟨_, e, _⟩ := c1; exact Heap.lt_size e
 have l2n : l2 < s₂.heap.objs.size := by obtain ⟨_, e, _⟩ := c2; exact Heap.lt_size e
 have Ib := I2.older le
 have Sg : Step o.P noF (S2i l1 l2 xs ys) s₂ (S2i l1 l2 xs ys) { s₂ with heap := h3 } := Step.grow (t := s₂.toks) Ib.si.hs z7
 have Sa := Sg.trans (Step.alloc Sg.holds { cls := .type "list", dict := none, data := .seq ([] : List Value).toArray } (.lst []) rfl (.lst (ws := []) .nil) s₂.toks)
 have Sd := Sa.trans (Step.push Sa.holds { cls := .type "dict", data := .dict #[] } s₂.toks)
 have up : ∀ {b ob}, h3.get? b = some ob -> ((h3.push { cls := .type "list", dict := none, data := .seq ([] : List Value).toArray }).push { cls := .type "dict", data := .dict #[] }).get? b = some ob := fun e => Heap.get?_push_of_some _ (Heap.get?_push_of_some _ e)
 have csz : (h3.push { cls := .type "list", dict := none, data := .seq ([] : List Value).toArray }).objs.size = h3.objs.size + 1 := Heap.size_push ..
 have Cn : s₂.heap.objs.size <= (h3.push { cls := .type "list", dict := none, data := .seq ([] : List Value).toArray }).objs.size := by omega
 have zn : ZN s₂.heap (S2i l1 l2 xs ys) (s₂.heap.objs.size + 4) (s₂.heap.objs.size + 2) (s₂.heap.objs.size + 3) s₂.heap.objs.size (s₂.heap.objs.size + 1) :=
  ⟨⟨gone (Nat.le_add_right ..), sn (Nat.le_add_right ..)⟩, ⟨gone (Nat.le_add_right ..), sn (Nat.le_add_right ..)⟩, ⟨gone (Nat.le_add_right ..), sn (Nat.le_add_right ..)⟩, ⟨gone (Nat.le_refl _), sn (Nat.le_refl _)⟩, ⟨gone (Nat.le_add_right ..), sn (Nat.le_add_right ..)⟩⟩
 have Cad : ¬ o.ad (h3.push { cls := .type "list", dict := none, data := .seq ([] : List Value).toArray }).objs.size := fun q => nsome (In.ex Ib.si.wd q) (gone Cn)
 have St0 : ZLoop o (S2i l1 l2 xs ys) s₂ (s₂.heap.objs.size + 4) (s₂.heap.objs.size + 2) (s₂.heap.objs.size + 3) s₂.heap.objs.size (s₂.heap.objs.size + 1) l1 l2 (h3.push { cls := .type "list", dict := none, data := .seq ([] : List Value).toArray }).objs.size h3.objs.size g xs ys xs.length _ :=
  ⟨0, Nat.zero_le _, rfl, Sd, ⟨up z1, up z2, ⟨_, _, up z3⟩, z4.at fun o e => up e, z5.at fun o e => up e⟩, _, Heap.Ns.new _ _, ⟨_, _, Heap.get?_push_size _ rfl, rfl, .inl ⟨_, _, rfl⟩⟩⟩
 have loop := LCp.codeAny_compLoop_pair (elt := elt) (iter := .Call (.Name "zip" np) [.Name a ap, .Name b bp] [] cp) (elts := [.Name x px, .Name y py]) (x1 := tk) (tp := tp) (scope := scope) (pos := pos) (it := .ref (s₂.heap.objs.size + 4)) (acc := .ref h3.objs.size) (env := compEnvC scope cl (h3.push { cls := .type "list", dict := none, data := .seq ([] : List Value).toArray }).objs.size c.env) (prog := o.prog) (w := o.w) (A := c.k.A) (R := compPost o.M c.k.A E use PQ (.ref h3.objs.size) (h3.push { cls := .type "list", dict := none, data := .seq ([] : List Value).toArray }).objs.size) (fun n s' => ZLoop o (S2i l1 l2 xs ys) s₂ (s₂.heap.objs.size + 4) (s₂.heap.objs.size + 2) (s₂.heap.objs.size + 3) s₂.heap.objs.size (s₂.heap.objs.size + 1) l1 l2 (h3.push { cls := .type "list", dict := none, data := .seq ([] : List Value).toArray }).objs.size h3.objs.size g xs ys n s') (fun n s' h =>
  zip_turn hok hcl hlen hl turn (Nat.ne_of_gt (Nat.lt_of_lt_of_le l1n (by omega))) (Nat.ne_of_gt (Nat.lt_of_lt_of_le l2n (by omega))) h12 (zipApart_new l1n l2n) zn ⟨Nat.ne_of_lt (by omega), Nat.ne_of_lt (by omega), Nat.ne_of_lt (by omega), Nat.ne_of_lt (by omega), Nat.ne_of_lt (by omega)⟩ ⟨Nat.ne_of_lt (by omega), Nat.ne_of_lt (by omega), Nat.ne_of_lt (by omega), Nat.ne_of_lt (by omega)⟩ (gone Cn) (Nat.ne_of_gt (by omega)) (sn Cn) Cad Ib h fun s' Sx ⟨m, ns⟩ =>
   hu _ _ _ ⟨ya5 (S1.trans S2) (gone Cn), (St.set_ne _ _ (Nat.ne_of_gt (by omega))).trans (stn Cn), m, ns, (S1.trans S2).trans (Sx.frame1 I2.si.hs le (gone (by omega)))⟩ (stn (by omega))) xs.length St0
 exact codeAny_compStart_list loop (wpAny_pyIter_zip (up z1) loop)
theorem ypf {scope : Scope} (k5 : (scope.names.map (·.1)).Nodup) : ∀ y ∈ scope.names, y.2 = .local -> scope.names.lookup y.1 = some .local := fun y hy hl => by
 have key : ∀ {l : List (Str × NameKind)}, (l.map (·.1)).Nodup -> ∀ y ∈ l, l.lookup y.1 = some y.2 := by
  intro l
  induction l with
  | nil => intro _ y h; cases h
  | cons p r ih =>
   intro nd y hy
   have nd' := List.nodup_cons.mp nd
   rw [List.lookup_cons]
   rcases List.mem_cons.mp hy with rfl | hy
   . simp
   . have : (y.1 == p.1) = false := beq_eq_false_iff_ne.mpr fun q => nd'.1 (by show p.1 ∈ _; rw [<- q]; exact List.mem_map_of_mem hy)
     rw [this]; exact ih nd'.2 y hy
 rw [key k5 y hy, hl]
theorem ev_zip {elt : Expr} {x y a b : Str} {px py tp np ap bp cp pos : Pos} {tk : Nat} {scope : Scope} (cl : List (Str × Addr)) (g : Int -> Int -> Int) {xs ys : List Int} {l1 l2 : Addr}
 (hs : ∀ env z, foldedSetIterable (.Call (.Name "zip" np) [.Name a ap, .Name b bp] [] cp) env z = pure z)
 (hf : EV o c loc st (.Name "zip" np) (fun v st₁ => v = .raw (.type "zip") /\ st₁ = st) (fun O O => False)) (ha : loc a = some (.ptr l1)) (hb : loc b = some (.ptr l2)) (da : (a == ("__debug__" : Str)) = false) (db : (b == ("__debug__" : Str)) = false)
 (h1 : st l1 = some (.lst (xs.map V.int))) (h2 : st l2 = some (.lst (ys.map V.int))) (hok : zOk scope x y = true) (hcl : ybd c.env.cells scope.names [] = some cl) (hlen : xs.length <= 1000) (hl : xs.length = ys.length) (turn : ZTurn o c loc elt x y scope cl g xs ys)
 (fin : ∀ D, st D = none -> Q (.ptr D) (st.set D (.lst ((List.zipWith g xs ys).map V.int)))) :
 EV o c loc st (.ListComp elt [⟨.Tuple [.Name x px, .Name y py] tk tp, .Call (.Name "zip" np) [.Name a ap, .Name b bp] [] cp, [], 0⟩] scope pos) Q X := fun s I => by
 have ok := ylc hok
 rw [eval_ListComp]
 refine wpAny_comprehension_free (use := none) rfl (hs _) (yfp hcl) (by induction ok; assumption) (by induction ok; exact ypf ‹_›) ?_
 exact yom (E := PX o noF st s X) hf ha hb da db h1 h2 ok hcl hlen hl turn I fun D C s1 ⟨e0, e1, m, ns, S1⟩ hD => ⟨m, ns, fun h' hsb => ⟨.ptr D, _, .ptr D, S1.gone (t := s1.toks) e1 e0 (ymi S1.holds ns) hsb.extBut, fin D hD⟩⟩
theorem yk2 {elt : Expr} {x y n a b : Str} {px py tp nnp np ap bp cp pos asp : Pos} {tk : Nat} {scope : Scope} {QF : Fl -> yae -> St -> Prop} (cl : List (Str × Addr)) (g : Int -> Int -> Int) {xs ys : List Int} {l1 l2 : Addr}
 (hs : ∀ env z, foldedSetIterable (.Call (.Name "zip" np) [.Name a ap, .Name b bp] [] cp) env z = pure z)
 (hsw : swapsWith (.ListComp elt [⟨.Tuple [.Name x px, .Name y py] tk tp, .Call (.Name "zip" np) [.Name a ap, .Name b bp] [] cp, [], 0⟩] scope pos) (some (.Name n nnp)) asp.line c.env = pure true) (hy : ybp c.env n = true)
 (hf : EV o c loc st (.Name "zip" np) (fun v st₁ => v = .raw (.type "zip") /\ st₁ = st) (fun O O => False)) (ha : loc a = some (.ptr l1)) (hb : loc b = some (.ptr l2)) (da : (a == ("__debug__" : Str)) = false) (db : (b == ("__debug__" : Str)) = false)
 (h1 : st l1 = some (.lst (xs.map V.int))) (h2 : st l2 = some (.lst (ys.map V.int))) (hok : zOk scope x y = true) (hcl : ybd c.env.cells scope.names [] = some cl) (hlen : xs.length <= 1000) (hl : xs.length = ys.length) (turn : ZTurn o c loc elt x y scope cl g xs ys)
 (fin : ∀ D, st D = none -> QF .next (loc.set n (.ptr D)) (st.set D (.lst ((List.zipWith g xs ys).map V.int)))) :
 EX o c loc st (.Assign [.Name n nnp] (.ListComp elt [⟨.Tuple [.Name x px, .Name y py] tk tp, .Call (.Name "zip" np) [.Name a ap, .Name b bp] [] cp, [], 0⟩] scope pos) asp) QF X := fun s I => by
 have ok := ylc hok
 rw [exec_Assign_Name_used _ _ _ _ hsw]
 refine wpAny_bind (wpAny_standAt (wpAny_bind (wpAny_bind (wpAny_comprehension_free (use := some (assign (.Name n nnp) c.env)) rfl (hs _) (yfp hcl) (by induction ok; assumption) (by induction ok; exact ypf ‹_›) ?_))))
 refine yom hf ha hb da db h1 h2 ok hcl hlen hl turn I fun D C s1 ⟨e0, e1, m, ns, S1⟩ hD => ?_
 have hq := fin D hD
 have I1 := I.step S1
 show wpAny o.M c.k.A (do standAt nnp; bindName c.env n (.ref D)) _ _ s1
 refine wpAny_bind (wpAny_standAt (wpAny_bindName (ycd I1 (.ptr D) hy fun h2 t S2 L => ?_)))
 have nC : ¬ own c C := fun q => by
  obtain ⟨ob, T, g, _⟩ := I.ow.ex C q
  rw [e0] at g; cases g
 obtain ⟨ob, es, ep, g1, g2, g3⟩ := ns
 obtain ⟨ob', g', kk⟩ := S2.ext C ob nC e1 g1
 have ns2 : h2.Ns C m := ⟨ob', es, ep, g', kk.data.trans g2, g3⟩
 refine ⟨m, ns2, fun h3 hsb => ?_⟩
 have I2 := I1.stepF S2 L
 have dk := ymi (h := h2) S2.holds ns2
 have S3 := ((S1.weak (F := own c)).trans S2).gone (t := t) e1 e0 dk hsb.extBut
 have L3 : LocR c.env (loc.set n (.ptr D)) h3 := LocR.keepD I2 dk (fun b ob hb hob => ⟨ob, hsb.extBut b ob (fun q => hb (.inr q)) hob, .refl ob⟩) fun a ha q => q.elim (fun q => q (I2.ost a ha)) fun q => nC (q ▸ ha)
 exact wpAny_pure (wpAny_pure ⟨.next, _, _, .next, S3, L3, hq⟩)
end
section
variable {o : Wo} [W : WoOk o] {c : Cx} {k : Kx} {loc : yae} {st : St} {Q : V -> St -> Prop} {X : Exc -> St -> Prop}
theorem ye5 {a : Addr} {xs : List Int} {x : Int} (ha : st a = some (.lst (xs.map V.int))) (h : Q (.bool (xs.any (· == x))) st) : CMP o k st .In (.int x) (.ptr a) Q X := fun s va vb S ra rb => by
 obtain ⟨t, rfl⟩ := Ja.iw ra
 have e := Ja.iv rb
 subst e
 obtain ⟨ws, n, e1, rr⟩ := ybc (S.hs a _ ha)
 exact in_list_ints ⟨_, e1, rfl, _, rfl⟩ (ykw rr) ⟨_, st, .bool _, Step.refl S.hs, h⟩
theorem yml {xs : List Int} {x : Int} (h : Q (.bool (!xs.any (· == x))) st) : CMP o k st .NotIn (.int x) (.tup (xs.map V.int)) Q X := fun s va vb S ra rb => by
 obtain ⟨t, rfl⟩ := Ja.iw ra
 obtain ⟨ws, a, n, hx, rr, rfl⟩ := rb.tup_inv
 exact notin_tuple_ints ⟨_, hx, rfl, _, rfl⟩ (ykw rr) ⟨_, st, .bool _, Step.refl S.hs, h⟩
theorem yd3 {a : Str} {xs : List V} {ss : List Str} (hs : V.strs xs = some ss) (h : Q (.bool (!ss.any fun y => y == a)) st) : CMP o k st .NotIn (.str a) (.tup xs) Q X := fun s va vb S ra rb => by
 obtain ⟨t, rfl⟩ := Jb.iw ra
 obtain ⟨ws, b, n, ht, rr, rfl⟩ := rb.tup_inv
 obtain ⟨e, h1, h2⟩ := yjh a t rr hs
 refine PySem.SeqRoads2.notIn_tuple e (fun y hy => h1 y (by simpa using hy)) ht ?_
 rw [List.any_toArray, h2]
 exact ⟨_, st, .bool _, Step.refl S.hs, h⟩
def EvB (o : Wo) (c : Cx) (loc : yae) (st : St) (e : Expr) (b : Bool) : Prop := EV o c loc st e (fun v st' => v = .bool b /\ st' = st) (fun O O => False)
theorem yo5 {x : Str} {t : Nat} {kp pos : Pos} {e : Expr} {ks : List (Option Expr)} {vs : List Expr} {b : Bool} {s : Shared} {D : Addr} {od : Obj} {E : Value -> Shared -> Prop} {R : List (Value × Value) -> Shared -> Prop} {s0 : Shared}
 (S0 : Step o.P noF st s0 st s) (I0 : Inv o c loc st s0) (hD : st D = none) (gD : s.heap.get? D = some od) (nf : od.cls ≠ .type "frame") (he : EvB o c loc st e b)
 (h : ∀ s' t', Step o.P noF st s0 st s' -> s'.heap.get? D = some od -> wpAny o.M c.k.A (evalPairs (pairTrees ks vs c.env pos)) (fun r s₃ => R ((.str x t', .bool b) :: r) s₃) E s') :
 wpAny o.M c.k.A (evalPairs (pairTrees (some (.Constant (.str x) t kp) :: ks) (e :: vs) c.env pos)) R E s := by
 have no : ∀ {F G fl st s v s'}, PXg o F G fl st s (fun O O => False) v s' -> False := fun ⟨_, _, _, _, _, _, _, q⟩ => q
 have key : EV o c loc st (.Constant (.str x) t kp) (fun v st' => v = .str x /\ st' = st) (fun O O => False) := ev_str ⟨rfl, rfl⟩
 refine pairTrees_cons_walk (wpAny_mono (key s (I0.step S0)) (fun va s1 p => ?_) fun O O p => (no p).elim)
 obtain ⟨v, st1, rv, S1, e1, e2⟩ := p
 subst e1; subst e2
 obtain ⟨t', rfl⟩ := Jb.iw rv
 refine wpAny_mono (he s1 ((I0.step S0).step S1)) (fun vb s2 p => ?_) fun O O p => (no p).elim
 obtain ⟨v, st1, rv, S2, e1, e2⟩ := p
 subst e1; subst e2
 have := Jb.iv rv
 subst this
 refine h s2 t' ((S0.trans S1).trans S2) ?_
 obtain ⟨o1, g1, k1⟩ := S1.ext D od (fun q => q) hD gD
 have e1 := k1.eq nf; subst e1
 obtain ⟨o2, g2, k2⟩ := S2.ext D _ (fun q => q) hD g1
 rw [g2, k2.eq nf]
theorem ev_dict4 {x1 x2 x3 x4 : Str} {t1 t2 t3 t4 : Nat} {p1 p2 p3 p4 pos : Pos} {e1 e2 e3 e4 : Expr} {b1 b2 b3 b4 : Bool} (h1 : EvB o c loc st e1 b1) (h2 : EvB o c loc st e2 b2) (h3 : EvB o c loc st e3 b3) (h4 : EvB o c loc st e4 b4)
 (hm : ∀ v1 v2 v3 v4 : Value, merged [] [(x1, v1), (x2, v2), (x3, v3), (x4, v4)] = [(x1, v1), (x2, v2), (x3, v3), (x4, v4)])
 (h : ∀ a, st a = none -> Q (.ptr a) (st.set a (.sd [(x1, .bool b1), (x2, .bool b2), (x3, .bool b3), (x4, .bool b4)]))) :
 EV o c loc st (.Dict [some (.Constant (.str x1) t1 p1), some (.Constant (.str x2) t2 p2), some (.Constant (.str x3) t3 p3), some (.Constant (.str x4) t4 p4)] [e1, e2, e3, e4] pos) Q X := fun s I => by
 have hD := ybo I.si.hs
 have S0 : Step o.P noF st s st { s with heap := s.heap.push { cls := .type "dict", data := .dict #[] } } := Step.push I.si.hs { cls := .type "dict", data := .dict #[] } s.toks
 refine wpAny_Dict_walk (knd := strKind o.prog o.w) rfl rfl (by simp) (Nat.le_of_ble_eq_true (by rfl)) ?_
 refine yo5 S0 I hD (Heap.get?_push_size _ rfl) (by simp) h1 fun s1 t1 S1 g1 => ?_
 refine yo5 S1 I hD g1 (by simp) h2 fun s2 t2 S2 g2 => ?_
 refine yo5 S2 I hD g2 (by simp) h3 fun s3 t3 S3 g3 => ?_
 refine yo5 S3 I hD g3 (by simp) h4 fun s4 t4 S4 g4 => ?_
 refine pairTrees_nil_walk ⟨[(x1, .bool b1), (x2, .bool b2), (x3, .bool b3), (x4, .bool b4)], ⟨isS _ _, rfl, isS _ _, rfl, isS _ _, rfl, isS _ _, rfl, trivial⟩, ?_, fun h' D' hs => ?_⟩
 . exact ⟨_, #[], 0, g4, ⟨rfl, rfl, rfl⟩, rfl, fun e he => by simp at he, .nil, List.nodup_nil⟩
 . rw [hm] at D'
   obtain ⟨ob, es, n, q1, ⟨c1, c2, c3⟩, q2, q3, q4, q5⟩ := D'
   have eo : ob = yoc es.toList n := by obtain ⟨cl, di, da, sl⟩ := ob; dsimp only at c1 c2 c3 q2; subst c1 c2 c3 q2; simp
   have a' : SK h' [(x1, V.bool b1), (x2, .bool b2), (x3, .bool b3), (x4, .bool b4)] [(x1, Value.bool b1), (x2, .bool b2), (x3, .bool b3), (x4, .bool b4)] := .cons (.bool _) (.cons (.bool _) (.cons (.bool _) (.cons (.bool _) .nil)))
   have hO : HO o.P h' s.heap.objs.size (.sd [(x1, .bool b1), (x2, .bool b2), (x3, .bool b3), (x4, .bool b4)]) := ⟨_, eo ▸ q1, .sd (yrt (prog := o.prog) a' (by simpa using q4) fun e he => q3 e (by simpa using he))⟩
   have S5 : Step o.P noF st s st { s4 with heap := h', toks := s4.toks + 4 } := S4.gone hD (Heap.get?_none_of_le (Nat.le_refl _)) (by exact ymi S4.holds ⟨_, #[], 0, g4, rfl, fun O he => by simp at he, fun O => rfl⟩) hs.extBut
   exact ⟨.ptr _, _, .ptr _, S5.adopt (Heap.get?_none_of_le (Nat.le_refl _)) hO, h _ hD⟩
end
end NN
end
section
open PySem PySem.W PyProof.Rows PySem.Calls
set_option maxRecDepth 100000
set_option linter.all false
set_option backward.match.sparseCases false
set_option maxHeartbeats 4000000
namespace NN
inductive GO : Prop where
 | go
noncomputable def ypc : Expr -> Bool
 | .ListComp .. => false
 | .SetComp .. => false
 | .DictComp .. => false
 | _ => true
set_option tactic.hygienic true in
theorem yl8 {e : Expr} (h : ypc e = true) (t : Option Expr) (n : Nat) (env : Env) : swapsWith e t n env = pure false := by
 revert h
 apply @Expr.casesOn (fun e => ypc e = true -> swapsWith e t n env = pure false) e <;> intros <;> first | rfl | (rename_i h; exact Bool.noConfusion h)
noncomputable def yjo : Expr -> Expr -> Bool
 | .Tuple .., .Tuple .. => false
 | .List .., _ => false
 | .Starred .., _ => false
 | _, _ => true
set_option tactic.hygienic true in
theorem ysg {t e : Expr} (h : yjo t e = true) (env : Env) : swappedStores [t] e env = pure none := by
 revert h
 apply @Expr.casesOn (fun t => yjo t e = true -> swappedStores [t] e env = pure none) t <;> intros <;> first | rfl | (rename_i h; first | exact Bool.noConfusion h | (revert h; apply @Expr.casesOn (fun e => yjo (.Tuple _ _ _) e = true -> swappedStores [.Tuple _ _ _] e env = pure none) e <;> intros <;> first | rfl | (rename_i h; exact Bool.noConfusion h)))
set_option tactic.hygienic true in
theorem yn1 {t e : Expr} (h : yjo t e = true) (env : Env) : (assignEach [t] env).map (·.2) = [assign t env] := by
 revert h
 apply @Expr.casesOn (fun t => yjo t e = true -> (assignEach [t] env).map (·.2) = [assign t env]) t <;> intros <;> first | rfl | (rename_i h; exact Bool.noConfusion h)
noncomputable def yp5 : Expr -> Bool
 | .Call .. => false
 | _ => true
set_option tactic.hygienic true in
theorem yms {e : Expr} (h : yp5 e = true) (name : Str) (env : Env) (w : Sem Value) : attributeBase e name env w = w := by
 revert h
 apply @Expr.casesOn (fun e => yp5 e = true -> attributeBase e name env w = w) e <;> intros <;> first | rfl | (rename_i h; exact Bool.noConfusion h)
noncomputable def methE (e : Expr) (args : List Expr) (apos pos : Pos) : Bool := yp5 e && (args.all ybh && (Nat.ble args.length 28 && (apos.endLine == pos.line)))
theorem ypb {α : Type} : ∀ {l : List (Bool × α)}, l.any (·.1) = false -> l.all (!·.1) = true
 | [], _ => rfl
 | x :: l, h => by
  rw [List.any_cons, Bool.or_eq_false_iff] at h
  rw [List.all_cons, h.1, ypb h.2]; rfl
theorem ysk {e : Expr} {name : Str} {apos pos : Pos} {args : List Expr} (h : methE e args apos pos = true) (env : Env) : ∃ pl, eval (.Call (.Attribute e name apos) args [] pos) env = (do
 let ov <- eval e env
 standAt apos.atName
 let (f, first) <- holding [ov] (getMethod ov name pl)
 callWith pos f first (backTo pos (starEach args env)) (backToKw pos (keywordEach [] env))) := by
 unfold methE at h
 simp only [Bool.and_eq_true] at h
 obtain ⟨h1, h2, h3, h4⟩ := h
 have e1 : eval (.Call (.Attribute e name apos) args [] pos) env = (do
  let ov <- attributeBase e name env (eval e env)
  standAt apos.atName
  methodCall e name apos pos env ov (args.length + 0) (backTo pos (starEach args env)) (backToKw pos (keywordEach [] env))) := rfl
 have e2 : methodCallForm (args.length + 0) (backTo pos (starEach args env)) (backToKw pos (keywordEach [] env)) = true := by
  have hb := ycs (env := env) (pos := pos) h2
  have h3 := Nat.le_of_ble_eq_true h3
  unfold methodCallForm
  rw [Bool.and_eq_true, Bool.and_eq_true]
  refine ⟨⟨?_, rfl⟩, decide_eq_true (show args.length < 30 from Nat.lt_of_le_of_lt h3 (by decide))⟩
  exact ypb hb
 rw [yms h1] at e1
 refine ⟨(do return (<- importBound e env).getD true), ?_⟩
 rw [e1]
 unfold methodCall
 rw [e2]
 unfold calleeOf methodCallPos
 simp only [h4, if_true, Bool.not_true, Bool.false_or, pure_bind]
noncomputable def trVal : Expr -> Bool
 | .Name .. => true
 | .Call .. => true
 | .Attribute .. => true
 | .Subscript .. => true
 | .Constant .. => true
 | .BinOp .. => true
 | _ => false
set_option tactic.hygienic true in
theorem trVal_ok {e : Expr} (h : trVal e = true) (env : Env) (whole : Sem Value) : isTrue e env whole = (do let v <- whole; standAt e.pos; holding [v] (truthy v)) := by
 revert h
 apply @Expr.casesOn (fun e => trVal e = true -> isTrue e env whole = (do let v <- whole; standAt e.pos; holding [v] (truthy v))) e <;> intros <;> first | rfl | (rename_i h; exact Bool.noConfusion h)
section
variable {o : Wo} [W : WoOk o] {c : Cx} {k : Kx} {loc : yae} {st : St} {X : Exc -> St -> Prop}
theorem EVs.mono {e : List Expr} {pos : Pos} {Q Q' : List V -> St -> Prop} (h : EVs o c loc st pos e Q X) (q : ∀ v s, Q v s -> Q' v s) : EVs o c loc st pos e Q' X := fun s I =>
 wpAny_mono (h s I) (fun _ _ ⟨r, st', a, b, d⟩ => ⟨r, st', a, b, q _ _ d⟩) fun O O p => p
theorem TR.mono {e : Expr} {Q Q' : Bool -> St -> Prop} (h : TR o c loc st e Q X) (q : ∀ v s, Q v s -> Q' v s) : TR o c loc st e Q' X := fun s I =>
 wpAny_mono (h s I) (fun _ _ ⟨st', b, d⟩ => ⟨st', b, q _ _ d⟩) fun O O p => p
theorem EX.mono {e : Stmt} {Q Q' : Fl -> yae -> St -> Prop} (h : EX o c loc st e Q X) (q : ∀ f l s, Q f l s -> Q' f l s) : EX o c loc st e Q' X := fun s I =>
 wpAny_mono (h s I) (fun _ _ ⟨f, l, st', a, b, d, p⟩ => ⟨f, l, st', a, b, d, q _ _ _ p⟩) fun O O p => p
theorem EXS.mono {e : List Stmt} {Q Q' : Fl -> yae -> St -> Prop} (h : EXS o c loc st e Q X) (q : ∀ f l s, Q f l s -> Q' f l s) : EXS o c loc st e Q' X := fun s I =>
 wpAny_mono (h s I) (fun _ _ ⟨f, l, st', a, b, d, p⟩ => ⟨f, l, st', a, b, d, q _ _ _ p⟩) fun O O p => p
theorem ASG.mono {t : Expr} {v : V} {Q Q' : yae -> St -> Prop} (h : ASG o c loc st t v Q X) (q : ∀ l s, Q l s -> Q' l s) : ASG o c loc st t v Q' X := fun s u I r =>
 wpAny_mono (h s u I r) (fun _ _ ⟨l, st', a, b, d⟩ => ⟨l, st', a, b, q _ _ d⟩) fun O O p => p
theorem PT.mono {e : Option Expr} {Q Q' : Option Int -> St -> Prop} (h : PT o c loc st e Q X) (q : ∀ v s, Q v s -> Q' v s) : PT o c loc st e Q' X := fun s I =>
 wpAny_mono (h s I) (fun _ _ ⟨r, st', a, b, d⟩ => ⟨r, st', a, b, q _ _ d⟩) fun O O p => p
end
section
variable {o : Wo} {k : Kx} {st : St} {X : Exc -> St -> Prop}
theorem yot {a : V} {Q Q' : Bool -> St -> Prop} (h : TRV o k st a Q X) (q : ∀ v s, Q v s -> Q' v s) : TRV o k st a Q' X := fun s va I r =>
 wpAny_mono (h s va I r) (fun _ _ ⟨st', b, d⟩ => ⟨st', b, q _ _ d⟩) fun O O p => p
theorem cmp_mono {op : CmpOp} {a b : V} {Q Q' : V -> St -> Prop} (h : CMP o k st op a b Q X) (q : ∀ v s, Q v s -> Q' v s) : CMP o k st op a b Q' X := fun s va vb I r r' =>
 wpAny_mono (h s va vb I r r') (fun _ _ ⟨r, st', a, b, d⟩ => ⟨r, st', a, b, q _ _ d⟩) fun O O p => p
end
noncomputable def nthV : List V -> Nat -> Option V
 | [], _ => none
 | x :: _, 0 => some x
 | _ :: xs, n + 1 => nthV xs n
theorem yo8 : ∀ {xs : List V} {n : Nat} {x : V}, nthV xs n = some x -> xs[n]? = some x
 | x :: _, 0, _, h => by cases h; rfl
 | _ :: xs, n + 1, _, h => by rw [List.getElem?_cons_succ]; exact yo8 (xs := xs) (by exact h)
section
variable (o : Wo) (k : Kx) (X : Exc -> St -> Prop)
def wB (op : Operator) (a b : V) (Q : V -> St -> Prop) (st : St) : Prop :=
 match op with
 | .Add => match a, b with
  | .int i, .int j => Q (.int (i + j)) st
  | a, b => GO -> OPB o k st .Add a b Q X
 | .Sub => match a, b with
  | .int i, .int j => Q (.int (i - j)) st
  | a, b => GO -> OPB o k st .Sub a b Q X
 | op => GO -> OPB o k st op a b Q X
def wI (op : Operator) (a b : V) (Q : V -> St -> Prop) (st : St) : Prop :=
 match op with
 | .Add => match a, b with
  | .int i, .int j => Q (.int (i + j)) st
  | a, b => GO -> OPI o k st .Add a b Q X
 | .Sub => match a, b with
  | .int i, .int j => Q (.int (i - j)) st
  | a, b => GO -> OPI o k st .Sub a b Q X
 | op => GO -> OPI o k st op a b Q X
def wC (op : CmpOp) (a b : V) (Q : V -> St -> Prop) (st : St) : Prop :=
 match op with
 | .Lt => match a, b with
  | .int i, .int j => Q (.bool (decide (i < j))) st
  | a, b => GO -> CMP o k st .Lt a b Q X
 | .LtE => match a, b with
  | .int i, .int j => Q (.bool (decide (i <= j))) st
  | a, b => GO -> CMP o k st .LtE a b Q X
 | .Gt => match a, b with
  | .int i, .int j => Q (.bool (decide (j < i))) st
  | a, b => GO -> CMP o k st .Gt a b Q X
 | .GtE => match a, b with
  | .int i, .int j => Q (.bool (decide (j <= i))) st
  | a, b => GO -> CMP o k st .GtE a b Q X
 | .Eq => match b with
  | .int j => (match a with
   | .int i => Q (.bool (i == j)) st
   | a => GO -> CMP o k st .Eq a (.int j) Q X)
  | .str y => (match a with
   | .str x => Q (.bool (x == y)) st
   | a => GO -> CMP o k st .Eq a (.str y) Q X)
  | b => GO -> CMP o k st .Eq a b Q X
 | .NotEq => match b with
  | .int j => (match a with
   | .int i => Q (.bool (i != j)) st
   | a => GO -> CMP o k st .NotEq a (.int j) Q X)
  | .str y => (match a with
   | .str x => Q (.bool (x != y)) st
   | a => GO -> CMP o k st .NotEq a (.str y) Q X)
  | b => GO -> CMP o k st .NotEq a b Q X
 | .Is => match b with
  | .none => Q (.bool a.isNone) st
  | b => GO -> CMP o k st .Is a b Q X
 | .IsNot => match b with
  | .none => Q (.bool (!a.isNone)) st
  | b => GO -> CMP o k st .IsNot a b Q X
 | op => GO -> CMP o k st op a b Q X
def wV (a : V) (Q : Bool -> St -> Prop) (st : St) : Prop :=
 match a with
 | .bool b => Q b st
 | .int i => Q (i != 0) st
 | .none => Q false st
 | a => GO -> TRV o k st a Q X
noncomputable abbrev kInv (Q : V -> St -> Prop) : Bool -> St -> Prop := fun b => Q (.bool (!b))
def wU (op : UnaryOp) (a : V) (Q : V -> St -> Prop) (st : St) : Prop :=
 match op with
 | .Not => wV o k X a (kInv Q) st
 | .USub => (match a with
  | .int i => Q (.int (-i)) st
  | a => GO -> OPU o k st .USub a Q X)
 | op => GO -> OPU o k st op a Q X
def wSb (i : Int) (a : V) (Q : V -> St -> Prop) (st : St) : Prop :=
 match a with
 | .tup xs => (match i with
  | .ofNat n => (match nthV xs n with
   | some x => (match Nat.ble n 1000000 with
    | true => Q x st
    | false => GO -> SUB o k st (.tup xs) (.int (.ofNat n)) Q X)
   | none => GO -> SUB o k st (.tup xs) (.int (.ofNat n)) Q X)
  | i => GO -> SUB o k st (.tup xs) (.int i) Q X)
 | a => GO -> SUB o k st a (.int i) Q X
def wSub (a i : V) (Q : V -> St -> Prop) (st : St) : Prop := GO -> SUB o k st a i Q X
def wSet (v a i : V) (Q : St -> Prop) (st : St) : Prop := GO -> SETI o k st a i v Q X
end
noncomputable abbrev kNext (Q : Fl -> yae -> St -> Prop) (loc : yae) : V -> St -> Prop := fun O => Q .next loc
noncomputable abbrev kRet (Q : Fl -> yae -> St -> Prop) (loc : yae) : V -> St -> Prop := fun v => Q (.ret v) loc
noncomputable abbrev k2b {β : Type} (B : V -> V -> β -> St -> Prop) (a : V) (Q : β) : V -> St -> Prop := fun b => B a b Q
noncomputable abbrev k2a {β : Type} (F : Expr -> (V -> St -> Prop) -> St -> Prop) (B : V -> V -> β -> St -> Prop) (r : Expr) (Q : β) : V -> St -> Prop := fun a => F r (k2b B a Q)
noncomputable abbrev k1 {β : Type} (B : V -> β -> St -> Prop) (Q : β) : V -> St -> Prop := fun a => B a Q
noncomputable abbrev kNot (Q : Bool -> St -> Prop) : Bool -> St -> Prop := fun b => Q (!b)
noncomputable abbrev kAnd (T : Expr -> (Bool -> St -> Prop) -> St -> Prop) (e : Expr) (Q : Bool -> St -> Prop) : Bool -> St -> Prop := fun b st => GO -> if b then T e Q st else Q false st
noncomputable abbrev kOr (T : Expr -> (Bool -> St -> Prop) -> St -> Prop) (e : Expr) (Q : Bool -> St -> Prop) : Bool -> St -> Prop := fun b st => GO -> if b then Q true st else T e Q st
noncomputable abbrev kTst (o : Wo) (k : Kx) (X : Exc -> St -> Prop) (op : CmpOp) (a b : V) (Q : Bool -> St -> Prop) : St -> Prop := wC o k X op a b (k1 (wV o k X) Q)
noncomputable abbrev kIfE (F : Expr -> (V -> St -> Prop) -> St -> Prop) (a b : Expr) (Q : V -> St -> Prop) : Bool -> St -> Prop := fun r st => GO -> if r then F a Q st else F b Q st
noncomputable abbrev kIf (S : List Stmt -> (Fl -> yae -> St -> Prop) -> yae -> St -> Prop) (a b : List Stmt) (Q : Fl -> yae -> St -> Prop) (loc : yae) : Bool -> St -> Prop := fun r st => GO -> if r then S a Q loc st else S b Q loc st
noncomputable abbrev kA2 (F : Expr -> (V -> St -> Prop) -> St -> Prop) (y : Expr) (Q : V -> St -> Prop) (a : V) : Bool -> St -> Prop := fun b st => GO -> if b then F y Q st else Q a st
noncomputable abbrev kO2 (F : Expr -> (V -> St -> Prop) -> St -> Prop) (y : Expr) (Q : V -> St -> Prop) (a : V) : Bool -> St -> Prop := fun b st => GO -> if b then Q a st else F y Q st
noncomputable abbrev kBo (o : Wo) (k : Kx) (X : Exc -> St -> Prop) (K : V -> Bool -> St -> Prop) : V -> St -> Prop := fun a => wV o k X a (K a)
noncomputable abbrev kTup (Q : V -> St -> Prop) : List V -> St -> Prop := fun vs => Q (.tup vs)
noncomputable abbrev kLst (Q : V -> St -> Prop) : List V -> St -> Prop := fun vs st => ∀ a, st a = none -> Q (.ptr a) (st.set a (.lst vs))
noncomputable abbrev kCons (v : V) (Q : List V -> St -> Prop) : List V -> St -> Prop := fun vs => Q (v :: vs)
noncomputable abbrev kEs (W : (List V -> St -> Prop) -> St -> Prop) (Q : List V -> St -> Prop) : V -> St -> Prop := fun v => W (kCons v Q)
noncomputable def wEs (F : Expr -> (V -> St -> Prop) -> St -> Prop) : List Expr -> (List V -> St -> Prop) -> St -> Prop
 | [], Q => Q []
 | e :: es, Q => F e (kEs (wEs F es) Q)
noncomputable abbrev kPt (Q : Option Int -> St -> Prop) : V -> St -> Prop := fun v st => match v with
 | .int i => Q (some i) st
 | v => GO -> ∃ n, v = .int n /\ Q (some n) st
def wPt (F : Expr -> (V -> St -> Prop) -> St -> Prop) (e : Option Expr) (Q : Option Int -> St -> Prop) (st : St) : Prop :=
 match e with
 | none => Q none st
 | some e => F e (kPt Q) st
noncomputable abbrev kS2 (o : Wo) (k : Kx) (X : Exc -> St -> Prop) (a : V) (l : Option Int) (Q : V -> St -> Prop) : Option Int -> St -> Prop := fun h st => GO -> SLV o k st a l h Q X
noncomputable abbrev kS1 (o : Wo) (k : Kx) (X : Exc -> St -> Prop) (F : Expr -> (V -> St -> Prop) -> St -> Prop) (hi : Option Expr) (Q : V -> St -> Prop) (a : V) : Option Int -> St -> Prop := fun l => wPt F hi (kS2 o k X a l Q)
noncomputable abbrev kS0 (o : Wo) (k : Kx) (X : Exc -> St -> Prop) (F : Expr -> (V -> St -> Prop) -> St -> Prop) (lo hi : Option Expr) (Q : V -> St -> Prop) : V -> St -> Prop := fun a => wPt F lo (kS1 o k X F hi Q a)
noncomputable abbrev kAtt (o : Wo) (k : Kx) (X : Exc -> St -> Prop) (name : Str) (Q : V -> St -> Prop) : V -> St -> Prop := fun a st => GO -> ATT o k st a name Q X
noncomputable abbrev kSeA (o : Wo) (k : Kx) (X : Exc -> St -> Prop) (name : Str) (v : V) (Q : St -> Prop) : V -> St -> Prop := fun a st => GO -> SETA o k st a name v Q X
noncomputable abbrev kCall (o : Wo) (k : Kx) (X : Exc -> St -> Prop) (f : Value) (Q : V -> St -> Prop) : List V -> St -> Prop := fun vs st => GO -> yak o k st f vs Q X
noncomputable abbrev kCalM (o : Wo) (k : Kx) (X : Exc -> St -> Prop) (f : Value) (a : V) (Q : V -> St -> Prop) : List V -> St -> Prop := fun vs st => GO -> yak o k st f (a :: vs) Q X
inductive MeP (o : Wo) (k : Kx) (st : St) (a : V) (name : Str) (F : Value -> Prop) : Prop
 | mk (f : Value) (m : ytx o k st a name f) (kp : yku o.K f = true) (r : F f)
noncomputable abbrev kMe (o : Wo) (k : Kx) (X : Exc -> St -> Prop) (F : Expr -> (V -> St -> Prop) -> St -> Prop) (name : Str) (args : List Expr) (Q : V -> St -> Prop) : V -> St -> Prop := fun a st => GO -> MeP o k st a name fun f => wEs F args (kCalM o k X f a Q) st
noncomputable abbrev kSto (x : Str) (loc : yae) (Q : yae -> St -> Prop) : V -> St -> Prop := fun r => Q (loc.set x r)
noncomputable abbrev kSeq (F : yae -> St -> Prop) (Q : Fl -> yae -> St -> Prop) : Fl -> yae -> St -> Prop := fun f loc st => match f with
 | .next => F loc st
 | f => Q f loc st
noncomputable abbrev kExs (o : Wo) (c : Cx) (X : Exc -> St -> Prop) (es : List Stmt) (Q : Fl -> yae -> St -> Prop) : yae -> St -> Prop := fun loc st => EXS o c loc st es Q X
section
variable {o : Wo} [W : WoOk o] {k : Kx} {st : St} {X : Exc -> St -> Prop}
theorem wB_ok {op : Operator} {a b : V} {Q : V -> St -> Prop} (h : wB o k X op a b Q st) : OPB o k st op a b Q X := by
 unfold wB at h
 split at h
 . split at h
   . exact opb_add h
   . exact h .go
 . split at h
   . exact opb_sub h
   . exact h .go
 . exact h .go
theorem wI_ok {op : Operator} {a b : V} {Q : V -> St -> Prop} (h : wI o k X op a b Q st) : OPI o k st op a b Q X := by
 unfold wI at h
 split at h
 . split at h
   . exact opi_add h
   . exact h .go
 . split at h
   . exact opi_sub h
   . exact h .go
 . exact h .go
theorem wC_ok {op : CmpOp} {a b : V} {Q : V -> St -> Prop} (h : wC o k X op a b Q st) : CMP o k st op a b Q X := by
 unfold wC at h
 split at h
 . split at h
   . exact cmp_lt h
   . exact h .go
 . split at h
   . exact cmp_le h
   . exact h .go
 . split at h
   . exact cmp_gt h
   . exact h .go
 . split at h
   . exact cmp_ge h
   . exact h .go
 . split at h
   . split at h
     . exact yq2 h
     . exact h .go
   . split at h
     . exact yq0 h
     . exact h .go
   . exact h .go
 . split at h
   . split at h
     . exact yqy h
     . exact h .go
   . split at h
     . exact yqw h
     . exact h .go
   . exact h .go
 . split at h
   . exact yod h
   . exact h .go
 . split at h
   . exact yjb h
   . exact h .go
 . exact h .go
theorem yri {a : V} {Q : Bool -> St -> Prop} (h : wV o k X a Q st) : TRV o k st a Q X := by
 unfold wV at h
 split at h
 . exact yj3 h
 . exact trv_int h
 . exact trv_none h
 . exact h .go
theorem wU_ok {op : UnaryOp} {a : V} {Q : V -> St -> Prop} (h : wU o k X op a Q st) : OPU o k st op a Q X := by
 unfold wU at h
 split at h
 . exact opu_not (yri h)
 . split at h
   . exact opu_neg h
   . exact h .go
 . exact h .go
set_option tactic.hygienic true in
theorem wSb_ok {a : V} {i : Int} {Q : V -> St -> Prop} (h : wSb o k X i a Q st) : SUB o k st a (.int i) Q X := by
 unfold wSb at h
 split at h
 . split at h
   . split at h
     . rename_i n _ x hx
       split at h
       . rename_i hb
         have hn := Nat.le_of_ble_eq_true hb
         have hg := yo8 hx
         have hl : n < _ := (List.getElem?_eq_some_iff.mp hg).1
         refine ym9 (j := n) ?_ ?_ ?_ hg h
         . exact Int.le_trans (by decide) (Int.natCast_nonneg n)
         . show (n : Int) < 2 ^ 63; (first | lia | omega)
         . exact seqIndex_of (Int.natCast_nonneg n) (Int.ofNat_lt.mpr hl)
       . exact h .go
     . exact h .go
   . exact h .go
 . exact h .go
end
structure Gt (o : Wo) (g : Str -> Option Value) (kb : Value -> Bool) : Prop where
 nm : ∀ {x v}, g x = some v -> ∀ {c : Cx} {loc : yae} {st : St} {pos : Pos} {Q : V -> St -> Prop} {X : Exc -> St -> Prop}, c.env.kindOf x = some .globalImplicit -> Q (.raw v) st -> EV o c loc st (.Name x pos) Q X
 kp : ∀ {v}, kb v = true -> yku o.K v = true
noncomputable def glob? : Option NameKind -> Bool
 | some .globalImplicit => true
 | _ => false
theorem ysx {k : Option NameKind} (h : glob? k = true) : k = some .globalImplicit := by
 unfold glob? at h; split at h
 . rfl
 . cases h
section
variable (g : Str -> Option Value) (kb : Value -> Bool) (o : Wo) (c : Cx) (X : Exc -> St -> Prop)
def wK (loc : yae) (k : Const) (n : Nat) (p : Pos) (Q : V -> St -> Prop) (st : St) : Prop :=
 match k with
 | .int i => Q (.int i) st
 | .str x => Q (.str x) st
 | .bool b => Q (.bool b) st
 | .none => Q .none st
 | k => GO -> EV o c loc st (.Constant k n p) Q X
def wN (loc : yae) (x : Str) (p : Pos) (Q : V -> St -> Prop) (st : St) : Prop :=
 match loc x with
 | some v => (match x == ("__debug__" : Str) with
  | false => Q v st
  | true => GO -> EV o c loc st (.Name x p) Q X)
 | none => (match glob? (c.env.kindOf x) with
  | true => (match g x with
   | some v => Q (.raw v) st
   | none => GO -> EV o c loc st (.Name x p) Q X)
  | false => GO -> EV o c loc st (.Name x p) Q X)
mutual
noncomputable def wE (n : Nat) (loc : yae) (e : Expr) (Q : V -> St -> Prop) (st : St) : Prop :=
 match n with
 | 0 => GO -> EV o c loc st e Q X
 | n + 1 => match e with
  | .Constant k i p => wK o c X loc k i p Q st
  | .Name x p => wN g o c X loc x p Q st
  | .BinOp l op r _ => wE n loc l (k2a (wE n loc) (wB o c.k X op) r Q) st
  | .UnaryOp op x _ => wE n loc x (k1 (wU o c.k X op) Q) st
  | .Compare l ops rs p => (match ops, rs with
   | [op], [r] => (match behindInMarks op r with
    | false => wE n loc l (k2a (wE n loc) (wC o c.k X op) r Q) st
    | true => GO -> EV o c loc st (.Compare l [op] [r] p) Q X)
   | ops, rs => GO -> EV o c loc st (.Compare l ops rs p) Q X)
  | .IfExp t a b _ => wT n loc t (kIfE (wE n loc) a b Q) st
  | .BoolOp op es p => (match es with
   | [x, y] => (match op with
    | .And => wE n loc x (kBo o c.k X (kA2 (wE n loc) y Q)) st
    | .Or => wE n loc x (kBo o c.k X (kO2 (wE n loc) y Q)) st)
   | es => GO -> EV o c loc st (.BoolOp op es p) Q X)
  | .Tuple es i p => (match Nat.ble es.length 1000 && es.all ybh with
   | true => wEs (wE n loc) es (kTup Q) st
   | false => GO -> EV o c loc st (.Tuple es i p) Q X)
  | .List es p => (match Nat.ble es.length 1000 && es.all ybh with
   | true => wEs (wE n loc) es (kLst Q) st
   | false => GO -> EV o c loc st (.List es p) Q X)
  | .Dict ks vs p => (match ks with
   | [] => (match vs with
    | [] => ∀ a, st a = none -> Q (.ptr a) (st.set a (.sd []))
    | vs => GO -> EV o c loc st (.Dict [] vs p) Q X)
   | ks => GO -> EV o c loc st (.Dict ks vs p) Q X)
  | .Subscript v s p => (match s with
   | .Slice lo hi stp p2 => (match stp with
    | none => wE n loc v (kS0 o c.k X (wE n loc) lo hi Q) st
    | some z => GO -> EV o c loc st (.Subscript v (.Slice lo hi (some z) p2) p) Q X)
   | .Constant k i p2 => (match k with
    | .int i => wE n loc v (k1 (wSb o c.k X i) Q) st
    | k => wE n loc v (k2a (wE n loc) (wSub o c.k X) (.Constant k i p2) Q) st)
   | s => wE n loc v (k2a (wE n loc) (wSub o c.k X) s Q) st)
  | .Attribute e name p => (match yp5 e with
   | true => wE n loc e (kAtt o c.k X name Q) st
   | false => GO -> EV o c loc st (.Attribute e name p) Q X)
  | .Call f args kws p => (match kws with
   | [] => (match args.all ybh with
    | true => (match f with
     | .Name x np => (match loc x with
      | none => (match glob? (c.env.kindOf x) with
       | true => (match g x with
        | some f => (match kb f with
         | true => wEs (wE n loc) args (kCall o c.k X f Q) st
         | false => GO -> EV o c loc st (.Call (.Name x np) args [] p) Q X)
        | none => GO -> EV o c loc st (.Call (.Name x np) args [] p) Q X)
       | false => GO -> EV o c loc st (.Call (.Name x np) args [] p) Q X)
      | some _ => GO -> EV o c loc st (.Call (.Name x np) args [] p) Q X)
     | .Attribute e name ap => (match methE e args ap p with
      | true => wE n loc e (kMe o c.k X (wE n loc) name args Q) st
      | false => GO -> EV o c loc st (.Call (.Attribute e name ap) args [] p) Q X)
     | f => GO -> EV o c loc st (.Call f args [] p) Q X)
    | false => GO -> EV o c loc st (.Call f args [] p) Q X)
   | kws => GO -> EV o c loc st (.Call f args kws p) Q X)
  | e => GO -> EV o c loc st e Q X
 termination_by structural n
noncomputable def wT (n : Nat) (loc : yae) (e : Expr) (Q : Bool -> St -> Prop) (st : St) : Prop :=
 match n with
 | 0 => GO -> TR o c loc st e Q X
 | n + 1 => match e with
  | .Compare l ops rs p => (match ops, rs with
   | [op], [r] => (match behindInMarks op r with
    | false => wE n loc l (k2a (wE n loc) (kTst o c.k X op) r Q) st
    | true => GO -> TR o c loc st (.Compare l [op] [r] p) Q X)
   | ops, rs => GO -> TR o c loc st (.Compare l ops rs p) Q X)
  | .UnaryOp op x p => (match op with
   | .Not => wT n loc x (kNot Q) st
   | op => GO -> TR o c loc st (.UnaryOp op x p) Q X)
  | .BoolOp op es p => (match op with
   | .And => (match es with
    | [] => Q true st
    | x :: rest => (match rest with
     | [] => wT n loc x Q st
     | y :: rest => wT n loc x (kAnd (wT n loc) (.BoolOp .And (y :: rest) p) Q) st))
   | .Or => (match es with
    | [] => Q false st
    | x :: rest => (match rest with
     | [] => wT n loc x Q st
     | y :: rest => wT n loc x (kOr (wT n loc) (.BoolOp .Or (y :: rest) p) Q) st)))
  | e => (match trVal e with
   | true => wE n loc e (k1 (wV o c.k X) Q) st
   | false => GO -> TR o c loc st e Q X)
 termination_by structural n
end
noncomputable def wAs (l : yae) (ts : List Expr) (vs : List V) : Option yae :=
 match ts with
 | [] => (match vs with
  | [] => some l
  | _ => none)
 | t :: ts => (match vs with
  | [] => none
  | v :: vs => (match t with
   | .Name x _ => (match ybp c.env x with
    | true => wAs (l.set x v) ts vs
    | false => none)
   | _ => none))
def wA (n : Nat) (loc : yae) (t : Expr) (v : V) (Q : yae -> St -> Prop) (st : St) : Prop :=
 match t with
 | .Name x p => (match ybp c.env x with
  | true => Q (loc.set x v) st
  | false => GO -> ASG o c loc st (.Name x p) v Q X)
 | .Tuple ts i p => (match v with
  | .tup vs => (match wAs c loc ts vs with
   | some l => Q l st
   | none => GO -> ASG o c loc st (.Tuple ts i p) (.tup vs) Q X)
  | v => GO -> ASG o c loc st (.Tuple ts i p) v Q X)
 | .Attribute e name _ => wE g kb o c X n loc e (kSeA o c.k X name v (Q loc)) st
 | .Subscript e i p => (match i with
  | .Slice lo hi stp p2 => GO -> ASG o c loc st (.Subscript e (.Slice lo hi stp p2) p) v Q X
  | i => wE g kb o c X n loc e (k2a (wE g kb o c X n loc) (wSet o c.k X v) i (Q loc)) st)
 | t => GO -> ASG o c loc st t v Q X
noncomputable def bigS : Stmt -> Bool
 | .For .. => true
 | .While .. => true
 | .Try .. => true
 | _ => false
mutual
noncomputable def wX (n : Nat) (s : Stmt) (Q : Fl -> yae -> St -> Prop) (loc : yae) (st : St) : Prop :=
 match n with
 | 0 => GO -> EX o c loc st s Q X
 | n + 1 => match s with
  | .Return e p => (match e with
   | some e => wE g kb o c X n loc e (kRet Q loc) st
   | none => Q (.ret .none) loc st)
  | .If t a b _ => wT g kb o c X n loc t (kIf (wS n 1000) a b Q loc) st
  | .Expr e p => (match ypc e with
   | true => wE g kb o c X n loc e (kNext Q loc) st
   | false => GO -> EX o c loc st (.Expr e p) Q X)
  | .Pass _ => Q .next loc st
  | .Break _ => Q .brk loc st
  | .Continue _ => Q .cont loc st
  | .Assign ts e p => (match ts with
   | [t] => (match ypc e && yjo t e with
    | true => wE g kb o c X n loc e (k1 (wA g kb o c X n loc t) (Q .next)) st
    | false => GO -> EX o c loc st (.Assign [t] e p) Q X)
   | ts => GO -> EX o c loc st (.Assign ts e p) Q X)
  | .AugAssign t op e p => (match t with
   | .Name x np => (match loc x with
    | some a => (match ybp c.env x with
     | true => wE g kb o c X n loc e (k1 (wI o c.k X op a) (kSto x loc (Q .next))) st
     | false => GO -> EX o c loc st (.AugAssign (.Name x np) op e p) Q X)
    | none => GO -> EX o c loc st (.AugAssign (.Name x np) op e p) Q X)
   | t => GO -> EX o c loc st (.AugAssign t op e p) Q X)
  | s => GO -> EX o c loc st s Q X
 termination_by structural n
noncomputable def wS (n : Nat) (m : Nat) (es : List Stmt) (Q : Fl -> yae -> St -> Prop) (loc : yae) (st : St) : Prop :=
 match n with
 | 0 => EXS o c loc st es Q X
 | n + 1 => match m with
  | 0 => EXS o c loc st es Q X
  | m + 1 => (match es with
   | [] => Q .next loc st
   | s :: es => (match bigS s with
    | true => GO -> EX o c loc st s (kSeq (kExs o c X es Q) Q) X
    | false => wX n s (kSeq (wS n m es Q) Q) loc st))
 termination_by structural n
end
end
theorem mb {b : Bool} {P R C : Prop} (h : match b with | true => P | false => R) (t : b = true -> P -> C) (f : R -> C) : C := by
 induction b
 . exact f h
 . exact t rfl h
theorem mbf {b : Bool} {P R C : Prop} (h : match b with | false => P | true => R) (t : b = false -> P -> C) (f : R -> C) : C := by
 induction b
 . exact t rfl h
 . exact f h
theorem mo {a : Option V} {P : V -> Prop} {R C : Prop} (h : match a with | some v => P v | none => R) (t : ∀ v, a = some v -> P v -> C) (f : R -> C) : C := by
 induction a
 . exact f h
 . exact t _ rfl h
theorem moW {a : Option Value} {P : Value -> Prop} {R C : Prop} (h : match a with | some v => P v | none => R) (t : ∀ v, a = some v -> P v -> C) (f : R -> C) : C := by
 induction a
 . exact f h
 . exact t _ rfl h
theorem moL {a : Option yae} {P : yae -> Prop} {R C : Prop} (h : match a with | some v => P v | none => R) (t : ∀ v, a = some v -> P v -> C) (f : R -> C) : C := by
 induction a
 . exact f h
 . exact t _ rfl h
theorem mbo {b : Bool} {x : Option yae} {l : yae} (h : (match b with | true => x | false => none) = some l) : b = true /\ x = some l := by
 induction b
 . cases h
 . exact ⟨rfl, h⟩
theorem nos {l : yae} {P : Prop} (h : none = some l) : P := nomatch h
theorem mon {a : Option V} {P : V -> Prop} {R C : Prop} (h : match a with | none => R | some v => P v) (f : R -> C) (t : ∀ v, P v -> C) : C := by
 induction a
 . exact f h
 . exact t _ h
section
variable {g : Str -> Option Value} {kb : Value -> Bool} {o : Wo} [W : WoOk o] {c : Cx} {X : Exc -> St -> Prop}
theorem yos {F : Expr -> (V -> St -> Prop) -> St -> Prop} {loc : yae} {pos : Pos} (hF : ∀ e Q st, F e Q st -> EV o c loc st e Q X) :
 ∀ {es : List Expr} {Q : List V -> St -> Prop} {st : St}, es.all ybh = true -> wEs F es Q st -> EVs o c loc st pos es (fun vs st₁ => vs.length = es.length /\ Q vs st₁) X
 | [], _, _, _, h => ytb ⟨rfl, h⟩
 | e :: es, Q, st, hp, h => by
  have hp := Bool.and_eq_true_iff.mp hp
  exact yk3 ((hF _ _ _ h).mono (fun v st₁ h => (yos hF hp.2 h).mono fun vs st₂ h => ⟨by rw [List.length_cons, List.length_cons, h.1], h.2⟩) fun O O h => h) hp.1
theorem yrj {F : Expr -> (V -> St -> Prop) -> St -> Prop} {loc : yae} {pos : Pos} (hF : ∀ e Q st, F e Q st -> EV o c loc st e Q X)
 {es : List Expr} {Q : List V -> St -> Prop} {st : St} (hp : es.all ybh = true) (h : wEs F es Q st) : EVs o c loc st pos es Q X := (yos hF hp h).mono fun O O h => h.2
theorem wPt_ok {F : Expr -> (V -> St -> Prop) -> St -> Prop} {loc : yae} (hF : ∀ e Q st, F e Q st -> EV o c loc st e Q X) {e : Option Expr} {Q : Option Int -> St -> Prop} {st : St} (h : wPt F e Q st) : PT o c loc st e Q X := by
 induction e with
 | none => exact pt_none h
 | some e =>
  refine pt_some ((hF _ _ _ h).mono (fun v st₁ h => ?_) fun O O h => h)
  cases v <;> first | exact ⟨_, rfl, h⟩ | exact h .go
theorem wK_ok {loc : yae} {k : Const} {n : Nat} {p : Pos} {Q : V -> St -> Prop} {st : St} (h : wK o c X loc k n p Q st) : EV o c loc st (.Constant k n p) Q X := by
 induction k <;> first | exact ytd h | exact ev_str h | exact ev_bool h | exact ev_none h | exact h .go
theorem wN_ok (G : Gt o g kb) {loc : yae} {x : Str} {p : Pos} {Q : V -> St -> Prop} {st : St} (h : wN g o c X loc x p Q st) : EV o c loc st (.Name x p) Q X := by
 unfold wN at h
 refine mo h (fun v hv h => ?_) fun h => ?_
 . exact mbf h (fun hd h => yib hv hd h) fun h => h .go
 exact mb h (fun hk h => moW h (fun v hg h => G.nm hg (ysx hk) h) fun h => h .go) fun h => h .go
theorem ylh {es : List Expr} (h : (Nat.ble es.length 1000 && es.all ybh) = true) {vs : List V} (hl : vs.length = es.length) : vs.length <= sizeLine := by
 exact hl ▸ Nat.le_trans (Nat.le_of_ble_eq_true (Bool.and_eq_true_iff.mp h).1) (by decide)
theorem all_of {es : List Expr} (h : (Nat.ble es.length 1000 && es.all ybh) = true) : es.all ybh = true := by
 exact (Bool.and_eq_true_iff.mp h).2
noncomputable abbrev HE (g : Str -> Option Value) (kb : Value -> Bool) (o : Wo) (c : Cx) (X : Exc -> St -> Prop) (n : Nat) : Prop := ∀ loc e Q st, wE g kb o c X n loc e Q st -> EV o c loc st e Q X
noncomputable abbrev HT (g : Str -> Option Value) (kb : Value -> Bool) (o : Wo) (c : Cx) (X : Exc -> St -> Prop) (n : Nat) : Prop := ∀ loc e Q st, wT g kb o c X n loc e Q st -> TR o c loc st e Q X
theorem mE {n : Nat} (hE : HE g kb o c X n) {loc e st} {Q Q' : V -> St -> Prop} (h : wE g kb o c X n loc e Q st) (q : ∀ v s, Q v s -> Q' v s) : EV o c loc st e Q' X := (hE _ _ _ _ h).mono q fun O O h => h
theorem mT {n : Nat} (hT : HT g kb o c X n) {loc e st} {Q Q' : Bool -> St -> Prop} (h : wT g kb o c X n loc e Q st) (q : ∀ v s, Q v s -> Q' v s) : TR o c loc st e Q' X := (hT _ _ _ _ h).mono q
theorem call_ok (G : Gt o g kb) {n : Nat} (hE : HE g kb o c X n) {loc : yae} {f : Expr} {args : List Expr} {kws : List Keyword} {p : Pos} {Q : V -> St -> Prop} {st : St} (h : wE g kb o c X (n + 1) loc (.Call f args kws p) Q st) : EV o c loc st (.Call f args kws p) Q X := by
 induction kws with
 | cons k kws => exact h .go
 | nil =>
 refine mb h (fun hp h => ?_) fun h => h .go
 cases f with
 | Name x np =>
  refine mon h (fun h => ?_) fun O h => h .go
  refine mb h (fun hk h => ?_) fun h => h .go
  refine moW h (fun f hg h => ?_) fun h => h .go
  exact mb h (fun hkb h => ev_call (G.nm hg (ysx hk) ⟨rfl, rfl⟩) (G.kp hkb) ((yrj (hE loc) hp h).mono fun O O h => h .go) hp) fun h => h .go
 | Attribute e name ap =>
  refine mb h (fun hm h => ?_) fun h => h .go
  refine ev_meth (fun env => ysk hm env) (mE hE h fun a st₁ h => ?_) hp
  obtain ⟨f, h1, h2, h3⟩ := h .go
  exact ⟨f, h1, h2, (yrj (hE loc) hp h3).mono fun O O h => h .go⟩
 | _ => exact h .go
theorem bo_ok {n : Nat} (hE : HE g kb o c X n) {loc : yae} {op : BoolOp} {es : List Expr} {p : Pos} {Q : V -> St -> Prop} {st : St} (h : wE g kb o c X (n + 1) loc (.BoolOp op es p) Q st) : EV o c loc st (.BoolOp op es p) Q X := by
 match es with
 | [] => exact h .go
 | [x] => exact h .go
 | x :: y :: z :: es => exact h .go
 | [x, y] =>
 induction op with
 | And =>
  refine ev_and2 (mE hE h fun a st₁ h => yot (yri h) fun b st₂ h => ?_)
  have h := h .go
  induction b
  . exact h
  . exact hE _ _ _ _ h
 | Or =>
  refine ev_or2 (mE hE h fun a st₁ h => yot (yri h) fun b st₂ h => ?_)
  have h := h .go
  induction b
  . exact hE _ _ _ _ h
  . exact h
theorem sub_ok {n : Nat} (hE : HE g kb o c X n) {loc : yae} {v s : Expr} {p : Pos} {Q : V -> St -> Prop} {st : St} (h : wE g kb o c X (n + 1) loc (.Subscript v s p) Q st) : EV o c loc st (.Subscript v s p) Q X := by
 cases s with
 | Slice lo hi stp p2 =>
  induction stp with
  | some z => exact h .go
  | none =>
   refine ev_slice (mE hE h fun a st₁ h => ?_)
   refine (wPt_ok (hE loc) h).mono fun l st₂ h => ?_
   exact (wPt_ok (hE loc) h).mono fun hh st₃ h => h .go
 | Constant k i p2 =>
  induction k with
  | int i => exact ytc (mE hE h fun a st₁ h => ytd (wSb_ok h))
  | _ => exact ytc (mE hE h fun a st₁ h => mE hE h fun b st₂ h => h .go)
 | _ => exact ytc (mE hE h fun a st₁ h => mE hE h fun b st₂ h => h .go)
theorem e_ok (G : Gt o g kb) {n : Nat} (hE : HE g kb o c X n) (hT : HT g kb o c X n) : HE g kb o c X (n + 1) := fun loc e Q st h => by
 cases e with
 | Constant k i p => exact wK_ok h
 | Name x p => exact wN_ok G h
 | BinOp l op r p => exact ev_bin (mE hE h fun a st₁ h => mE hE h fun b st₂ h => wB_ok h)
 | UnaryOp op x p => exact ev_unary (mE hE h fun a st₁ h => wU_ok h)
 | Compare l ops rs p =>
  induction ops with
  | nil => exact h .go
  | cons op ops =>
  induction ops with
  | cons _ _ => exact h .go
  | nil =>
  induction rs with
  | nil => exact h .go
  | cons r rs =>
  induction rs with
  | cons _ _ => exact h .go
  | nil =>
  exact mbf h (fun hm h => ev_cmp (mE hE h fun a st₁ h => mE hE h fun b st₂ h => wC_ok h) hm) fun h => h .go
 | IfExp t a b p =>
  refine ev_ifexp (mT hT h fun r st₁ h => ?_)
  have h := h .go
  induction r <;> exact hE _ _ _ _ h
 | BoolOp op es p => exact bo_ok hE h
 | Tuple es i p =>
  exact mb h (fun hb h => ev_tuple ((yos (hE loc) (all_of hb) h).mono fun vs st₁ h => ⟨ylh hb h.1, h.2⟩)) fun h => h .go
 | List es p =>
  exact mb h (fun hb h => ev_list ((yos (hE loc) (all_of hb) h).mono fun vs st₁ h => ⟨ylh hb h.1, h.2⟩)) fun h => h .go
 | Dict ks vs p =>
  induction ks with
  | cons _ _ => exact h .go
  | nil =>
  induction vs with
  | cons _ _ => exact h .go
  | nil => exact ev_dict0 h
 | Subscript v s p => exact sub_ok hE h
 | Attribute e name p =>
  exact mb h (fun hb h => ev_attr (fun env => yms hb _ _ _) (mE hE h fun a st₁ h => h .go)) fun h => h .go
 | Call f args kws p => exact call_ok G hE h
 | _ => exact h .go
theorem t_ok (G : Gt o g kb) {n : Nat} (hE : HE g kb o c X n) (hT : HT g kb o c X n) : HT g kb o c X (n + 1) := fun loc e Q st h => by
 have other : ∀ {e : Expr}, (match trVal e with | true => wE g kb o c X n loc e (k1 (wV o c.k X) Q) st | false => GO -> TR o c loc st e Q X) -> TR o c loc st e Q X := fun {e} h => mb h (fun hv h => tr_val (fun env whole => trVal_ok hv env whole) (mE hE h fun v st₁ h => yri h)) fun h => h .go
 cases e with
 | Compare l ops rs p =>
  induction ops with
  | nil => exact h .go
  | cons op ops =>
  induction ops with
  | cons _ _ => exact h .go
  | nil =>
  induction rs with
  | nil => exact h .go
  | cons r rs =>
  induction rs with
  | cons _ _ => exact h .go
  | nil =>
  exact mbf h (fun hm h => tr_cmp (mE hE h fun a st₁ h => mE hE h fun b st₂ h => cmp_mono (wC_ok h) fun v st₃ h => yri h) hm) fun h => h .go
 | UnaryOp op x p =>
  induction op with
  | Not => exact tr_not (hT _ _ _ _ h)
  | _ => exact h .go
 | BoolOp op es p =>
  induction op with
  | And =>
   match es with
   | [] => exact yjf h
   | [x] =>
    refine tr_and (mT hT h fun b st₁ h => ?_)
    induction b
    . exact h
    . exact yjf h
   | x :: y :: rest =>
    refine tr_and (mT hT h fun b st₁ h => ?_)
    have h := h .go
    induction b
    . exact h
    . exact hT _ _ _ _ h
  | Or =>
   match es with
   | [] => exact ylg h
   | [x] =>
    refine tr_or (mT hT h fun b st₁ h => ?_)
    induction b
    . exact ylg h
    . exact h
   | x :: y :: rest =>
    refine tr_or (mT hT h fun b st₁ h => ?_)
    have h := h .go
    induction b
    . exact hT _ _ _ _ h
    . exact h
 | _ => exact other h
theorem w_ok (G : Gt o g kb) : ∀ n, HE g kb o c X n /\ HT g kb o c X n
 | 0 => ⟨fun O O O O h => h .go, fun O O O O h => h .go⟩
 | n + 1 => ⟨e_ok G (w_ok G n).1 (w_ok G n).2, t_ok G (w_ok G n).1 (w_ok G n).2⟩
theorem wAs_ok : ∀ {ts : List Expr} {vs : List V} {loc l : yae} {st : St} {Q : yae -> St -> Prop}, wAs c loc ts vs = some l -> Q l st -> ts.all ybh = true /\ ts.length = vs.length /\ ASGS o c loc st ts vs Q X
 | [], [], _, _, _, _, h, q => by cases h; exact ⟨rfl, rfl, asgs_nil q⟩
 | [], _ :: _, _, _, _, _, h, _ => by cases h
 | t :: ts, [], _, _, _, _, h, _ => by cases h
 | t :: ts, v :: vs, loc, l, st, Q, h, q => by
  cases t with
  | Name x p =>
   have h := mbo h
   have a := wAs_ok h.2 q
   exact ⟨by rw [List.all_cons, a.1]; rfl, by rw [List.length_cons, List.length_cons, a.2.1], ytt (yp6 h.1 a.2.2)⟩
  | _ => exact nos h
variable [SM : SmOk o]
theorem wA_ok (G : Gt o g kb) {n : Nat} {loc : yae} {t : Expr} {v : V} {Q : yae -> St -> Prop} {st : St} (h : wA g kb o c X n loc t v Q st) : ASG o c loc st t v Q X := by
 have hE := (w_ok (X := X) (c := c) G n).1
 cases t with
 | Name x p =>
  exact mb h (fun hs h => yp6 hs h) fun h => h .go
 | Tuple ts i p =>
  cases v with
  | tup vs =>
   refine moL h (fun l hs h => ?_) fun h => h .go
   have a := wAs_ok (o := o) (X := X) hs h
   exact ytu a.1 a.2.1 a.2.2
  | _ => exact h .go
 | Attribute e name p => exact asg_attr (mE hE h fun a st₁ h => h .go)
 | Subscript e i p =>
  cases i with
  | Slice lo hi stp p2 => exact h .go
  | _ => exact asg_sub (fun l u s p e => nomatch e) (mE hE h fun a st₁ h => mE hE h fun b st₂ h => h .go)
 | _ => exact h .go
noncomputable abbrev HX (g : Str -> Option Value) (kb : Value -> Bool) (o : Wo) (c : Cx) (X : Exc -> St -> Prop) (n : Nat) : Prop := ∀ s Q loc st, wX g kb o c X n s Q loc st -> EX o c loc st s Q X
noncomputable abbrev HS (g : Str -> Option Value) (kb : Value -> Bool) (o : Wo) (c : Cx) (X : Exc -> St -> Prop) (n : Nat) : Prop := ∀ m es Q loc st, wS g kb o c X n m es Q loc st -> EXS o c loc st es Q X
theorem x_ok (G : Gt o g kb) {n : Nat} (hS : HS g kb o c X n) : HX g kb o c X (n + 1) := fun s Q loc st h => by
 have hE := (w_ok (X := X) (c := c) G n).1
 cases s with
 | Return e p =>
  induction e with
  | none => exact yi8 h
  | some e => exact ys9 (hE _ _ _ _ h)
 | If t a b p =>
  refine ex_if (mT (w_ok G n).2 h fun r st₁ h => ?_)
  have h := h .go
  induction r <;> exact hS _ _ _ _ _ h
 | Expr e p =>
  exact mb h (fun hn h => ex_expr (fun env => yl8 hn _ _ _) (hE _ _ _ _ h)) fun h => h .go
 | Pass p => exact ex_pass h
 | Break p => exact ex_break h
 | Continue p => exact yoa h
 | Assign ts e p =>
  match ts with
  | [] => exact h .go
  | _ :: _ :: _ => exact h .go
  | [t] =>
  refine mb h (fun hb h => ?_) fun h => h .go
  have hb := Bool.and_eq_true_iff.mp hb
  exact yta (fun env => yl8 hb.1 _ _ _) (fun env => ysg hb.2 _) (fun env => yn1 hb.2 _) (mE hE h fun v st₁ h => wA_ok G h)
 | AugAssign t op e p =>
  cases t with
  | Name x np => exact mo h (fun a hx h => mb h (fun hs h => ex_aug hx hs (mE hE h fun b st₁ h => wI_ok h)) fun h => h .go) fun h => h .go
  | _ => exact h .go
 | _ => exact h .go
theorem s_ok {n : Nat} (hX : HX g kb o c X n) (hS : HS g kb o c X n) : HS g kb o c X (n + 1) := fun m es Q loc st h => by
 induction m with
 | zero => exact h
 | succ m =>
 induction es with
 | nil => exact exs_nil h
 | cons s es =>
 refine mb h (fun O h => ypw (EX.mono (h .go) fun f l s h => ?_)) fun h => ypw ((hX _ _ _ _ h).mono fun f l s h => ?_)
 . induction f <;> exact h
 . induction f
   . exact hS _ _ _ _ _ h
   all_goals exact h
theorem yor (G : Gt o g kb) : ∀ n, HX g kb o c X n /\ HS g kb o c X n
 | 0 => ⟨fun O O O O h => h .go, fun O O O O O h => h⟩
 | n + 1 => ⟨x_ok G (yor G n).2, s_ok (yor G n).1 (yor G n).2⟩
theorem exs_w (G : Gt o g kb) (n m : Nat) {loc : yae} {st : St} {es : List Stmt} {Q : Fl -> yae -> St -> Prop} (h : wS g kb o c X n m es Q loc st) : EXS o c loc st es Q X := (yor G n).2 _ _ _ _ _ h
theorem ev_w (G : Gt o g kb) (n : Nat) {loc : yae} {st : St} {e : Expr} {Q : V -> St -> Prop} (h : wE g kb o c X n loc e Q st) : EV o c loc st e Q X := (w_ok G n).1 _ _ _ _ h
theorem tr_w (G : Gt o g kb) (n : Nat) {loc : yae} {st : St} {e : Expr} {Q : Bool -> St -> Prop} (h : wT g kb o c X n loc e Q st) : TR o c loc st e Q X := (w_ok G n).2 _ _ _ _ h
theorem asg_w (G : Gt o g kb) (n : Nat) {loc : yae} {st : St} {t : Expr} {v : V} {Q : yae -> St -> Prop} (h : wA g kb o c X n loc t v Q st) : ASG o c loc st t v Q X := wA_ok G h
end
section
variable {o : Wo} {c : Cx} {X : Exc -> St -> Prop}
noncomputable def yae.of : List (Str × V) -> yae
 | [] => yae.nil
 | (x, v) :: l => (yae.of l).set x v
theorem LocR.less {env : Env} {loc loc' : yae} {h : Heap} (r : LocR env loc h) (q : ∀ x v, loc' x = some v -> loc x = some v) : LocR env loc' h := by
 obtain ⟨⟨m, hm, a⟩, b, d⟩ := r
 exact ⟨⟨m, hm, fun x v h => a x v (q x v h)⟩, b, d⟩
theorem Inv.less {loc loc' : yae} {st : St} {s : Shared} (I : Inv o c loc st s) (q : ∀ x v, loc' x = some v -> loc x = some v) : Inv o c loc' st s := { I with lc := I.lc.less q }
theorem yhx {loc : yae} : ∀ {L : List (Str × V)}, (∀ p ∈ L, loc p.1 = some p.2) -> ∀ x v, yae.of L x = some v -> loc x = some v
 | [], _, _, _, h => nomatch h
 | (y, u) :: L, hl, x, v, h => by
  rw [yae.of] at h
  by_cases e : x = y
  . subst e
    rw [yae.set_same] at h
    cases h
    exact hl _ (List.mem_cons_self ..)
  . rw [yae.set_ne _ _ e] at h
    exact yhx (fun p hp => hl p (List.mem_cons_of_mem _ hp)) x v h
theorem yat (L : List (Str × V)) {loc : yae} {st : St} {es : List Stmt} {Q : Fl -> yae -> St -> Prop} (hl : ∀ p ∈ L, loc p.1 = some p.2) (h : EXS o c (yae.of L) st es Q X) : EXS o c loc st es Q X := fun s I => h s (I.less (yhx hl))
theorem ev_of (L : List (Str × V)) {loc : yae} {st : St} {e : Expr} {Q : V -> St -> Prop} (hl : ∀ p ∈ L, loc p.1 = some p.2) (h : EV o c (yae.of L) st e Q X) : EV o c loc st e Q X := fun s I => h s (I.less (yhx hl))
theorem ybf (L : List (Str × V)) {loc : yae} {st : St} {t : Expr} {v : V} {Q : yae -> St -> Prop} (hl : ∀ p ∈ L, loc p.1 = some p.2) (h : ASG o c (yae.of L) st t v Q X) : ASG o c loc st t v Q X := fun s u I => h s u (I.less (yhx hl))
theorem tr_of (L : List (Str × V)) {loc : yae} {st : St} {e : Expr} {Q : Bool -> St -> Prop} (hl : ∀ p ∈ L, loc p.1 = some p.2) (h : TR o c (yae.of L) st e Q X) : TR o c loc st e Q X := fun s I => h s (I.less (yhx hl))
theorem yaj {loc : yae} : ∀ p ∈ ([] : List (Str × V)), loc p.1 = some p.2 := fun O h => nomatch h
theorem yaa {loc : yae} {x : Str} {v : V} {L : List (Str × V)} (h : loc x = some v) (hL : ∀ p ∈ L, loc p.1 = some p.2) : ∀ p ∈ (x, v) :: L, loc p.1 = some p.2 := fun p hp => by
 rcases List.mem_cons.mp hp with rfl | hp
 . exact h
 . exact hL p hp
end
end NN
end
section
open PySem PySem.W PyProof.Rows PySem.Calls
set_option maxRecDepth 100000
set_option linter.all false
set_option backward.match.sparseCases false
namespace NN
def yac (bs : List Int) : Prop := ∀ b ∈ bs, (0 : Int) <= b /\ b < 4
theorem mem4 {x : Int} (h : 0 <= x /\ x < 4) : x ∈ ([0, 1, 2, 3] : List Int) := by
 obtain ⟨n, rfl⟩ := Int.eq_ofNat_of_zero_le h.1
 have h := Int.ofNat_lt.mp h.2
 match n, h with
 | 0, _ | 1, _ | 2, _ | 3, _ => decide
theorem yi9 (P : Int -> Prop) [DecidablePred P] (h : (([0, 1, 2, 3] : List Int).all fun x => decide (P x)) = true) {x : Int} (hx : 0 <= x /\ x < 4) : P x := of_decide_eq_true (List.all_eq_true.mp h x (mem4 hx))
theorem mb2 (A : Bool) : A ∈ [false, true] := by induction A <;> decide
theorem bd2 {c L M : Int} (hc : 0 <= c /\ c < 2) (hL : 0 <= L /\ L < M) : 0 <= c + 2 * L /\ c + 2 * L < M * 2 := by omega
theorem mdk (m : Int) {k : Int} (h : 0 < k) : 0 <= m % k /\ m % k < k := ⟨Int.emod_nonneg _ (Int.ne_of_gt h), Int.emod_lt_of_pos _ h⟩
theorem mjk (m : Int) {k j : Int} (h : 0 < k) (hj : k <= j) : 0 <= m % k /\ m % k < j := ⟨(mdk m h).1, Int.lt_of_lt_of_le (mdk m h).2 hj⟩
theorem yn2 {x : Int} {w : Nat} (h : 0 <= x /\ x < 2 ^ w) : x.natAbs < 2 ^ w := by
 obtain ⟨n, rfl⟩ := Int.eq_ofNat_of_zero_le h.1
 exact_mod_cast h.2
noncomputable def yaf : List Int -> Int
 | [] => 0
 | b :: r => b % 2 + 2 * yaf r
noncomputable def yad : List Int -> Int
 | [] => 0
 | b :: r => b / 2 + 2 * yad r
theorem ybj : ∀ xs ys : List Int, yaf (xs ++ ys) = yaf xs + 2 ^ xs.length * yaf ys
 | [], ys => by simp [yaf]
 | x :: xs, ys => by
  rw [List.cons_append, yaf, yaf, ybj xs ys, List.length_cons, Int.pow_succ, Int.mul_add, Int.mul_comm (2 ^ xs.length) 2, Int.mul_assoc]; (first | lia | omega)
theorem ya4 : ∀ xs ys : List Int, yad (xs ++ ys) = yad xs + 2 ^ xs.length * yad ys
 | [], ys => by simp [yad]
 | x :: xs, ys => by
  rw [List.cons_append, yad, yad, ya4 xs ys, List.length_cons, Int.pow_succ, Int.mul_add, Int.mul_comm (2 ^ xs.length) 2, Int.mul_assoc]; (first | lia | omega)
theorem yal : ∀ xs : List Int, 0 <= yaf xs /\ yaf xs < 2 ^ xs.length
 | [] => by simp [yaf]
 | x :: xs => by
  rw [yaf, List.length_cons, Int.pow_succ]; exact bd2 (mdk x (by decide)) (yal xs)
theorem yac.tail {x : Int} {xs : List Int} (h : yac (x :: xs)) : yac xs := fun b hb => h b (.tail _ hb)
theorem yap : ∀ xs : List Int, yac xs -> 0 <= yad xs /\ yad xs < 2 ^ xs.length
 | [], _ => by simp [yad]
 | x :: xs, h => by
  rw [yad, List.length_cons, Int.pow_succ]; exact bd2 (yi9 (fun x => 0 <= x / 2 /\ x / 2 < 2) (by rfl) (h x (.head _))) (yap xs h.tail)
theorem yac.app {xs ys : List Int} (h : yac xs) (h' : yac ys) : yac (xs ++ ys) := fun b hb => (List.mem_append.mp hb).elim (h b) (h' b)
theorem yac.take {xs : List Int} (h : yac xs) (n : Nat) : yac (xs.take n) := fun b hb => h b (List.mem_of_mem_take hb)
theorem yac.drop {xs : List Int} (h : yac xs) (n : Nat) : yac (xs.drop n) := fun b hb => h b (List.mem_of_mem_drop hb)
theorem yac.repl {b : Int} (h : 0 <= b /\ b < 4) (n : Nat) : yac (List.replicate n b) := fun c hc => by rw [List.eq_of_mem_replicate hc]; exact h
theorem yac.nil : yac [] := fun O h => nomatch h
noncomputable def yag (bs : List Int) : V := .tup [.int bs.length, .int (yaf bs), .int (yad bs)]
noncomputable def yew (bs : List Int) : V := .tup [.str "const", .int bs.length, .int (yaf bs), .int (yad bs)]
noncomputable def yqp (bs : List Int) (sg szd : Bool) : V := .tup [.str "num", .int 0, yag bs, .bool sg, .bool szd]
theorem ylu (a b : Nat) : Builtin.bitOr (a : Int) (b : Int) = ((a ||| b : Nat) : Int) := by
 have n1 : ∀ x : Nat, decide (0 <= Builtin.bitNot (x : Int)) = false := fun x => by rw [decide_eq_false_iff_not]; unfold Builtin.bitNot; (first | lia | omega)
 have n2 : ∀ x : Nat, (Builtin.bitNot (Builtin.bitNot (x : Int))).toNat = x := fun x => by unfold Builtin.bitNot; (first | lia | omega)
 unfold Builtin.bitOr Builtin.bitAnd
 rw [n1, n1]
 dsimp only
 rw [n2, n2]
 unfold Builtin.bitNot; (first | lia | omega)
theorem yne {a b : Int} {n : Nat} (ha : 0 <= a) (hb : 0 <= b) (hlt : b < 2 ^ n) : Builtin.bitOr (a * 2 ^ n) b = a * 2 ^ n + b := by
 obtain ⟨a, rfl⟩ := Int.eq_ofNat_of_zero_le ha
 obtain ⟨b, rfl⟩ := Int.eq_ofNat_of_zero_le hb
 have hlt' : b < 2 ^ n := by exact_mod_cast hlt
 have e : (a : Int) * 2 ^ n = ((a * 2 ^ n : Nat) : Int) := by push_cast; rfl
 rw [e, ylu, <- Nat.shiftLeft_eq, <- Nat.shiftLeft_add_eq_or_of_lt hlt']
 push_cast; rfl
theorem or_comm (a b : Int) (ha : 0 <= a) (hb : 0 <= b) : Builtin.bitOr a b = Builtin.bitOr b a := by
 obtain ⟨a, rfl⟩ := Int.eq_ofNat_of_zero_le ha
 obtain ⟨b, rfl⟩ := Int.eq_ofNat_of_zero_le hb
 rw [ylu, ylu, Nat.or_comm]
theorem yez (a : Int) (ha : 0 <= a) : Builtin.bitOr a 0 = a := by
 obtain ⟨a, rfl⟩ := Int.eq_ofNat_of_zero_le ha
 have := ylu a 0
 simpa using this
theorem yrd (a : Int) (ha : 0 <= a) : Builtin.bitOr 0 a = a := by rw [or_comm 0 a (by decide) ha, yez a ha]
theorem yk7 (a : Int) : Builtin.bitAnd a 0 = 0 := by
 have := kbt_mask a 0
 simpa using this
theorem ypg {n w : Nat} (h : n <= w) : Builtin.bitXor (2 ^ w - 1) (2 ^ n - 1) = (2 ^ w - 2 ^ n : Int) := by
 rw [bitXor_and, kbt_mask]
 have e : ((2 : Int) ^ w - 1) % 2 ^ n = 2 ^ n - 1 := by
  obtain ⟨d, rfl⟩ := Nat.exists_eq_add_of_le h
  have h1 := kbt_pos n
  have h2 := kbt_pos d
  have : (2 : Int) ^ (n + d) - 1 = (2 ^ n - 1) + 2 ^ n * (2 ^ d - 1) := by rw [Int.pow_add, Int.mul_sub]; (first | lia | omega)
  rw [this, Int.add_mul_emod_self_left]
  exact Int.emod_eq_of_lt (by (first | lia | omega)) (by (first | lia | omega))
 rw [e]; (first | lia | omega)
theorem yh2 {bs : List Int} {n : Nat} (h : n <= bs.length) : yaf bs = yaf (bs.take n) + 2 ^ n * yaf (bs.drop n) := by
 have := ybj (bs.take n) (bs.drop n)
 rw [List.take_append_drop, List.length_take, Nat.min_eq_left h] at this
 exact this
theorem ygh {bs : List Int} {n : Nat} (h : n <= bs.length) : yad bs = yad (bs.take n) + 2 ^ n * yad (bs.drop n) := by
 have := ya4 (bs.take n) (bs.drop n)
 rw [List.take_append_drop, List.length_take, Nat.min_eq_left h] at this
 exact this
theorem yeb {bs : List Int} {n : Nat} (h : n <= bs.length) : yaf bs % 2 ^ n = yaf (bs.take n) := by
 have hb := yal (bs.take n)
 rw [List.length_take, Nat.min_eq_left h] at hb
 rw [yh2 h, Int.add_mul_emod_self_left]
 exact Int.emod_eq_of_lt hb.1 hb.2
theorem ydc {bs : List Int} (hc : yac bs) {n : Nat} (h : n <= bs.length) : yad bs % 2 ^ n = yad (bs.take n) := by
 have hb := yap (bs.take n) (hc.take n)
 rw [List.length_take, Nat.min_eq_left h] at hb
 rw [ygh h, Int.add_mul_emod_self_left]
 exact Int.emod_eq_of_lt hb.1 hb.2
theorem yec {bs : List Int} {n : Nat} (h : n <= bs.length) : yaf bs / 2 ^ n = yaf (bs.drop n) := by
 have hb := yal (bs.take n)
 rw [List.length_take, Nat.min_eq_left h] at hb
 rw [yh2 h, Int.add_mul_ediv_left _ _ (by have := kbt_pos n; (first | lia | omega)), Int.ediv_eq_zero_of_lt hb.1 hb.2]; (first | lia | omega)
theorem ydd {bs : List Int} (hc : yac bs) {n : Nat} (h : n <= bs.length) : yad bs / 2 ^ n = yad (bs.drop n) := by
 have hb := yap (bs.take n) (hc.take n)
 rw [List.length_take, Nat.min_eq_left h] at hb
 rw [ygh h, Int.add_mul_ediv_left _ _ (by have := kbt_pos n; (first | lia | omega)), Int.ediv_eq_zero_of_lt hb.1 hb.2]; (first | lia | omega)
theorem yh3 {bs : List Int} {i : Nat} (h : i < bs.length) : yaf bs / 2 ^ i % 2 = bs[i] % 2 := by
 rw [yec (Nat.le_of_lt h), List.drop_eq_getElem_cons h, yaf, Int.add_mul_emod_self_left, Int.emod_emod_of_dvd _ (Int.dvd_refl 2)]
theorem yef {bs : List Int} (hc : yac bs) {i : Nat} (h : i < bs.length) : yad bs / 2 ^ i % 2 = bs[i] / 2 := by
 have := hc bs[i] (List.getElem_mem ..)
 rw [ydd hc (Nat.le_of_lt h), List.drop_eq_getElem_cons h, yad, Int.add_mul_emod_self_left]; exact yi9 (fun x => x / 2 % 2 = x / 2) (by rfl) this
theorem ybl (t : Int) : ∀ m : Nat, yaf (List.replicate m t) = t % 2 * (2 ^ m - 1)
 | 0 => by simp [yaf]
 | m + 1 => by
  rw [List.replicate_succ, yaf, ybl t m, Int.pow_succ]
  rcases (by (first | lia | omega) : t % 2 = 0 \/ t % 2 = 1) with e | e <;> rw [e] <;> (first | lia | omega)
theorem yba {t : Int} (ht : 0 <= t /\ t < 4) : ∀ m : Nat, yad (List.replicate m t) = t / 2 * (2 ^ m - 1)
 | 0 => by simp [yad]
 | m + 1 => by
  rw [List.replicate_succ, yad, yba ht m, Int.pow_succ]
  rcases yi9 (fun t => t / 2 = 0 \/ t / 2 = 1) (by rfl) ht with e | e <;> rw [e] <;> (first | lia | omega)
noncomputable def ycu (bs : List Int) (sg : Bool) (w : Nat) : List Int := (bs ++ List.replicate w (if sg then bs.getLast?.getD 0 else 0)).take w
theorem yeg (bs : List Int) (sg : Bool) (w : Nat) : (ycu bs sg w).length = w := by simp [ycu]
theorem yf5 {bs : List Int} {sg : Bool} {w : Nat} (h : w <= bs.length) : ycu bs sg w = bs.take w := by
 unfold ycu; rw [List.take_append_of_le_length h]
theorem ys6 {bs : List Int} {sg : Bool} {w : Nat} (h : bs.length <= w) : ycu bs sg w = bs ++ List.replicate (w - bs.length) (if sg then bs.getLast?.getD 0 else 0) := by
 unfold ycu
 rw [List.take_append, List.take_of_length_le h, List.take_replicate, Nat.min_eq_left (Nat.sub_le ..)]
theorem yfh {bs : List Int} (hc : yac bs) : 0 <= bs.getLast?.getD 0 /\ bs.getLast?.getD 0 < 4 := by
 induction e : bs.getLast? with
 | none => decide
 | some b => exact hc b (List.mem_of_getLast? e)
theorem yeh {bs : List Int} (hc : yac bs) (sg : Bool) (w : Nat) : yac (ycu bs sg w) := by
 refine (hc.app (yac.repl ?_ w)).take w
 induction sg
 . rw [if_neg (by decide)]; (first | lia | omega)
 . rw [if_pos rfl]; exact yfh hc
noncomputable def vNone : V -> Bool
 | .none => true
 | _ => false
noncomputable def vInt (i : Int) : V -> Bool
 | .int j => i == j
 | _ => false
noncomputable def vStr (s : Str) : V -> Bool
 | .str x => s == x
 | _ => false
noncomputable def vBool (b : Bool) : V -> Bool
 | .bool d => b == d
 | _ => false
theorem vNone_ok {x : V} (h : vNone x = true) : x = .none := by cases x <;> first | rfl | cases h
theorem vInt_ok {i : Int} {x : V} (h : vInt i x = true) : x = .int i := by cases x <;> first | exact congrArg V.int (beq_iff_eq.mp h).symm | cases h
theorem vStr_ok {i : Str} {x : V} (h : vStr i x = true) : x = .str i := by cases x <;> first | exact congrArg V.str (beq_iff_eq.mp h).symm | cases h
theorem vBool_ok {i : Bool} {x : V} (h : vBool i x = true) : x = .bool i := by cases x <;> first | exact congrArg V.bool (beq_iff_eq.mp h).symm | cases h
noncomputable def atomIs : Value -> V -> Bool
 | .none, x => vNone x
 | .int i _, x => vInt i x
 | .str s _, x => vStr s x
 | .bool b, x => vBool b x
 | _, _ => false
noncomputable def yg9 : List Value -> List V -> Bool
 | [], [] => true
 | v :: vs, x :: xs => atomIs v x && yg9 vs xs
 | _, _ => false
theorem atomIs_R {h : Heap} {v : Value} {x : V} (e : atomIs v x = true) : VR h x v := by
 cases v with
 | none => rw [vNone_ok e]; exact .none
 | int i t => rw [vInt_ok e]; exact .int i t
 | str s t => rw [vStr_ok e]; exact .str s t
 | bool b => rw [vBool_ok e]; exact .bool b
 | _ => exact absurd e (by intro q; cases q)
theorem yjz {h : Heap} : ∀ {vs : List Value} {xs : List V}, yg9 vs xs = true -> VRs h xs vs
 | [], [], _ => .nil
 | v :: vs, x :: xs, e => by
  simp only [yg9, Bool.and_eq_true] at e
  exact .cons (atomIs_R e.1) (yjz e.2)
 | [], _ :: _, e => by cases e
 | _ :: _, [], e => by cases e
noncomputable def dfltOk (K : Frag) (d : Value) (ds : List V) : Bool := match d with
 | .none => ds.isEmpty
 | .ref T => (match K.lookup T with
  | some ⟨_, _, .seq vs _, _⟩ => yg9 vs.toList ds
  | _ => false)
 | _ => false
noncomputable def fnChk (K : Frag) (fd : FuncData) (ns : List Str) (ds : List V) : Bool :=
 ygy fd.params ns && decide ns.Nodup && ns.all (fun x => (fd.scope.names.lookup x == some .local || (fd.scope.names.lookup x == some .cell && !(x == ("__classdict__" : Str))))) &&
 (fd.scope.kind == .function) && !fd.scope.isGenerator && !fd.scope.isCoroutine && (fd.globals == mainGlobals) && (fd.builtins == builtinsNs) && fd.closure.isEmpty && codeIn K fd.code fd.qualname && dfltOk K fd.defaults ds && decide (ds.length <= ns.length)
set_option tactic.hygienic true in
theorem FnOk.of {o : Wo} {a : Addr} {fd : FuncData} {ns : List Str} {ds : List V} {body : List Stmt} (h1 : ∃ ob, o.K.lookup a = some ob /\ ob.data = .func fd) (h2 : fnChk o.K fd ns ds = true) (h3 : fd.body = .stmts body) : FnOk o a fd ns ds body := by
 unfold fnChk at h2
 simp only [Bool.and_eq_true, decide_eq_true_eq, beq_iff_eq, Bool.not_eq_true', List.isEmpty_iff, List.all_eq_true] at h2
 obtain ⟨⟨⟨⟨⟨⟨⟨⟨⟨⟨⟨a1, a2⟩, a3⟩, a4⟩, a5⟩, a6⟩, a7⟩, a8⟩, a9⟩, a10⟩, a11⟩, a12⟩ := h2
 refine ⟨h1, fun h X => codeRec_of X a10, ?_, a1, a2, fun x hx => ?_, a4, a5, a6, a7, a8, a9, h3, a12⟩
 . unfold dfltOk at a11
   split at a11
   . rename_i hd
     have : ds = [] := by simpa using a11
     subst this
     exact ⟨[], fun h => .nil, fun h O => .inl ⟨hd, rfl⟩⟩
   . rename_i T hd
     split at a11
     . rename_i vs n _ hK
       exact ⟨vs.toList, fun h => yjz a11, fun h X => .inr ⟨T, _, n, hd, X _ _ hK, by simp⟩⟩
     . cases a11
   . cases a11
 . have := a3 x hx
   simpa using this
class W3 (o : Wo) where
 X : Frag
 k : o.K = K3 o.P ++ X
 nf : ∀ p ∈ X, p.2.cls ≠ .type "frame"
 sm : ∃ ob, X.lookup sysModules = some ob
 g : ∀ p ∈ G3, o.mg p.1 = p.2
theorem yq6 (P : Params) : ((K3 P).all fun p => p.2.cls != .type "frame") = true := by rfl
theorem yb0 {α β : Type} [BEq α] [LawfulBEq α] : ∀ {l : List (α × β)} {a : α} {b : β}, l.lookup a = some b -> (a, b) ∈ l
 | (k, v) :: r, a, b, h => by
  rw [List.lookup_cons] at h
  cases hb : a == k with
  | true => rw [hb] at h; cases h; rw [beq_iff_eq.mp hb]; exact .head _
  | false => rw [hb] at h; exact .tail _ (yb0 h)
theorem woOk {o : Wo} (W : W3 o) : WoOk o := ⟨fun a ob e => by
 rw [W.k] at e
 rcases List.mem_append.mp (yb0 e) with q | q
 . have := List.all_eq_true.mp (yq6 o.P) (a, ob) q
   simpa using this
 . exact W.nf _ q⟩
theorem K3_noSm (P : Params) : (K3 P).lookup sysModules = none := by rfl
theorem yli {o : Wo} (W : W3 o) : SmOk o := ⟨by
 obtain ⟨ob, h⟩ := W.sm
 refine ⟨ob, ?_⟩
 rw [W.k, List.lookup_append, K3_noSm]
 exact h⟩
theorem mg3 {o : Wo} [W : W3 o] {x : Str} {v : Option Value} (h : G3.lookup x = some v) : o.mg x = v := W.g _ (yb0 h)
section
variable {o : Wo} [W : W3 o]
noncomputable abbrev m0_ : Value := .str "gateloom.vec" 264
noncomputable abbrev m1_ : Value := .str "gateloom.vecarith" 537
noncomputable abbrev m2_ : Value := .str "gateloom.vecops" 710
noncomputable abbrev m3_ : Value := .str "gateloom.evaluate" 902
noncomputable abbrev m4_ : Value := .str "gateloom.walks" 1212
noncomputable abbrev m5_ : Value := .str "gateloom.elabparts" 1337
noncomputable abbrev m6_ : Value := .str "gateloom.elabexpr" 1473
noncomputable abbrev m7_ : Value := .str "gateloom.design" 1752
noncomputable abbrev m8_ : Value := .str "law_nn0344_01" 2064
noncomputable abbrev m9_ : Value := .str "gateloom.store" 410
noncomputable abbrev m10_ : Value := .str "gateloom.scopes" 1945
abbrev Fk (o : Wo) (a r : Addr) (s : Stmt) (q : Str) (d m : Value) (ns : List Str) (ds : List V) : Prop := FnOk o a (fdOf s q d m (.ref r)) ns ds (yjw s)
theorem ok3 {a : Addr} {fd : FuncData} {ns : List Str} {ds : List V} {body : List Stmt} (h1 : ∀ X : Frag, ((K3 o.P ++ X).lookup a).map Obj.data = some (.func fd) := by exact fun O => rfl) (h2 : ∀ X : Frag, fnChk (K3 o.P ++ X) fd ns ds = true := by exact fun O => rfl) (h3 : fd.body = .stmts body := by rfl) : FnOk o a fd ns ds body :=
 FnOk.of (by rw [W.k]; exact Option.map_eq_some_iff.mp (h1 W.X)) (by rw [W.k]; exact h2 _) h3
theorem ok_mask : Fk o 73 72 (stm 6) "mask" .none m0_ ["w"] [] := ok3
theorem ok_vec : Fk o 81 80 (stm 7) "vec" (.ref 74) m0_ ["w", "a", "b"] [.int 0] := ok3
theorem ok_zeros : Fk o 88 87 (stm 8) "zeros" .none m0_ ["w"] [] := ok3
theorem ok_all_x : Fk o 95 94 (stm 9) "all_x" .none m0_ ["w"] [] := ok3
theorem ynp : Fk o 109 108 (stm 11) "from_int" .none m0_ ["w", "n"] [] := ok3
theorem yno : Fk o 116 115 (stm 12) "is_known" .none m0_ ["v"] [] := ok3
theorem yr6 : Fk o 123 122 (stm 13) "to_int" .none m0_ ["v", "signed"] [] := ok3
theorem ok_code : Fk o 130 129 (stm 14) "code" .none m0_ ["v", "i"] [] := ok3
theorem ylv : Fk o 137 136 (stm 15) "slice_vec" .none m0_ ["v", "lo", "w"] [] := ok3
theorem ylx : Fk o 144 143 (stm 16) "put_slice" .none m0_ ["v", "lo", "part"] [] := ok3
theorem ysb : Fk o 151 150 (stm 17) "concat" .none m0_ ["vs"] [] := ok3
theorem yr9 : Fk o 158 157 (stm 18) "extend" .none m0_ ["v", "w", "signed"] [] := ok3
theorem yr5 : Fk o 165 164 (stm 19) "z_to_x" .none m0_ ["v"] [] := ok3
theorem ok_truth : Fk o 172 171 (stm 20) "truth" .none m0_ ["v"] [] := ok3
theorem ok_add : Fk o 264 263 (stm 25) "add" .none m1_ ["u", "v"] [] := ok3
theorem ok_sub : Fk o 271 270 (stm 26) "sub" .none m1_ ["u", "v"] [] := ok3
theorem ok_mul : Fk o 278 277 (stm 27) "mul" .none m1_ ["u", "v"] [] := ok3
theorem ok_neg : Fk o 285 284 (stm 28) "neg" .none m1_ ["v"] [] := ok3
theorem ynl : Fk o 292 291 (stm 29) "quotient" .none m1_ ["m", "n"] [] := ok3
theorem ok_div : Fk o 299 298 (stm 30) "div" .none m1_ ["u", "v", "signed"] [] := ok3
theorem ok_mod : Fk o 306 305 (stm 31) "mod" .none m1_ ["u", "v", "signed"] [] := ok3
theorem yix : Fk o 313 312 (stm 32) "raise_whole" .none m1_ ["base", "exponent", "w"] [] := ok3
theorem ok_power : Fk o 320 319 (stm 33) "power" .none m1_ ["u", "v", "usigned", "vsigned"] [] := ok3
theorem yj8 : Fk o 327 326 (stm 34) "shift_left" .none m1_ ["u", "n"] [] := ok3
theorem yiu : Fk o 334 333 (stm 35) "shift_right" .none m1_ ["u", "n"] [] := ok3
theorem yeo : Fk o 341 340 (stm 36) "shift_arith" .none m1_ ["u", "n", "signed"] [] := ok3
theorem yqi : Fk o 348 347 (stm 37) "ordered" .none m1_ ["u", "v", "signed"] [] := ok3
theorem ok_less : Fk o 355 354 (stm 38) "less" .none m1_ ["u", "v", "signed"] [] := ok3
theorem ykd : Fk o 362 361 (stm 39) "less_equal" .none m1_ ["u", "v", "signed"] [] := ok3
theorem yqk : Fk o 369 368 (stm 40) "greater" .none m1_ ["u", "v", "signed"] [] := ok3
theorem ygn : Fk o 376 375 (stm 41) "greater_equal" .none m1_ ["u", "v", "signed"] [] := ok3
theorem yqj : Fk o 383 382 (stm 43) "one_bit" .none m2_ ["c"] [] := ok3
theorem yqn : Fk o 390 389 (stm 44) "bit_not" .none m2_ ["v"] [] := ok3
theorem yqo : Fk o 397 396 (stm 45) "bit_and" .none m2_ ["u", "v"] [] := ok3
theorem ysd : Fk o 404 403 (stm 46) "bit_or" .none m2_ ["u", "v"] [] := ok3
theorem yqm : Fk o 411 410 (stm 47) "bit_xor" .none m2_ ["u", "v"] [] := ok3
theorem yns : Fk o 418 417 (stm 48) "bit_xnor" .none m2_ ["u", "v"] [] := ok3
theorem ykb : Fk o 425 424 (stm 49) "reduce_and" .none m2_ ["v"] [] := ok3
theorem yiw : Fk o 432 431 (stm 50) "reduce_nand" .none m2_ ["v"] [] := ok3
theorem ylw : Fk o 439 438 (stm 51) "reduce_or" .none m2_ ["v"] [] := ok3
theorem yka : Fk o 446 445 (stm 52) "reduce_nor" .none m2_ ["v"] [] := ok3
theorem yj9 : Fk o 453 452 (stm 53) "reduce_xor" .none m2_ ["v"] [] := ok3
theorem yiv : Fk o 460 459 (stm 54) "reduce_xnor" .none m2_ ["v"] [] := ok3
theorem yl0 : Fk o 467 466 (stm 55) "logic_not" .none m2_ ["v"] [] := ok3
theorem yl1 : Fk o 474 473 (stm 56) "logic_and" .none m2_ ["u", "v"] [] := ok3
theorem ynm : Fk o 481 480 (stm 57) "logic_or" .none m2_ ["u", "v"] [] := ok3
theorem ok_equal : Fk o 488 487 (stm 58) "equal" .none m2_ ["u", "v"] [] := ok3
theorem yly : Fk o 495 494 (stm 59) "not_equal" .none m2_ ["u", "v"] [] := ok3
theorem ykg : Fk o 502 501 (stm 60) "case_equal" .none m2_ ["u", "v"] [] := ok3
theorem yfy : Fk o 509 508 (stm 61) "case_not_equal" .none m2_ ["u", "v"] [] := ok3
theorem ysc : Fk o 523 522 (stm 63) "choose" .none m2_ ["c", "t", "f"] [] := ok3
theorem ok_unary : Fk o 530 529 (stm 65) "unary" .none m3_ ["op", "u"] [] := ok3
theorem ykj : Fk o 537 536 (stm 66) "arithmetic" .none m3_ ["op", "u", "v", "signed"] [] := ok3
theorem ykf : Fk o 544 543 (stm 67) "comparison" .none m3_ ["op", "u", "v", "signed"] [] := ok3
theorem yql : Fk o 551 550 (stm 68) "bitwise" .none m3_ ["op", "u", "v"] [] := ok3
theorem yse : Fk o 558 557 (stm 69) "binary" .none m3_ ["op", "u", "v", "signed"] [] := ok3
theorem ynk : Fk o 565 564 (stm 70) "whole_of" .none m3_ ["e", "signed", "ctx"] [] := ok3
theorem yr7 : Fk o 579 578 (stm 72) "picked" .none m3_ ["e", "ctx"] [] := ok3
theorem yiz : Fk o 586 585 (stm 73) "conditional" .none m3_ ["e", "ctx"] [] := ok3
theorem ya1 : Fk o 605 604 (stm 77) "evaluate" .none m3_ ["e", "ctx"] [] := ok3
theorem ybi : Fk o 735 734 (stm 93) "children" .none m4_ ["e"] [] := ok3
theorem yiy : Fk o 822 821 (stm 108) "last_select" .none m5_ ["e"] [] := ok3
theorem yl2 : Fk o 829 828 (stm 109) "is_memory" .none m5_ ["scope", "entry"] [] := ok3
theorem ok_shape : Fk o 836 835 (stm 110) "shape" .none m5_ ["scope", "entry", "at"] [] := ok3
theorem ykc : Fk o 843 842 (stm 111) "read_entry" .none m5_ ["scope", "entry", "word"] [] := ok3
theorem ok_folds : Fk o 850 849 (stm 112) "folds" .none m5_ ["e"] [] := ok3
theorem yr8 : Fk o 857 856 (stm 113) "folded" .none m5_ ["e"] [] := ok3
theorem ygo : Fk o 864 863 (stm 114) "checked_width" .none m5_ ["width", "at"] [] := ok3
theorem yhp : Fk o 871 870 (stm 115) "selected" .none m5_ ["value", "width", "where"] [] := ok3
theorem yke : Fk o 885 884 (stm 117) "inner_join" .none m5_ ["e"] [] := ok3
theorem ydq : Fk o 892 891 (stm 118) "is_context_operator" .none m5_ ["op"] [] := ok3
theorem ynn : Fk o 899 898 (stm 119) "is_shift" .none m5_ ["op"] [] := ok3
theorem ok_widen : Fk o 906 905 (stm 120) "widen" .none m5_ ["value", "w", "signed"] [] := ok3
theorem yhq : Fk o 913 912 (stm 121) "number_value" .none m5_ ["e", "w", "signed"] [] := ok3
theorem ynq : Fk o 934 933 (stm 125) "entry_of" .none m6_ ["scope", "e"] [] := ok3
theorem yki : Fk o 941 940 (stm 126) "base_entry" .none m6_ ["scope", "e"] [] := ok3
theorem ycg : Fk o 948 947 (stm 127) "select_width" .none m6_ ["scope", "e"] [] := ok3
theorem ych : Fk o 955 954 (stm 128) "select_where" .none m6_ ["scope", "e", "form"] [] := ok3
theorem yfb : Fk o 962 961 (stm 129) "named_type" .none m6_ ["scope", "e"] [] := ok3
theorem yep : Fk o 969 968 (stm 130) "named_value" .none m6_ ["scope", "e"] [] := ok3
theorem yit : Fk o 990 989 (stm 133) "system_type" .none m6_ ["scope", "e"] [] := ok3
theorem ycz : Fk o 997 996 (stm 134) "system_value" .none m6_ ["scope", "e"] [] := ok3
theorem yhr : Fk o 1004 1003 (stm 136) "joined_parts" .none m6_ ["scope", "e"] [] := ok3
theorem ysa : Fk o 1011 1010 (stm 137) "copies" .none m6_ ["scope", "e"] [] := ok3
theorem ydw : Fk o 1018 1017 (stm 138) "joined_width" .none m6_ ["scope", "e"] [] := ok3
theorem ydx : Fk o 1025 1024 (stm 139) "joined_value" .none m6_ ["scope", "e"] [] := ok3
theorem ykh : Fk o 1032 1031 (stm 140) "both_types" .none m6_ ["scope", "left", "right"] [] := ok3
theorem yay : Fk o 1039 1038 (stm 141) "expr_type" .none m6_ ["scope", "e"] [] := ok3
theorem yis : Fk o 1046 1045 (stm 142) "unary_value" .none m6_ ["scope", "e", "w", "signed"] [] := ok3
theorem yht : Fk o 1053 1052 (stm 143) "binary_value" .none m6_ ["scope", "e", "w", "signed"] [] := ok3
theorem yca : Fk o 1060 1059 (stm 144) "build" .none m6_ ["scope", "e", "w", "signed"] [] := ok3
theorem ycp : Fk o 1067 1066 (stm 145) "self_determined" .none m6_ ["scope", "e"] [] := ok3
theorem ok_sized : Fk o 1074 1073 (stm 146) "sized" .none m6_ ["scope", "e", "w"] [] := ok3
theorem yhs : Fk o 1081 1080 (stm 147) "constant_vec" .none m6_ ["scope", "value", "at"] [] := ok3
theorem ynr : Fk o 1088 1087 (stm 148) "constant" .none m6_ ["scope", "e"] [] := ok3
theorem ok_whole : Fk o 1095 1094 (stm 149) "whole" .none m6_ ["scope", "e"] [] := ok3
theorem ylz : Fk o 1102 1101 (stm 151) "net_kinds" .none m7_ [] [] := ok3
theorem ynw : Fk o 1305 1304 (stm 157) "_law_row" .none m8_ ["script"] [] := ok3
theorem yl3 : Fk o 1312 1311 (stm 158) "_law_next" .none m8_ ["row"] [] := ok3
theorem yl5 : Fk o 1319 1318 (stm 159) "_law_bits" .none m8_ ["row", "wide"] [] := ok3
theorem yl4 : Fk o 1326 1325 (stm 160) "_law_made" .none m8_ ["bits"] [] := ok3
theorem yi1 : FnOk o 1331 yeu ["row"] [] ydm := ok3
theorem ykl : Fk o 1338 1337 (stm 162) "_law_small" .none m8_ ["figure"] [] := ok3
theorem yi0 : Fk o 1345 1344 (stm 163) "_law_select" .none m8_ ["row", "deep"] [] := ok3
theorem yeq : Fk o 1352 1351 (stm 164) "_law_source" .none m8_ ["row", "deep"] [] := ok3
theorem yny : Fk o 1359 1358 (stm 165) "_law_fit" .none m8_ ["bits", "wide", "signed"] [] := ok3
theorem yi2 : Fk o 1366 1365 (stm 166) "_law_figure" .none m8_ ["bits", "signed"] [] := ok3
theorem ykn : Fk o 1371 1370 (stm 167) "_law_codes" .none m8_ ["figure", "wide"] [] := ok3
theorem ynu : Fk o 1376 1375 (stm 168) "_law_vec" .none m8_ ["v"] [] := ok3
theorem ykk : Fk o 1383 1382 (stm 169) "_law_truth" .none m8_ ["bits"] [] := ok3
theorem yau : Fk o 1388 1387 (stm 170) "_law_type" .none m8_ ["e", "env"] [] := ok3
theorem yko : Fk o 1395 1394 (stm 171) "_law_alone" .none m8_ ["e", "env"] [] := ok3
theorem yn0 : Fk o 1402 1401 (stm 172) "_law_and" .none m8_ ["one", "two"] [] := ok3
theorem ynx : Fk o 1409 1408 (stm 173) "_law_not" .none m8_ ["bit"] [] := ok3
theorem ynt : Fk o 1416 1415 (stm 174) "_law_xor" .none m8_ ["one", "two"] [] := ok3
theorem ynz : Fk o 1423 1422 (stm 175) "_law_bit" .none m8_ ["op", "one", "two"] [] := ok3
theorem ydy : FnOk o 1430 ycl ["op", "bits"] [] yc6 := ok3
theorem ykm : Fk o 1437 1436 (stm 177) "_law_power" .none m8_ ["one", "two", "wide"] [] := ok3
theorem ynv : Fk o 1444 1443 (stm 178) "_law_sum" .none m8_ ["op", "one", "two", "wide"] [] := ok3
theorem ygp : FnOk o 1449 ydl ["op", "e", "env"] [] ycr := ok3
theorem yhu : Fk o 1456 1455 (stm 180) "_law_shifted" .none m8_ ["op", "left", "amount", "signed"] [] := ok3
theorem yer : FnOk o 1461 ycv ["e", "env"] [] ydn := ok3
theorem yaz : Fk o 1466 1465 (stm 182) "_law_value" .none m8_ ["e", "wide", "signed", "env"] [] := ok3
theorem ok_law : FnOk o 1471 yh9 ["script"] [] yej := ok3
theorem yfc : Fk o 186 185 (met 22 0) "Store.__init__" .none m9_ ["self", "signals"] [] := ok3
theorem yl6 : Fk o 193 192 (met 22 1) "Store.get" .none m9_ ["self", "key"] [] := ok3
theorem yfz : Fk o 207 206 (met 22 3) "Store.set_bits" .none m9_ ["self", "key", "place", "lo", "value"] [] := ok3
theorem yhw : Fk o 229 228 (met 23 0) "Context.__init__" (.ref 222) m9_ ["self", "store", "frame", "now"] [.int 0] := ok3
theorem yi3 : Fk o 1116 1115 (met 152 0) "Signal.__init__" .none m7_ ["self", "key", "path", "kind", "width", "signed", "msb", "lsb"] [] := ok3
theorem ygq : Fk o 1123 1122 (met 152 1) "Signal.is_net" .none m7_ ["self"] [] := ok3
theorem ye0 : Fk o 1130 1129 (met 152 2) "Signal.is_memory" .none m7_ ["self"] [] := ok3
theorem yi4 : Fk o 1172 1171 (met 153 0) "Design.__init__" .none m7_ ["self"] [] := ok3
theorem yek : Fk o 1179 1178 (met 153 1) "Design.add_signal" .none m7_ ["self", "path", "kind", "width", "signed", "msb", "lsb", "at"] [] := ok3
theorem ye1 : Fk o 1186 1185 (met 153 2) "Design.add_scope" .none m7_ ["self", "path"] [] := ok3
theorem ykp : Fk o 1235 1234 (met 155 0) "Scope.__init__" .none m10_ ["self", "design", "name", "parent", "kind"] [] := ok3
theorem ygr : Fk o 1249 1248 (met 155 2) "Scope.declare" .none m10_ ["self", "name", "entry", "at"] [] := ok3
theorem yhv : Fk o 1263 1262 (met 155 4) "Scope.lookup" .none m10_ ["self", "name"] [] := ok3
end
end NN
end
section
open PySem PySem.W PyProof.Rows PySem.Calls
set_option maxRecDepth 100000
set_option linter.all false
set_option backward.match.sparseCases false
set_option maxHeartbeats 4000000
namespace NN
theorem yjg : ∀ {l r : List Char}, l.map Char.toNat = r.map Char.toNat -> l = r
 | [], [], _ => rfl
 | [], _ :: _, h => by cases h
 | _ :: _, [], h => by cases h
 | a :: l, b :: r, h => by
  rw [List.map_cons, List.map_cons, List.cons.injEq] at h
  rw [yjg h.2]
  have : a = b := Char.ext (UInt32.toNat_inj.mp h.1)
  rw [this]
theorem yl7 (a b : String) : (Str.ofString a == Str.ofString b) = (a == b) := by
 rw [Bool.eq_iff_iff, beq_iff_eq, beq_iff_eq]
 constructor
 . intro h
   rw [Str.ofString_eq_toList, Str.ofString_eq_toList, Str.mk.injEq] at h
   have := yjg (List.toArray_inj h)
   exact String.ext this
 . rintro rfl; rfl
theorem beq_f {a b : String} (h : (a == b) = false) : (Str.ofString a == Str.ofString b) = false := by rw [yl7]; exact h
theorem rx {Q : V -> St -> Prop} {x : V} {st : St} (h : Q x st) : UpP Q x st := ⟨_, fun O => .inr rfl, h⟩
theorem Ja.qj {b : Bool} {A B : Prop} (h : b = true) (x : A) : if b then A else B := by rw [h]; exact x
theorem ya2 {b : Bool} {A B : Prop} (h : b = false) (x : B) : if b then A else B := by rw [h]; exact x
theorem Je.qq {α : Type} [BEq α] [ReflBEq α] {x : α} {A B : Prop} (h : A) : if x == x then A else B := Ja.qj (beq_self_eq_true _) h
theorem ite_d {a b : String} {A B : Prop} (h : (a == b) = false) (x : B) : if Str.ofString a == Str.ofString b then A else B := ya2 (beq_f h) x
theorem yd0 {b : Bool} {A B : Prop} (x : b = true -> A) (y : b = false -> B) : if b then A else B := by induction b with | true => exact x rfl | false => exact y rfl
theorem St.le_refl (st : St) : St.le st st := fun O => .inr rfl
theorem St.le_set {st st' : St} {a : Addr} {m : MO} (h : St.le st st') (ha : st a = none) : St.le st (st'.set a m) := fun x => by
 by_cases q : x = a
 . subst q; exact .inl ha
 . rw [St.set_ne _ _ q]; exact h x
noncomputable def b4 : List (Str × Value) := [("abs", .builtin "abs"), ("len", .builtin "len"), ("max", .builtin "max"), ("min", .builtin "min"), ("range", .type "range"), ("sum", .builtin "sum"), ("tuple", .type "tuple"), ("zip", .type "zip")]
noncomputable def g4 (x : Str) : Option Value := match G3.lookup x with
 | some (some v) => some v
 | some none => b4.lookup x
 | none => none
noncomputable def f4 : List Addr := G3.filterMap fun p => match p.2 with
 | some (.ref a) => some a
 | _ => none
noncomputable def kb4 : Value -> Bool
 | .builtin _ => true
 | .type _ => true
 | .ref a => f4.any (Nat.beq a)
 | _ => false
theorem b4_ok : ∀ p ∈ b4, bootBuiltins p.1 = some p.2 /\ p.1 ≠ "__name__" /\ (p.1 == ("__debug__" : Str)) = false := by
 unfold b4
 simp only [List.forall_mem_cons]
 refine ⟨⟨by rfl, by decide +kernel, by rfl⟩, ⟨by rfl, by decide +kernel, by rfl⟩, ⟨by rfl, by decide +kernel, by rfl⟩, ⟨by rfl, by decide +kernel, by rfl⟩, ⟨by rfl, by decide +kernel, by rfl⟩, ⟨by rfl, by decide +kernel, by rfl⟩, ⟨by rfl, by decide +kernel, by rfl⟩, ⟨by rfl, by decide +kernel, by rfl⟩, by simp⟩
theorem G3_nd : (G3.all fun p => !(p.1 == ("__debug__" : Str))) = true := by decide +kernel
theorem f4_ok (P : Params) (X : Frag) : (f4.all fun a => yku (K3 P ++ X) (.ref a)) = true := by rfl
set_option tactic.hygienic true in
theorem G4 {o : Wo} [WO : WoOk o] [W : W3 o] : Gt o g4 kb4 := by
 constructor
 . intro x v hg c loc st pos Q X hk h
   unfold g4 at hg
   split at hg
   . rename_i u hu
     cases hg
     have hd := List.all_eq_true.mp G3_nd _ (yb0 hu)
     exact ev_glob hk (mg3 hu) (by simpa using hd) h
   . rename_i hu
     obtain ⟨h1, h2, h3⟩ := b4_ok _ (yb0 hg)
     exact ev_blt hk (mg3 hu) h1 h2 h3 h
   . cases hg
 . intro v h
   rw [W.k]
   induction v with
   | ref a =>
    obtain ⟨b, hb, e⟩ := List.any_eq_true.mp (show f4.any (Nat.beq a) = true from h)
    rw [Nat.eq_of_beq_eq_true e]
    exact List.all_eq_true.mp (f4_ok _ _) b hb
   | builtin _ => rfl
   | type _ => rfl
   | _ => cases h
theorem yia {o : Wo} [WO : WoOk o] [W : W3 o] (m : Nat) {c : Cx} {X : Exc -> St -> Prop} {loc : yae} {st : St} {es : List Stmt} {Q : Fl -> yae -> St -> Prop} (h : wS g4 kb4 o c X 200 m es Q loc st) : EXS o c loc st es Q X :=
 have : SmOk o := yli W
 exs_w G4 200 m h
theorem Jf.qq {o : Wo} [WO : WoOk o] [W : W3 o] {c : Cx} {X : Exc -> St -> Prop} {loc : yae} {st : St} {es : List Stmt} {Q : Fl -> yae -> St -> Prop} (h : wS g4 kb4 o c X 200 200 es Q loc st) : EXS o c loc st es Q X := yia 200 h
theorem Ja.qr {o : Wo} [WO : WoOk o] [W : W3 o] {c : Cx} {X : Exc -> St -> Prop} {loc : yae} {st : St} {e : Expr} {Q : V -> St -> Prop} (h : wE g4 kb4 o c X 200 loc e Q st) : EV o c loc st e Q X :=
 have : SmOk o := yli W
 ev_w G4 200 h
theorem Jb.qr {o : Wo} [WO : WoOk o] [W : W3 o] {c : Cx} {X : Exc -> St -> Prop} {loc : yae} {st : St} {e : Expr} {Q : Bool -> St -> Prop} (h : wT g4 kb4 o c X 200 loc e Q st) : TR o c loc st e Q X :=
 have : SmOk o := yli W
 tr_w G4 200 h
theorem asg_4 {o : Wo} [WO : WoOk o] [W : W3 o] {c : Cx} {X : Exc -> St -> Prop} {loc : yae} {st : St} {t : Expr} {v : V} {Q : yae -> St -> Prop} (h : wA g4 kb4 o c X 200 loc t v Q st) : ASG o c loc st t v Q X :=
 have : SmOk o := yli W
 asg_w G4 200 h
theorem Jc.qr {o : Wo} [WO : WoOk o] [W : W3 o] {c : Cx} {X X' : Exc -> St -> Prop} {loc : yae} {st : St} {t : Expr} {v : V} {es : List Stmt} {Q : Fl -> yae -> St -> Prop} (h : wA g4 kb4 o c X 200 loc t v (wS g4 kb4 o c X' 200 200 es Q) st) : ASG o c loc st t v (fun l s => EXS o c l s es Q X') X := by
 have : SmOk o := yli W
 exact (asg_w G4 200 h).mono fun l s h => exs_w G4 200 200 h
noncomputable abbrev cxF (k : Kx) (fd : FuncData) (L a : Addr) : Cx := ⟨k.deep (callEnvC fd L a), callEnvC fd L a⟩
noncomputable abbrev argF (ns : List Str) (ds as : List V) : yae := yae.binds (ns.zip (as ++ ds.drop (as.length + ds.length - ns.length))) yae.nil
noncomputable abbrev retQ (Q : V -> St -> Prop) : Fl -> yae -> St -> Prop := fun fl O st' => UpP Q fl.v st'
theorem yil {o : Wo} [WO : WoOk o] {k : Kx} {st : St} {a : Addr} {fd : FuncData} {ns : List Str} {ds : List V} {body : List Stmt} (hF : FnOk o a fd ns ds body) {as : List V} {Q : V -> St -> Prop} {X : Exc -> St -> Prop}
 (hn : 1 <= k.n) (hb : (Nat.ble as.length ns.length && Nat.ble ns.length (as.length + ds.length)) = true)
 (h : ∀ L, EXS o (cxF k fd L a) (argF ns ds as) st body (retQ Q) nX) : yak o k st (.ref a) as Q X := by
 rw [Bool.and_eq_true] at hb
 exact call_fn hF hn (Nat.le_of_ble_eq_true hb.1) (Nat.le_of_ble_eq_true hb.2) h
theorem cf_ {o : Wo} [WO : WoOk o] {k : Kx} {st : St} {a : Addr} {fd : FuncData} {ns : List Str} {ds : List V} {body : List Stmt} (hF : FnOk o a fd ns ds body) {as : List V} {Q : V -> St -> Prop} {X : Exc -> St -> Prop} (h : ∀ L, EXS o (cxF k fd L a) (argF ns ds as) st body (retQ Q) nX) (hn : 1 <= k.n := by right) (hb : (Nat.ble as.length ns.length && Nat.ble ns.length (as.length + ds.length)) = true := by rfl) : yak o k st (.ref a) as Q X := yil hF hn hb h
theorem ygb {o : Wo} [WO : WoOk o] {k : Kx} {st : St} {a : Addr} {fd : FuncData} {ns : List Str} {ds : List V} {body : List Stmt} (hF : FnOk o a fd ns ds body) {as : List V} {Q : V -> St -> Prop} {X : Exc -> St -> Prop}
 (hn : 1 <= k.n) (hb : (Nat.ble as.length ns.length && Nat.ble ns.length (as.length + ds.length)) = true)
 (h : ∀ L, EXS o (cxF k fd L a) (argF ns ds as) st body (retQ Q) nX) : yq7 o k st (.ref a) as Q X := by
 rw [Bool.and_eq_true] at hb
 exact yp2 hF hn (Nat.le_of_ble_eq_true hb.1) (Nat.le_of_ble_eq_true hb.2) h
theorem dn {a b n : Nat} (h : b <= n) (e : Nat.ble (a + 1) b = true) : a <= n - 1 := Nat.le_sub_of_add_le (Nat.le_trans (Nat.le_of_ble_eq_true e) h)
theorem dv0 {a m x : Nat} (h : a + m <= x) (q : Nat.ble 1 m = true) : a <= x - 1 := Nat.le_sub_of_add_le (Nat.le_trans (Nat.add_le_add_left (Nat.le_of_ble_eq_true q) a) h)
theorem dw {a b m x : Nat} (h : a + m <= x) (q : Nat.ble (b + 2) m = true) : a + b <= x - 1 - 1 := Nat.le_sub_of_add_le (Nat.le_sub_of_add_le (Nat.le_trans (Nat.add_le_add_left (Nat.le_of_ble_eq_true q) a) h))
theorem dw0 {a m x : Nat} (h : a + m <= x) (q : Nat.ble 2 m = true) : a <= x - 1 - 1 := dw (b := 0) h q
theorem Jd.qq {o : Wo} [WO : WoOk o] {k : Kx} {st : St} {X : Exc -> St -> Prop} {op : CmpOp} {a b : Int} {Q : V -> St -> Prop} (h : wC o k X op (.int a) (.int b) Q st) : CMP o k st op (.int a) (.int b) Q X := wC_ok h
theorem Jb.qj {o : Wo} [WO : WoOk o] {k : Kx} {st : St} {X : Exc -> St -> Prop} {x y : V} {xs ys : List V} {Q : V -> St -> Prop} (hz : Nat.ble ((x :: xs).length + (y :: ys).length) 10000 = true) (h : Q (.tup (x :: xs ++ y :: ys)) st) : OPB o k st .Add (.tup (x :: xs)) (.tup (y :: ys)) Q X := yni (Nat.le_trans (Nat.le_of_ble_eq_true hz) (by decide)) h
theorem dn2 {a b n : Nat} (h : b <= n) (e : Nat.ble (a + 2) b = true) : a <= n - 1 - 1 := Nat.le_sub_of_add_le (Nat.le_sub_of_add_le (Nat.le_trans (Nat.le_of_ble_eq_true e) h))
theorem le_n {a b n : Nat} (h : b <= n) (e : Nat.ble a b = true) : a <= n := Nat.le_trans (Nat.le_of_ble_eq_true e) h
theorem dnS {a b n m : Nat} (h : n + b <= m) (e : Nat.ble (a + 1) b = true) : n + a <= m - 1 := Nat.le_sub_of_add_le (Nat.le_trans (Nat.add_le_add_left (Nat.le_of_ble_eq_true e) n) h)
theorem dnT {a b n m : Nat} (h : n + b <= m) (e : Nat.ble (a + 1) b = true) : a <= m - 1 := Nat.le_sub_of_add_le (Nat.le_trans (Nat.le_of_ble_eq_true e) (Nat.le_trans (Nat.le_add_left b n) h))
theorem le_m {a b n m : Nat} (h : n + b <= m) (e : Nat.ble a b = true) : a <= m := Nat.le_trans (Nat.le_of_ble_eq_true e) (Nat.le_trans (Nat.le_add_left b n) h)
theorem szl {a b : Nat} (h : a <= b) (e : Nat.ble b 10000 = true) : a <= sizeLine := Nat.le_trans h (Nat.le_trans (Nat.le_of_ble_eq_true e) (by decide))
theorem szA {a b c : Nat} (h : c <= a /\ a <= b) (e : Nat.ble b 10000 = true) : a <= sizeLine := szl h.2 e
theorem leA {a b c d : Nat} (h : c <= a /\ a <= b) (e : Nat.ble b d = true) : a <= d := Nat.le_trans h.2 (Nat.le_of_ble_eq_true e)
theorem rg {n m : Nat} (h : n <= m) (e : Nat.ble m 1000000 = true) : -(2 : Int) ^ 62 <= 0 /\ (0 : Int) < 2 ^ 62 /\ -(2 : Int) ^ 62 <= (n : Int) /\ (n : Int) < 2 ^ 62 := ⟨by decide, by decide, Int.le_trans (by decide) (Int.natCast_nonneg n), Int.lt_of_le_of_lt (Int.ofNat_le.mpr (Nat.le_trans h (Nat.le_of_ble_eq_true e))) (by decide)⟩
theorem dy1 {a b m n x : Nat} (h2 : n + m <= x) (h1 : b <= n) (e : Nat.ble (a + 1) (b + m) = true) : a <= x - 1 := dn (Nat.le_trans (Nat.add_le_add_right h1 m) h2) e
theorem dy2 {a b m n x : Nat} (h2 : n + m <= x) (h1 : b <= n) (e : Nat.ble (a + 2) (b + m) = true) : a <= x - 1 - 1 := dn2 (Nat.le_trans (Nat.add_le_add_right h1 m) h2) e
theorem yah {o : Wo} {k : Kx} {st : St} {i j : Int} {Q : V -> St -> Prop} {X : Exc -> St -> Prop} (hj : 0 < j) (h : Q (.int (i % j)) st) : OPB o k st .Mod (.int i) (.int j) Q X := by
 refine opb_mod (by omega) ?_
 rw [Int.fmod_eq_emod_of_nonneg _ (by omega)]; exact h
theorem att_4 {o : Wo} [WO : WoOk o] [W : W3 o] {k : Kx} {st : St} {a C dx : Addr} {l : List (Str × V)} {name : Str} {x : V} {Q : V -> St -> Prop} {X : Exc -> St -> Prop} (hst : st dx = some (.sd l)) (hl : ygl name l = some x) (hx : x.plain = true) (hk : ∀ P F, getOk (K3 P ++ F) C name = true) (h : Q x st) : ATT o k st (.obj a C dx) name Q X :=
 yoi hst hl hx (by rw [W.k]; exact hk _ _) h
theorem Ja.qk {o : Wo} {k : Kx} {st : St} {a C dx : Addr} {name : Str} {Q : V -> St -> Prop} {X : Exc -> St -> Prop} (h : ATT o k st (.obj a C dx) name Q X) : ATT o k st (.obj a C dx) name Q X := h
theorem Jb.qk {o : Wo} {k : Kx} {st : St} {X : Exc -> St -> Prop} {a : Str} {xs : List V} {Q : V -> St -> Prop} (h : CMP o k st .In (.str a) (.tup xs) Q X) : CMP o k st .In (.str a) (.tup xs) Q X := h
theorem yfd {o : Wo} [WO : WoOk o] [W : W3 o] {k : Kx} {st : St} {a C dx f : Addr} {l : List (Str × V)} {name : Str} (hst : st dx = some (.sd l)) (hl : ygl name l = none) (hk : ∀ P F, ysl (K3 P ++ F) C name f = true) : ytx o k st (.obj a C dx) name (.ref f) :=
 meth_own hst hl (by rw [W.k]; exact hk _ _)
theorem yh6 {o : Wo} [WO : WoOk o] [W : W3 o] {f : Value} (h : ∀ P F, yku (K3 P ++ F) f = true) : yku o.K f = true := by rw [W.k]; exact h _ _
noncomputable abbrev TQ (J : Nat -> yae -> St -> Prop) (QF : Fl -> yae -> St -> Prop) (i : Nat) : Fl -> yae -> St -> Prop := fun fl loc st => match fl with
 | .next | .cont => J (i + 1) loc st
 | .brk => QF .next loc st
 | .ret v => QF (.ret v) loc st
section
variable {o : Wo} [W : WoOk o] {c : Cx} {loc : yae} {st : St} {QF : Fl -> yae -> St -> Prop} {target : Expr} {body : List Stmt}
def TurnQ (o : Wo) (c : Cx) (target : Expr) (body : List Stmt) (xs : List V) (J : Nat -> yae -> St -> Prop) (QF : Fl -> yae -> St -> Prop) (X : Exc -> St -> Prop) : Prop :=
 ∀ i x loc st (Q' : Fl -> yae -> St -> Prop), xs[i]? = some x -> J i loc st -> (∀ f l s, TQ J QF i f l s -> Q' f l s) -> ASG o c loc st target x (fun loc₁ st₁ => EXS o c loc₁ st₁ body Q' X) (fun O O => False)
theorem yc4 {l : Addr} {xs : List V} (J : Nat -> yae -> St -> Prop) (hJ : ∀ i loc st, J i loc st -> st l = some (.lst xs)) (h0 : J 0 loc st) (turn : TurnQ o c target body xs J QF (fun O O => False)) (fin : ∀ loc st, J xs.length loc st -> QF .next loc st) : FORV o c loc st (.ptr l) target body QF :=
 ys0 J hJ h0 (fun i x loc st hx hj => turn i x loc st _ hx hj fun f l s q => by induction f <;> exact q) fin
theorem yd1 {xs : List V} (J : Nat -> yae -> St -> Prop) (h0 : J 0 loc st) (turn : TurnQ o c target body xs J QF (fun O O => False)) (fin : ∀ loc st, J xs.length loc st -> QF .next loc st) : FORV o c loc st (.tup xs) target body QF :=
 forv_tup J h0 (fun i x loc st hx hj => turn i x loc st _ hx hj fun f l s q => by induction f <;> exact q) fin
theorem yc3 {lo hi : Int} (J : Nat -> yae -> St -> Prop) (hb : -(2 ^ 62) <= lo /\ lo < 2 ^ 62 /\ -(2 ^ 62) <= hi /\ hi < 2 ^ 62) (h0 : J 0 loc st) (turn : TurnQ o c target body (rngV lo hi) J QF (fun O O => False)) (fin : ∀ loc st, J (hi - lo).toNat loc st -> QF .next loc st) : FORV o c loc st (.rng lo hi) target body QF :=
 forv_rng J hb h0 (fun i x loc st hx hj => turn i x loc st _ hx hj fun f l s q => by induction f <;> exact q) fin
theorem ysz {x : Str} (J : Nat -> yae -> St -> Prop) (h0 : J 0 loc st) (turn : TurnQ o c target body (x.cps.toList.map chV) J QF (fun O O => False)) (fin : ∀ loc st, J x.cps.size loc st -> QF .next loc st) : FORV o c loc st (.str x) target body QF :=
 forv_str J h0 (fun i x loc st hx hj => turn i x loc st _ hx hj fun f l s q => by induction f <;> exact q) fin
end
open Ja Jb Jc Jd Je Jf
local macro_rules | `(tactic| left) => `(tactic| ((try with_reducible first | refine qr ?_ | refine asg_4 ?_); repeat (first | (intro (go' : GO); clear go') | with_reducible refine qq ?_ | (with_reducible refine ite_d ?_ ?_); decide +kernel | (with_reducible refine qj ?_ ?_); rfl | (with_reducible refine ya2 ?_ ?_); rfl | ((with_reducible refine qk ?_); first | (with_reducible apply att_4); assumption; rfl; rfl; intros; rfl | (with_reducible apply Jc.qj); rfl))))
local macro_rules | `(tactic| right) => `(tactic| first | apply dn; assumption; rfl | apply dn2; assumption; rfl | apply dnS; assumption; rfl | apply dnT; assumption; rfl | apply dv0; assumption; rfl | apply dw0; assumption; rfl | apply dw; assumption; rfl | apply le_n; assumption; rfl | apply szl; assumption; rfl | apply le_m; assumption; rfl | apply szA; assumption; rfl | apply leA; assumption; rfl | apply rg; assumption; rfl | apply dy1; assumption; assumption; rfl | apply dy2; assumption; assumption; rfl | lia | omega)
local macro_rules | `(tactic| symm) => `(tactic| refine rx ?_)
local macro_rules | `(tactic| ac_rfl) => `(tactic| (left; refine rx ?_; assumption))
local macro_rules | `(tactic| refine' $t) => `(tactic| (left; refine $t))
section
variable {o : Wo} [WO : WoOk o] [W : W3 o] {k : Kx} {st : St} {Q : V -> St -> Prop} {X : Exc -> St -> Prop}
theorem shl_ok {w : Int} (h0 : 0 <= w) (h1 : w <= 2 ^ 20) : (Builtin.Int.intBits 1 : Int) + w <= 2 ^ 27 := by
 have : (Builtin.Int.intBits 1 : Int) = 1 := by rfl
 right
theorem yct {w : Nat} (hn : 1 <= k.n) (h1 : w <= 2 ^ 20) (h : Q (.int (2 ^ w - 1)) st) : yak o k st (.ref 73) [.int w] Q X := by
 refine yil ok_mask hn (by rfl) fun L => ?_
 refine' yb8 (by right) (shl_ok (by right) (by right)) ?_
 refine' ⟨st, St.le_refl _, ?_⟩
 simpa [Fl.v] using h
theorem vec3_ {w : Nat} {a b : Int} (hn : 2 <= k.n) (h1 : w <= 2 ^ 20) (h : Q (.tup [.int w, .int (a % 2 ^ w), .int (b % 2 ^ w)]) st) : yak o k st (.ref 81) [.int w, .int a, .int b] Q X := by
 refine cf_ ok_vec fun L => ?_
 refine' yct (by right) (by right) ?_
 left
 symm
 show Q (.tup [.int w, .int (Builtin.bitAnd a (2 ^ w - 1)), .int (Builtin.bitAnd b (2 ^ w - 1))]) st
 rw [kbt_mask, kbt_mask]; exact h
theorem ymt {w : Nat} (hn : 2 <= k.n) (h1 : w <= 2 ^ 20) (h : Q (.tup [.int w, .int (2 ^ w - 1), .int (2 ^ w - 1)]) st) : yak o k st (.ref 95) [.int w] Q X := by
 refine cf_ ok_all_x fun L => ?_
 refine' yct (by right) (by right) ?_
 left
 symm
 exact h
theorem ysy {w : Nat} {a : Int} (hn : 2 <= k.n) (h1 : w <= 2 ^ 20) (h : Q (.tup [.int w, .int (a % 2 ^ w), .int 0]) st) : yak o k st (.ref 109) [.int w, .int a] Q X := by
 refine cf_ ynp fun L => ?_
 refine' yct (by right) (by right) ?_
 left
 symm
 show Q (.tup [.int w, .int (Builtin.bitAnd a (2 ^ w - 1)), .int 0]) st
 rw [kbt_mask]; exact h
theorem yrn {w a b : Int} {sg : Bool} (hw : 1 <= w /\ w <= 2 ^ 20) (hn : 1 <= k.n) (h : Q (if b != 0 then .none else if sg && (a / 2 ^ (w - 1).toNat == 1) then .int (a - 2 ^ w.toNat) else .int a) st) : yak o k st (.ref 123) [.tup [.int w, .int a, .int b], .bool sg] Q X := by
 refine cf_ yr6 fun L => ?_
 refine' yd0 (fun hb => ?_) fun hb => ?_
 . rw [hb] at h
   left
   symm
   exact h
 . rw [hb] at h
   left
   induction sg with
   | false =>
    left
    symm
    exact h
   | true =>
    refine' yb7 (by right) ?_
    rw [Int.fdiv_eq_ediv_of_nonneg _ (by have := kbt_pos (w - 1).toNat; right)]
    refine' yd0 (fun hc => ?_) fun hc => ?_
    . rw [hc] at h
      refine' yb8 (by right) (shl_ok (by right) (by right)) ?_
      left
      symm
      rw [Int.one_mul]
      exact h
    . rw [hc] at h
      left
      symm
      exact h
theorem code_ {bs : List Int} {i : Nat} (hc : yac bs) (hi : i < bs.length) (hn : 1 <= k.n) (h : Q (.int bs[i]) st) : yak o k st (.ref 130) [yag bs, .int i] Q X := by
 refine cf_ ok_code fun L => ?_
 refine' yb7 (by right) ?_
 rw [Int.fdiv_eq_ediv_of_nonneg _ (by have := kbt_pos (i : Int).toNat; right)]
 refine' yb7 (by right) ?_
 rw [Int.fdiv_eq_ediv_of_nonneg _ (by have := kbt_pos (i : Int).toNat; right)]
 refine' yav (IntMulOk.of_left (by decide)) ?_
 left
 symm
 rw [bitAnd_m1, bitAnd_m1, Int.toNat_natCast, yh3 hi, yef hc hi]
 have hb := hc bs[i] (List.getElem_mem ..)
 have e : bs[i] % 2 + 2 * (bs[i] / 2) = bs[i] := Int.emod_add_mul_ediv _ 2
 rw [e]; exact h
end
section
variable {o : Wo} [WO : WoOk o] [W : W3 o] {k : Kx} {st : St} {Q : V -> St -> Prop} {X : Exc -> St -> Prop}
theorem yk1 {bs : List Int} (hc : yac bs) {w : Nat} (hl : bs.length < w) {t : Int} (ht : 0 <= t /\ t < 4) :
 yaf (bs ++ List.replicate (w - bs.length) t) = Builtin.bitOr (yaf bs) (if t % 2 = 1 then 2 ^ w - 2 ^ bs.length else 0) /\ yad (bs ++ List.replicate (w - bs.length) t) = Builtin.bitOr (yad bs) (if t / 2 = 1 then 2 ^ w - 2 ^ bs.length else 0) := by
 have b1 := yal bs
 have b2 := yap bs hc
 obtain ⟨m, hm⟩ : ∃ m, w = bs.length + m := ⟨w - bs.length, (Nat.add_sub_of_le (Nat.le_of_lt hl)).symm⟩
 have e0 : w - bs.length = m := (Nat.eq_sub_of_add_eq' hm.symm).symm
 have pw : (2 : Int) ^ w - 2 ^ bs.length = (2 ^ m - 1) * 2 ^ bs.length := by rw [hm, Int.pow_add, Int.sub_mul, Int.mul_comm, Int.one_mul]
 have pm := kbt_pos m
 have pm1 : (0 : Int) <= 2 ^ m - 1 := Int.sub_nonneg_of_le pm
 have key : ∀ x : Int, 0 <= x -> x < 2 ^ bs.length -> Builtin.bitOr x (2 ^ w - 2 ^ bs.length) = x + 2 ^ bs.length * (2 ^ m - 1) := fun x h0 h1 => by
  rw [pw, or_comm _ _ h0 (Int.mul_nonneg pm1 (Int.le_of_lt (kbt_pos bs.length))), yne pm1 h0 h1, Int.mul_comm]; exact Int.add_comm _ _
 rw [ybj, ya4, ybl, yba ht, e0]
 constructor
 . rcases Int.emod_two_eq t with e | e
   . rw [if_neg (by rw [e]; decide), yez _ b1.1, e, Int.zero_mul, Int.mul_zero, Int.add_zero]
   . rw [if_pos e, key _ b1.1 b1.2, e, Int.one_mul]
 . rcases yi9 (fun t => t / 2 = 0 \/ t / 2 = 1) (by rfl) ht with e | e
   . rw [if_neg (by rw [e]; decide), yez _ b2.1, e, Int.zero_mul, Int.mul_zero, Int.add_zero]
   . rw [if_pos e, key _ b2.1 b2.2, e, Int.one_mul]
theorem yk0 {bs : List Int} {w : Nat} {sg : Bool} (hc : yac bs) (hne : bs ≠ []) (hl : bs.length <= 2 ^ 20) (hw : w <= 2 ^ 20) (hn : 3 <= k.n) (h : Q (yag (ycu bs sg w)) st) : yak o k st (.ref 158) [yag bs, .int w, .bool sg] Q X := by
 refine cf_ yr9 fun L => ?_
 refine' yd0 (fun hb => ?_) fun hb => ?_
 . have hb : w <= bs.length := by simpa using hb
   refine' vec3_ (by right) hw ?_
   left
   symm
   rw [yf5 hb] at h
   unfold yag at h
   rw [List.length_take, Nat.min_eq_left hb] at h
   rw [yeb hb, ydc hc hb]
   exact h
 . have hb : bs.length < w := by simpa using hb
   rw [ys6 (Nat.le_of_lt hb)] at h
   left
   induction sg with
   | false =>
    left
    symm
    have e := yk1 hc hb (t := 0) (by decide)
    unfold yag at h
    rw [if_neg (by decide), e.1, e.2, if_neg (by decide), if_neg (by decide), yez _ (yal bs).1, yez _ (yap bs hc).1, List.length_append, List.length_replicate, show bs.length + (w - bs.length) = w by right] at h
    exact h
   | true =>
    refine' yct (by right) hw ?_
    refine' yct (by right) hl ?_
    left
    rw [ypg (Nat.le_of_lt hb)]
    obtain ⟨zs, z, rfl⟩ : ∃ zs z, bs = zs ++ [z] := by
     rcases List.eq_nil_or_concat bs with q | ⟨zs, z, q⟩
     . exact absurd q hne
     . exact ⟨zs, z, by rw [q, List.concat_eq_append]⟩
    have ei : ((zs ++ [z]).length : Int) - 1 = ((zs.length : Nat) : Int) := by simp
    rw [ei]
    refine code_ (bs := zs ++ [z]) hc (by simp) (by right) ?_
    have eg : (zs ++ [z])[zs.length]'(by simp) = z := by simp
    rw [eg]
    have hz : 0 <= z /\ z < 4 := hc z (by simp)
    have el : (zs ++ [z]).getLast?.getD 0 = z := by simp
    rw [if_pos rfl, el] at h
    have e := yk1 hc hb hz
    unfold yag at h
    rw [e.1, e.2, List.length_append, List.length_replicate, show (zs ++ [z]).length + (w - (zs ++ [z]).length) = w from Nat.add_sub_of_le (Nat.le_of_lt hb)] at h
    have a1 : Builtin.bitAnd z 1 = z % 2 := bitAnd_m1 z
    have a2 : Builtin.bitAnd z 2 = z / 2 * 2 := by
     have := kbt_bit z 1
     have e2 : (2 : Int) ^ 1 = 2 := by decide
     rw [e2] at this
     rw [this]; exact yi9 (fun z => z / 2 % 2 * 2 = z / 2 * 2) (by rfl) hz
    left
    rw [a1]
    refine yd0 (fun h1 => ?_) fun h1 => ?_
    all_goals
     left
     rw [a2]
     refine yd0 (fun h2 => ?_) fun h2 => ?_
     all_goals
      left
      symm
      simp at h1 h2
      first | rw [if_pos (by right)] at h | rw [if_neg (by right)] at h
      first | rw [if_pos (by right)] at h | rw [if_neg (by right)] at h
      exact h
noncomputable def ye6 (ps : List (List Int)) : List Int := ps.foldl (fun acc p => p ++ acc) []
theorem yfl : ∀ (ps : List (List Int)) (acc : List Int), ps.foldl (fun acc p => p ++ acc) acc = ps.foldl (fun acc p => p ++ acc) [] ++ acc
 | [], acc => rfl
 | p :: ps, acc => by
  rw [List.foldl_cons, List.foldl_cons, yfl ps (p ++ acc), yfl ps (p ++ []), List.append_nil, List.append_assoc]
theorem yij (p : List Int) (ps : List (List Int)) : ye6 (p :: ps) = ye6 ps ++ p := by
 unfold ye6; rw [List.foldl_cons, yfl, List.append_nil]
theorem yih (ps : List (List Int)) (p : List Int) : ye6 (ps ++ [p]) = p ++ ye6 ps := by
 unfold ye6; rw [List.foldl_append]; rfl
theorem yga : ∀ {ps : List (List Int)}, (∀ p ∈ ps, yac p) -> yac (ye6 ps)
 | [], _ => yac.nil
 | p :: ps, h => by rw [yij]; exact (yga fun q hq => h q (.tail _ hq)).app (h p (.head _))
theorem put_full {bs : List Int} {A B : Int} (hc : yac bs) (hne : bs ≠ []) (hl : bs.length <= 2 ^ 19) (hn : 3 <= k.n) (h : Q (yag bs) st) : yak o k st (.ref 144) [.tup [.int bs.length, .int A, .int B], .int 0, yag bs] Q X := by
 refine cf_ ylx fun L => ?_
 have hp : 0 < bs.length := List.length_pos_iff.mpr hne
 refine' ycq ?_
 rw [if_neg (by decide)]
 refine' ydi ?_
 rw [if_neg (by right)]
 refine' ya2 (by simp; right) ?_
 left
 rw [show (0 : Int) + (bs.length : Int) - 0 = ((bs.length : Nat) : Int) by right]
 refine yct (by right) (by right) ?_
 refine' yct (by right) (by right) ?_
 left
 have q1 : (Builtin.Int.intBits (2 ^ bs.length - 1) : Int) + 0 <= 2 ^ 27 := by
  have : Builtin.Int.intBits (2 ^ bs.length - 1) <= bs.length := by
   rw [intBits_le_iff]
   have := kbt_pos bs.length
   have e : ((2 : Int) ^ bs.length - 1).natAbs < 2 ^ bs.length := by
    have h2 := kbt_cast bs.length
    right
   exact e
  right
 refine yb8 (by decide) q1 ?_
 left
 rw [show ((2 : Int) ^ bs.length - 1) * 2 ^ (0 : Int).toNat = 2 ^ bs.length - 1 by simp, bitXor_self, yk7]
 refine yb7 (by decide) ?_
 left
 rw [show ∀ x : Int, x.fdiv (2 ^ (0 - (0 : Int)).toNat) = x from fun x => by simp, kbt_mask, Int.emod_eq_of_lt (yal bs).1 (yal bs).2]
 have q2 : ∀ x : Int, 0 <= x -> x < 2 ^ bs.length -> (Builtin.Int.intBits x : Int) + 0 <= 2 ^ 27 := fun x h0 h1 => by
  have : Builtin.Int.intBits x <= bs.length := by
   rw [intBits_le_iff]
   have h2 := kbt_cast bs.length
   right
  right
 refine yb8 (by decide) (q2 _ (yal bs).1 (yal bs).2) ?_
 left
 rw [yk7]
 refine yb7 (by decide) ?_
 left
 rw [show ∀ x : Int, x.fdiv (2 ^ (0 - (0 : Int)).toNat) = x from fun x => by simp, kbt_mask, Int.emod_eq_of_lt (yap bs hc).1 (yap bs hc).2]
 refine yb8 (by decide) (q2 _ (yap bs hc).1 (yap bs hc).2) ?_
 left
 symm
 rw [show ∀ x : Int, x * 2 ^ (0 : Int).toNat = x from fun x => by simp, show ∀ x : Int, x * 2 ^ (0 : Int).toNat = x from fun x => by simp, yrd _ (yal bs).1, yrd _ (yap bs hc).1]
 exact h
noncomputable def ygg (w : Nat) (n : Int) : List Int := (List.range w).map fun (i : Nat) => n / 2 ^ i % 2
theorem ya0 (w : Nat) (n : Int) : (ygg w n).length = w := by simp [ygg]
theorem yl9 (w : Nat) (n : Int) : ygg (w + 1) n = ygg w n ++ [n / 2 ^ w % 2] := by delta ygg; rw [List.range_succ, List.map_append]; rfl
theorem ybe (w : Nat) (n : Int) : yac (ygg w n) := fun b hb => by
 obtain ⟨i, _, rfl⟩ := List.mem_map.mp hb; exact mjk _ (by decide) (by decide)
theorem yr1 (n : Int) (w : Nat) : n % 2 ^ (w + 1) = n % 2 ^ w + 2 ^ w * (n / 2 ^ w % 2) := by
 have hp := kbt_pos w
 have h1 := Int.emod_nonneg n (Int.ne_of_gt hp)
 have h2 := Int.emod_lt_of_pos n hp
 have h3 : (2 : Int) ^ (w + 1) = 2 ^ w * 2 := Int.pow_succ ..
 have e1 := Int.emod_add_mul_ediv n (2 ^ w)
 have e2 := Int.emod_add_mul_ediv (n / 2 ^ w) 2
 refine ((kbt_unique (a := n) (q := n / 2 ^ w / 2) (b := 2 ^ (w + 1)) (kbt_pos (w + 1)) ?_ ?_ ?_).2)
 . have : (2 : Int) ^ (w + 1) * (n / 2 ^ w / 2) = 2 ^ w * (2 * (n / 2 ^ w / 2)) := by rw [h3, Int.mul_assoc]
   rw [this, Int.add_assoc, <- Int.mul_add, e2]; exact e1
 . have : 0 <= (2 : Int) ^ w * (n / 2 ^ w % 2) := Int.mul_nonneg (Int.le_of_lt hp) (mdk _ (by decide)).1
   exact Int.add_nonneg h1 this
 . rcases Int.emod_two_eq (n / 2 ^ w) with e | e <;> rw [e] <;> right
theorem yda : ∀ (w : Nat) (n : Int), yaf (ygg w n) = n % 2 ^ w
 | 0, n => by simp [ygg, yaf]
 | w + 1, n => by
  rw [yl9, ybj, yda w n, ya0, yr1]
  simp only [yaf]; congr 1; congr 1; exact (Int.add_zero _).trans (Int.emod_emod_of_dvd _ (Int.dvd_refl 2))
theorem yci : ∀ (w : Nat) (n : Int), yad (ygg w n) = 0
 | 0, n => by simp [ygg, yad]
 | w + 1, n => by
  rw [yl9, ya4, yci w n, ya0]
  simp only [yad]
  have : n / 2 ^ w % 2 / 2 = 0 := Int.ediv_eq_zero_of_lt (mdk _ (by decide)).1 (mdk _ (by decide)).2
  rw [this]; simp
noncomputable def ybb (f : Int) : V := .tup [.str "num", .int 0, .tup [.int 32, .int (f % 2 ^ 32), .int 0], .bool true, .bool false]
theorem yjj (f : Int) : ybb f = yqp (ygg 32 f) true false := by
 delta ybb yqp yag; rw [yda, yci, ya0]; rfl
noncomputable def ygi (bs : List Int) (sn szd : Bool) : Bool := sn || (!szd && decide (2 <= bs.getLast?.getD 0))
theorem ykq {bs : List Int} {sg szd sn : Bool} {w : Nat} (hc : yac bs) (hne : bs ≠ []) (hl : bs.length <= 2 ^ 20) (hw : w <= 2 ^ 20) (hn : 4 <= k.n) (h : Q (yew (ycu bs (ygi bs sn szd) w)) st) :
 yak o k st (.ref 913) [yqp bs sg szd, .int w, .bool sn] Q X := by
 refine cf_ yhq fun L => ?_
 delta yqp
 left
 induction sn with
 | true =>
  refine' yk0 hc hne hl hw (by right) ?_
  delta yag
  left
  symm
  exact h
 | false =>
  left
  induction szd with
  | true =>
   refine' yk0 hc hne hl hw (by right) ?_
   delta yag
   left
   symm
   exact h
  | false =>
   left
   obtain ⟨zs, z, rfl⟩ : ∃ zs z, bs = zs ++ [z] := by
    rcases List.eq_nil_or_concat bs with q | ⟨zs, z, q⟩
    . exact absurd q hne
    . exact ⟨zs, z, by rw [q, List.concat_eq_append]⟩
   delta yag
   left
   have ei : ((zs ++ [z]).length : Int) - 1 = ((zs.length : Nat) : Int) := by simp
   rw [ei]
   refine code_ (bs := zs ++ [z]) hc (by simp) (by right) ?_
   have eg : (zs ++ [z])[zs.length]'(by simp) = z := by simp
   rw [eg]
   left
   have ef : ygi (zs ++ [z]) false false = decide (2 <= z) := by delta ygi; simp
   rw [ef] at h
   refine yk0 (bs := zs ++ [z]) hc (by simp) hl hw (by right) ?_
   delta yag
   left
   symm
   exact h
theorem yfn {bs : List Int} {sg szd : Bool} {scp : V} (hn : 1 <= k.n) (h : Q (.tup [.int bs.length, .bool sg]) st) : yak o k st (.ref 1039) [scp, yqp bs sg szd] Q X := by
 refine cf_ yay fun L => ?_
 delta yqp yag
 left
 symm
 exact h
theorem ymr {bs : List Int} {sg szd sn : Bool} {w : Nat} {scp : V} (hc : yac bs) (hne : bs ≠ []) (hl : bs.length <= 2 ^ 20) (hw : w <= 2 ^ 20) (hn : 5 <= k.n) (h : Q (yew (ycu bs (ygi bs sn szd) w)) st) : yak o k st (.ref 1060) [scp, yqp bs sg szd, .int w, .bool sn] Q X := by
 refine cf_ yca fun L => ?_
 delta yqp
 refine' ykq (sg := sg) (szd := szd) hc hne hl hw (by right) ?_
 left
 symm
 exact h
theorem sd_num {bs : List Int} {sg szd : Bool} {scp : V} (hc : yac bs) (hne : bs ≠ []) (hl : bs.length <= 2 ^ 20) (hn : 6 <= k.n) (h : Q (.tup [yew bs, .bool sg]) st) : yak o k st (.ref 1067) [scp, yqp bs sg szd] Q X := by
 refine cf_ ycp fun L => ?_
 refine' yfn (by right) ?_
 refine' ymr hc hne hl hl (by right) ?_
 rw [yf5 (Nat.le_refl _), List.take_length]
 left
 symm
 exact h
end
theorem yc0 {st : St} {a b : Addr} {m : MO} (h : (st.set a m) b = none) : a ≠ b := by rintro rfl; simp at h
theorem yab {st : St} {a b : Addr} {m : MO} (h : (st.set a m) b = none) : st b = none := by
 unfold St.set at h
 split at h
 . cases h
 . exact h
theorem St.le_both {a b : St} {x : Addr} {m : MO} (h : St.le a b) : St.le (a.set x m) (b.set x m) := fun y => by
 unfold St.set
 split
 . exact .inr rfl
 . exact h y
theorem St.swap {st : St} {a b : Addr} {m n : MO} (h : a ≠ b) : (st.set a m).set b n = (st.set b n).set a m := by
 funext x; unfold St.set
 by_cases q : x = a
 . subst q; rw [if_neg h, if_pos rfl, if_pos rfl]
 . by_cases q2 : x = b
   . subst q2; rw [if_pos rfl, if_neg q, if_pos rfl]
   . rw [if_neg q2, if_neg q, if_neg q, if_neg q2]
theorem St.keep {S : St} {a b : Addr} {m m' : MO} (h : S a = some m) (hb : S b = none) : (S.set b m') a = some m := by
 have : a ≠ b := by rintro rfl; rw [hb] at h; cases h
 rw [St.set_ne _ _ this]; exact h
section
variable {o : Wo} [WO : WoOk o] [W : W3 o] {c : Cx} {k : Kx} {loc : yae} {st : St} {Q : V -> St -> Prop} {X : Exc -> St -> Prop}
theorem cmp_rawr {op : CmpOp} {a : V} {i : Int} {t : Tok} (h : CMP o k st op a (.int i) Q X) : CMP o k st op a (.raw (.int i t)) Q X := fun s va vb S ra rb => by cases rb; exact h s va _ S ra (.int _ _)
end
section
variable {o : Wo} [WO : WoOk o] [W : W3 o] {k : Kx} {st : St} {Q : V -> St -> Prop} {X : Exc -> St -> Prop}
theorem ymj {bs : List Int} {sg szd : Bool} {scp : V} (hc : yac bs) (hne : bs ≠ []) (hl : bs.length <= 2 ^ 20) (hn : 8 <= k.n) (h : Q (.tup [yag bs, .bool sg]) st) : yak o k st (.ref 1088) [scp, yqp bs sg szd] Q X := by
 refine cf_ ynr fun L => ?_
 refine' sd_num hc hne hl (by right) ?_
 left
 refine' yil yhs (by show 1 <= k.n - 1; right) (by rfl) fun L2 => ?_
 refine' yb3 (a := 1) (by decide) (by simp) (by simp only [List.length_cons, List.length_nil]; decide) ?_
 refine' ⟨_, St.le_refl _, ?_⟩
 left
 symm
 exact h
theorem yrg {bs : List Int} {sg szd : Bool} {scp : V} {n : Int} (hc : yac bs) (hne : bs ≠ []) (hl : bs.length <= 2 ^ 20) (hh : yad bs = 0) (hv : (if sg && (yaf bs / 2 ^ ((bs.length : Int) - 1).toNat == 1) then yaf bs - 2 ^ bs.length else yaf bs) = n) (hn : 9 <= k.n) (h : Q (.int n) st) : yak o k st (.ref 1095) [scp, yqp bs sg szd] Q X := by
 refine cf_ ok_whole fun L => ?_
 have hp : 0 < bs.length := List.length_pos_iff.mpr hne
 refine' ymj hc hne hl (by right) ?_
 refine' yrn (by right) (by right) ?_
 rw [hh, show ((0 : Int) != 0) = false from rfl, if_neg (by decide), Int.toNat_natCast]
 have e : (if (sg && (yaf bs / 2 ^ ((bs.length : Int) - 1).toNat == 1)) = true then V.int (yaf bs - 2 ^ bs.length) else V.int (yaf bs)) = V.int n := by
  rw [<- hv]; split <;> rfl
 rw [e]
 left
 symm
 exact h
theorem ybx {f : Int} {scp : V} (hf : -(2 ^ 31) <= f /\ f < 2 ^ 31) (hn : 9 <= k.n) (h : Q (.int f) st) : yak o k st (.ref 1095) [scp, ybb f] Q X := by
 rw [yjj]
 refine yrg (ybe _ _) (by intro q; have := ya0 32 f; rw [q] at this; cases this) (by rw [ya0]; decide) (yci _ _) ?_ hn h
 rw [yda, ya0]
 have e : (((32 : Nat) : Int) - 1).toNat = 31 := by decide
 rw [e]
 by_cases q : 0 <= f
 . have e2 : f % 2 ^ 32 = f := Int.emod_eq_of_lt q (Int.lt_trans hf.2 (by decide))
   rw [e2, if_neg (by rw [Int.ediv_eq_zero_of_lt q hf.2]; decide)]
 . have e2 : f % 2 ^ 32 = f + 2 ^ 32 := by right
   have e3 : (f + 2 ^ 32) / 2 ^ 31 = 1 := by right
   rw [e2, e3, if_pos (by rfl)]; right
theorem yg6 {w p : Int} (hw : 1 <= w) (hw2 : w <= 65536) (hn : 1 <= k.n) (h : Q (.int w) st) : yak o k st (.ref 864) [.int w, .int p] Q X := by
 refine cf_ ygo fun L => ?_
 refine' ya2 (by simp; right) ?_
 refine' cmp_rawr ?_
 refine' ya2 (by simp; right) ?_
 left
 symm
 exact h
theorem Store_ {lp : V} (hn : 2 <= k.n) (h : ∀ x dx v m, st dx = none -> Q (.obj x 210 dx) (st.set dx (.sd [("signals", lp), ("values", .ptr v), ("memories", .ptr m), ("random_seed", .int 1)]))) : yak o k st (.ref 210) [lp] Q X := by
 refine (yei (fI := 186) (by rw [W.k]; rfl) (by rw [W.k]; rfl) (by rw [W.k]; rfl) (by right) fun A' x dx hA hdx => ?_).call
 refine ygb yfc (by show 1 <= k.n - 1; right) (by rfl) fun L => ?_
 refine' ycn (St.set_same ..) (by rw [W.k]; rfl) (Nat.le_of_ble_eq_true (by rfl)) ?_
 rw [St.set_set]
 left
 intro v hv
 have nv := yc0 hv
 refine' ycn ((St.set_ne _ _ nv).trans (St.set_same ..)) (by rw [W.k]; rfl) (Nat.le_of_ble_eq_true (by rfl)) ?_
 left
 intro m hm
 have nm := yc0 hm
 refine' ycn ((St.set_ne _ _ nm).trans (St.set_same ..)) (by rw [W.k]; rfl) (Nat.le_of_ble_eq_true (by rfl)) ?_
 refine' ycn (St.set_same ..) (by rw [W.k]; rfl) (Nat.le_of_ble_eq_true (by rfl)) ?_
 left
 have v0 := yab hv
 have m0 := yab (yab (yab hm))
 exact ⟨_, St.le_both (St.le_set (St.le_set (St.le_set (St.le_set (St.le_set (St.le_refl _) hdx) v0) hdx) m0) hdx), rfl, h x dx v m hdx⟩
theorem ymw {sp fp : V} (hn : 2 <= k.n) (h : ∀ x dx, st dx = none -> Q (.obj x 253 dx) (st.set dx (.sd [("store", sp), ("frame", fp), ("now", .int 0)]))) : yak o k st (.ref 253) [sp, fp] Q X := by
 refine (yei (fI := 229) (by rw [W.k]; rfl) (by rw [W.k]; rfl) (by rw [W.k]; rfl) (by right) fun A' x dx hA hdx => ?_).call
 refine ygb yhw (by show 1 <= k.n - 1; right) (by rfl) fun L => ?_
 refine' ycn (St.set_same ..) (by rw [W.k]; rfl) (Nat.le_of_ble_eq_true (by rfl)) ?_
 rw [St.set_set]
 refine' ycn (St.set_same ..) (by rw [W.k]; rfl) (Nat.le_of_ble_eq_true (by rfl)) ?_
 rw [St.set_set]
 refine' ycn (St.set_same ..) (by rw [W.k]; rfl) (Nat.le_of_ble_eq_true (by rfl)) ?_
 rw [St.set_set]
 left
 exact ⟨_, St.le_refl _, rfl, h x dx hdx⟩
theorem ytv {bs : List Int} {cx : V} (hn : 1 <= k.n) (h : Q (yag bs) st) : yak o k st (.ref 605) [yew bs, cx] Q X := by
 refine cf_ ya1 fun L => ?_
 left
 symm
 exact h
noncomputable def ybq (bs : List Int) (lo : Int) (w : Nat) : List Int := (List.range w).map fun i => if 0 <= lo + (i : Nat) /\ lo + (i : Nat) < bs.length then bs.getD (lo + (i : Nat)).toNat 3 else 3
theorem ycx (bs : List Int) (lo : Int) (w : Nat) : (ybq bs lo w).length = w := by unfold ybq; rw [List.length_map, List.length_range]
set_option tactic.hygienic true in
theorem ydt {bs : List Int} (h : yac bs) (lo : Int) (w : Nat) : yac (ybq bs lo w) := fun b hb => by
 obtain ⟨i, _, rfl⟩ := List.mem_map.mp hb
 split
 . rename_i q
   rw [List.getD_eq_getElem?_getD]
   have hi : (lo + (i : Nat)).toNat < bs.length := (Int.toNat_lt q.1).mpr q.2
   rw [List.getElem?_eq_getElem hi]
   exact h _ (List.getElem_mem hi)
 . decide
theorem yna {bs : List Int} {lo : Int} {w : Nat} (h : lo + (w : Nat) <= 0 \/ (bs.length : Int) <= lo) : ybq bs lo w = List.replicate w 3 := by
 refine List.eq_replicate_iff.mpr ⟨ycx .., fun b hb => ?_⟩
 obtain ⟨i, hi, rfl⟩ := List.mem_map.mp hb
 have := List.mem_range.mp hi
 rw [if_neg fun q => h.elim (fun h => Int.not_le.mpr (Int.lt_of_lt_of_le (Int.add_lt_add_left (Int.ofNat_lt.mpr this) lo) h) q.1) fun h => Int.not_lt.mpr (Int.le_trans h (Int.le_add_of_nonneg_right (Int.natCast_nonneg i))) q.2]
theorem cut_at {lo : Int} {f s j : Nat} (h : lo + (s : Nat) = (f : Nat)) : lo + ((s + j : Nat) : Int) = ((f + j : Nat) : Int) := by right
theorem cut_lo {lo : Int} {s i : Nat} (h : lo + (s : Nat) = (0 : Nat)) (hi : i < s) : ¬ 0 <= lo + (i : Nat) := by right
theorem cut_r {s j n r : Nat} (h : s + j < s + n + r) (c : ¬ j < n) : j - n < r := Nat.sub_lt_left_of_lt_add (Nat.not_lt.mp c) (Nat.lt_of_add_lt_add_left (Nat.add_assoc s n r ▸ h))
theorem ylk {bs : List Int} {lo : Int} {f s n r w : Nat} (h1 : lo + (s : Nat) = (f : Nat)) (h2 : w = s + n + r) (h3 : f + n <= bs.length) (h4 : s = 0 \/ f = 0) (h5 : r = 0 \/ f + n = bs.length) :
 ybq bs lo w = List.replicate s 3 ++ ((bs.drop f).take n ++ List.replicate r 3) := by
 have hl : ((bs.drop f).take n).length = n := by rw [List.length_take, List.length_drop]; exact Nat.min_eq_left (Nat.le_sub_of_add_le (Nat.add_comm f n ▸ h3))
 have hL : (List.replicate s (3 : Int) ++ ((bs.drop f).take n ++ List.replicate r 3)).length = w := by rw [List.length_append, List.length_append, hl, List.length_replicate, List.length_replicate, h2, Nat.add_assoc]
 refine List.ext_getElem? fun i => ?_
 unfold ybq
 rw [List.getElem?_map]
 by_cases hi : i < w
 . rw [List.getElem?_range hi, Option.map_some]
   by_cases c1 : i < s
   . have hf : f = 0 := h4.resolve_left (Nat.ne_of_gt (Nat.lt_of_le_of_lt (Nat.zero_le _) c1))
     rw [hf] at h1
     rw [List.getElem?_append_left (by rw [List.length_replicate]; exact c1), List.getElem?_replicate, if_pos c1, if_neg (fun q => cut_lo h1 c1 q.1)]
   . obtain ⟨j, rfl⟩ := Nat.exists_eq_add_of_le (Nat.not_lt.mp c1)
     rw [cut_at h1, List.getElem?_append_right (by rw [List.length_replicate]; exact Nat.le_add_right s j), List.length_replicate, Nat.add_sub_cancel_left]
     by_cases c2 : j < n
     . have h6 : f + j < bs.length := Nat.lt_of_lt_of_le (Nat.add_lt_add_left c2 f) h3
       rw [List.getElem?_append_left (by rw [hl]; exact c2), List.getElem?_take, if_pos c2, List.getElem?_drop, if_pos ⟨Int.natCast_nonneg _, Int.ofNat_lt.mpr h6⟩, List.getD_eq_getElem?_getD, Int.toNat_natCast, List.getElem?_eq_getElem h6]; rfl
     . have h7 : j - n < r := cut_r (h2 ▸ hi) c2
       have h8 : f + n = bs.length := h5.resolve_left (Nat.ne_of_gt (Nat.lt_of_le_of_lt (Nat.zero_le _) h7))
       rw [if_neg (fun q => absurd (Int.ofNat_lt.mp q.2) (Nat.not_lt.mpr (h8 ▸ Nat.add_le_add_left (Nat.not_lt.mp c2) f))), List.getElem?_append_right (by rw [hl]; exact Nat.not_lt.mp c2), hl, List.getElem?_replicate, if_pos h7]
 . rw [List.getElem?_eq_none_iff.mpr (by rw [List.length_range]; exact Nat.not_lt.mp hi), Option.map_none, List.getElem?_eq_none_iff.mpr (by rw [hL]; exact Nat.not_lt.mp hi)]
theorem ysh (a s n r : Nat) (ha : a < 2 ^ n) : (a * 2 ^ s) ||| (2 ^ (s + n) * (2 ^ r - 1) + (2 ^ s - 1)) = 2 ^ s * (2 ^ n * (2 ^ r - 1) + a) + (2 ^ s - 1) := by
 have p : ∀ k : Nat, 2 ^ k - 1 < 2 ^ k := fun k => Nat.sub_lt (Nat.two_pow_pos k) (by decide)
 have p2 : 2 ^ s - 1 < 2 ^ (s + n) := Nat.lt_of_lt_of_le (p s) (Nat.pow_le_pow_right (by decide) (Nat.le_add_right s n))
 refine Nat.eq_of_testBit_eq fun i => ?_
 rw [Nat.testBit_or, Nat.testBit_two_pow_mul_add _ (p s), Nat.testBit_two_pow_mul_add _ p2, Nat.testBit_mul_two_pow, Nat.testBit_two_pow_sub_one]
 by_cases h1 : i < s
 . have : i < s + n := Nat.lt_add_right n h1
   simp [h1, this, Nat.not_le.mpr h1]
 . rw [if_neg h1, Nat.testBit_two_pow_mul_add _ ha]
   by_cases h2 : i - s < n
   . have : i < s + n := (Nat.sub_lt_iff_lt_add' (Nat.not_lt.mp h1)).mp h2
     simp [h1, h2, this, Nat.not_lt.mp h1]
   . have ha2 : a.testBit (i - s) = false := Nat.testBit_lt_two_pow (Nat.lt_of_lt_of_le ha (Nat.pow_le_pow_right (by decide) (Nat.not_lt.mp h2)))
     have : ¬ i < s + n := fun q => h2 ((Nat.sub_lt_iff_lt_add' (Nat.not_lt.mp h1)).mpr q)
     rw [if_neg h2, if_neg this, ha2, Nat.testBit_two_pow_sub_one, Nat.testBit_two_pow_sub_one, Bool.and_false, Bool.false_or, Nat.sub_add_eq]
theorem yk5 (k : Nat) : ((2 ^ k - 1 : Nat) : Int) = 2 ^ k - 1 := (Int.ofNat_sub (Nat.two_pow_pos k)).trans (congrArg (· - 1) (kbt_cast k))
theorem sub4 (x a s : Int) : x - 1 + (a - s) - 2 * (a - s) = x - a + (s - 1) := by right
theorem yo7 {a : Int} {s n r w : Nat} (h0 : 0 <= a) (h1 : a < 2 ^ n) (hw : w = s + n + r) : Builtin.bitOr (a * 2 ^ s) (Builtin.bitXor (2 ^ w - 1) ((2 ^ n - 1) * 2 ^ s)) = (2 ^ s - 1) + 2 ^ s * (a + 2 ^ n * (2 ^ r - 1)) := by
 obtain ⟨a, rfl⟩ := Int.eq_ofNat_of_zero_le h0
 have h1' : a < 2 ^ n := by exact_mod_cast h1
 have ps := kbt_pos s; have pn := kbt_pos n; have pr := kbt_pos r
 have ey : (0 : Int) <= (2 ^ n - 1) * 2 ^ s := Int.mul_nonneg (Int.sub_nonneg_of_le pn) (Int.le_of_lt ps)
 have ew : (2 : Int) ^ w = 2 ^ s * (2 ^ n * 2 ^ r) := by rw [hw, Int.pow_add, Int.pow_add, Int.mul_assoc]
 have pnr : (2 : Int) ^ n <= 2 ^ n * 2 ^ r := by
  have := Int.mul_le_mul_of_nonneg_left (show (1 : Int) <= 2 ^ r from pr) (Int.le_of_lt pn)
  rwa [Int.mul_one] at this
 have ey2 : ((2 : Int) ^ n - 1) * 2 ^ s < 2 ^ w := by
  rw [ew, Int.mul_comm]
  exact Int.mul_lt_mul_of_pos_left (Int.lt_of_lt_of_le (Int.sub_lt_self _ (by decide)) pnr) ps
 have ex : Builtin.bitXor (2 ^ w - 1) ((2 ^ n - 1) * 2 ^ s) = ((2 ^ (s + n) * (2 ^ r - 1) + (2 ^ s - 1) : Nat) : Int) := by
  rw [bitXor_and, bitAnd_comm, kbt_mask, Int.emod_eq_of_lt ey ey2, ew]
  rw [Int.natCast_add, Int.natCast_mul, yk5, yk5, kbt_cast, Int.pow_add]
  have e1 : ((2 : Int) ^ n - 1) * 2 ^ s = 2 ^ s * 2 ^ n - 2 ^ s := by rw [Int.sub_mul, Int.one_mul, Int.mul_comm]
  have e2 : (2 : Int) ^ s * 2 ^ n * (2 ^ r - 1) = 2 ^ s * (2 ^ n * 2 ^ r) - 2 ^ s * 2 ^ n := by rw [Int.mul_sub, Int.mul_one, Int.mul_assoc]
  rw [e1, e2]
  exact sub4 _ _ _
 rw [ex, <- kbt_cast s, <- Int.natCast_mul, ylu, ysh a s n r h1']
 rw [Int.natCast_add, Int.natCast_mul, Int.natCast_add, Int.natCast_mul, yk5, yk5, kbt_cast, kbt_cast]
 rw [Int.add_comm, Int.add_comm (a : Int)]
theorem ib_le {x : Int} {m s : Nat} (h0 : 0 <= x) (h1 : x < 2 ^ m) (h2 : m + s <= 2 ^ 21) : (Builtin.Int.intBits x : Int) + (s : Nat) <= 2 ^ 27 := by
 exact Int.le_trans (Int.ofNat_le.mpr (Nat.le_trans (Nat.add_le_add_right (intBits_le_iff.mpr (yn2 ⟨h0, h1⟩)) s) h2)) (by decide)
theorem low_part {bs : List Int} {f n : Nat} (h : f + n <= bs.length) : Builtin.bitAnd ((yaf bs).fdiv (2 ^ ((f : Nat) : Int).toNat)) (2 ^ n - 1) = yaf ((bs.drop f).take n) := by
 rw [kbt_mask, Int.toNat_natCast, Int.fdiv_eq_ediv_of_nonneg _ (Int.le_of_lt (kbt_pos f)), yec (Nat.le_trans (Nat.le_add_right f n) h), yeb (by rw [List.length_drop]; exact Nat.le_sub_of_add_le' h)]
theorem ysw {bs : List Int} (hc : yac bs) {f n : Nat} (h : f + n <= bs.length) : Builtin.bitAnd ((yad bs).fdiv (2 ^ ((f : Nat) : Int).toNat)) (2 ^ n - 1) = yad ((bs.drop f).take n) := by
 rw [kbt_mask, Int.toNat_natCast, Int.fdiv_eq_ediv_of_nonneg _ (Int.le_of_lt (kbt_pos f)), ydd hc (Nat.le_trans (Nat.le_add_right f n) h), ydc (hc.drop f) (by rw [List.length_drop]; exact Nat.le_sub_of_add_le' h)]
inductive CutF (lo : Int) (f : Nat) : Prop
 | lo (h : lo <= 0) (e : f = 0)
 | hi (h : 0 <= lo) (e : (f : Int) = lo)
theorem cutF (lo : Int) : ∃ f : Nat, (if (0 : Int) > lo then 0 else lo) = (f : Nat) /\ CutF lo f := by
 by_cases q : (0 : Int) > lo
 . exact ⟨0, by rw [if_pos q]; rfl, .lo (Int.le_of_lt q) rfl⟩
 . exact ⟨lo.toNat, by rw [if_neg q, Int.toNat_of_nonneg (Int.not_lt.mp q)], .hi (Int.not_lt.mp q) (Int.toNat_of_nonneg (Int.not_lt.mp q))⟩
inductive CutL (len w : Nat) (lo l : Int) : Prop
 | len (e : l = len) (h : (len : Int) <= lo + (w : Nat))
 | w (e : l = lo + (w : Nat)) (h : lo + (w : Nat) <= len)
theorem cutL (len w : Nat) (lo : Int) : ∃ l : Int, (if (len : Int) < lo + (w : Nat) then (len : Int) else lo + (w : Nat)) = l /\ CutL len w lo l := by
 by_cases q : (len : Int) < lo + (w : Nat)
 . exact ⟨_, if_pos q, .len rfl (Int.le_of_lt q)⟩
 . exact ⟨_, if_neg q, .w rfl (Int.not_lt.mp q)⟩
theorem cut_none {len w f : Nat} {lo l : Int} (hF : CutF lo f) (hL : CutL len w lo l) (hb : l <= (f : Nat)) (h1 : 1 <= len) (h2 : 1 <= w) : lo + (w : Nat) <= 0 \/ (len : Int) <= lo := by
 induction hF with
 | lo q e => induction hL <;> right
 | hi q e => induction hL <;> right
inductive Cut (len w : Nat) (lo l : Int) (f : Nat) : Prop
 | mk (n s r : Nat) (en : l - (f : Nat) = (n : Nat)) (es : (f : Nat) - lo = (s : Nat)) (er : w = s + n + r) (hfn : f + n <= len) (h1 : lo + (s : Nat) = (f : Nat)) (h4 : s = 0 \/ f = 0) (h5 : r = 0 \/ f + n = len)
theorem cut_some {len w f : Nat} {lo l : Int} (hF : CutF lo f) (hL : CutL len w lo l) (hb : (f : Int) < l) : Cut len w lo l f := by
 induction hF with
 | lo q e =>
  subst e
  obtain ⟨s, rfl⟩ := Int.exists_eq_neg_ofNat q
  induction hL with
  | len e h => exact ⟨len, s, w - s - len, by rw [e]; exact Int.sub_zero _, by right, by right, by right, by right, .inr rfl, .inr (Nat.zero_add _)⟩
  | w e h => exact ⟨w - s, s, 0, by right, by right, by right, by right, by right, .inr rfl, .inl rfl⟩
 | hi q e =>
  subst e
  induction hL with
  | len e h => exact ⟨len - f, 0, w - (len - f), by right, by right, by right, by right, by right, .inl rfl, .inr (by right)⟩
  | w e h => exact ⟨w, 0, 0, by right, by right, by right, by right, by right, .inl rfl, .inl rfl⟩
theorem sum_le {w s n r : Nat} (h : w = s + n + r) (hw : w <= 2 ^ 19) : s <= 2 ^ 19 /\ n <= 2 ^ 19 /\ n + s <= 2 ^ 19 :=
 have h1 : s + n <= w := h ▸ Nat.le_add_right _ r
 ⟨Nat.le_trans (Nat.le_trans (Nat.le_add_right s n) h1) hw, Nat.le_trans (Nat.le_trans (Nat.le_add_left n s) h1) hw, Nat.add_comm s n ▸ Nat.le_trans h1 hw⟩
theorem to20 {w : Nat} (h : w <= 2 ^ 19) : w <= 2 ^ 20 := Nat.le_trans h (by decide)
theorem to21 {w : Nat} (h : w <= 2 ^ 19) : w <= 2 ^ 21 := Nat.le_trans h (by decide)
theorem slice_ {bs : List Int} {lo : Int} {w : Nat} (hc : yac bs) (hl : 1 <= bs.length /\ bs.length <= 2 ^ 19) (hw : 1 <= w /\ w <= 2 ^ 19) (hn : 3 <= k.n) (h : Q (yag (ybq bs lo w)) st) : yak o k st (.ref 137) [yag bs, .int lo, .int w] Q X := by
 refine cf_ ylv fun L => ?_
 refine' ycq ?_
 obtain ⟨f, hf, hf2⟩ := cutF lo
 rw [hf]
 refine' ydi ?_
 obtain ⟨l, hl2, hl3⟩ := cutL bs.length w lo
 rw [hl2]
 refine' yd0 (fun hb => ?_) fun hb => ?_
 . have hb : l <= (f : Nat) := by simpa using hb
   left
   rw [yna (cut_none hf2 hl3 hb hl.1 hw.1)] at h
   refine ymt (by right) (to20 hw.2) ?_
   left
   symm
   unfold yag at h
   rw [List.length_replicate, ybl, yba (by decide), show (3 : Int) % 2 = 1 by decide, show (3 : Int) / 2 = 1 by decide, Int.one_mul] at h
   exact h
 . have hb : (f : Int) < l := by simpa using hb
   left
   obtain ⟨n, s, r, en, es, er, hfn, q1, q4, q5⟩ := cut_some hf2 hl3 hb
   have hsm := sum_le er hw.2
   rw [ylk (f := f) (s := s) (n := n) (r := r) q1 er hfn q4 q5] at h
   clear hf2 hl3 hb q1 q4 q5
   rw [en]
   refine yct (by right) (to20 hsm.2.1) ?_
   left
   rw [es]
   refine' yct (by right) (to20 hw.2) ?_
   refine' yb8 (Int.natCast_nonneg _) ?_ ?_
   . have := kbt_pos n
     exact ib_le (m := n) (Int.sub_nonneg_of_le this) (Int.sub_lt_self _ (by decide)) (to21 hsm.2.2)
   refine' yb7 (Int.natCast_nonneg _) ?_
   left
   have hm : ((bs.drop f).take n).length = n := by rw [List.length_take, List.length_drop]; exact Nat.min_eq_left (Nat.le_sub_of_add_le (Nat.add_comm f n ▸ hfn))
   have b1 := yal ((bs.drop f).take n)
   have b2 := yap ((bs.drop f).take n) ((hc.drop f).take n)
   rw [hm] at b1 b2
   rw [low_part hfn]
   refine yb8 (Int.natCast_nonneg _) (ib_le b1.1 b1.2 (to21 hsm.2.2)) ?_
   refine' yb7 (Int.natCast_nonneg _) ?_
   left
   rw [ysw hc hfn]
   refine yb8 (Int.natCast_nonneg _) (ib_le b2.1 b2.2 (to21 hsm.2.2)) ?_
   left
   symm
   rw [Int.toNat_natCast, yo7 b1.1 b1.2 er, yo7 b2.1 b2.2 er]
   unfold yag at h
   rw [List.length_append, List.length_append, List.length_replicate, List.length_replicate, hm, show s + (n + r) = w from (er.trans (Nat.add_assoc s n r)).symm, ybj, ybj, ya4, ya4, ybl, ybl, yba (by decide), yba (by decide), List.length_replicate, hm, show (3 : Int) % 2 = 1 by decide, show (3 : Int) / 2 = 1 by decide, Int.one_mul, Int.one_mul] at h
   exact h
theorem ygx : ∀ xs : List Int, V.pys (xs.map V.int) = some (xs.map PyData.int)
 | [] => rfl
 | x :: xs => by
  simp only [List.map_cons]
  unfold V.pys
  rw [ygx xs]
  rfl
theorem yg2 : ∀ xs : List Int, PyData.canLayAll0 (xs.map PyData.int) = true
 | [] => by rfl
 | x :: xs => by simp only [List.map_cons, PyData.canLayAll0, yg2 xs, PyData.canLay0, Bool.and_self]
def yjd (xs : List Int) : Prop := xs.length <= 160 /\ ∀ n ∈ xs, 0 <= n /\ n < 1024
set_option tactic.hygienic true in
theorem St.set_self {st : St} {a : Addr} {m : MO} (h : st a = some m) : st.set a m = st := by
 funext x; unfold St.set; split
 . rename_i e; subst e; exact h.symm
 . rfl
theorem yfg {r : Addr} {xs : List Int} (hn : 1 <= k.n) (hr : st r = some (.lst (xs.map V.int))) (hx : yjd xs) (h : ∀ n ys, 0 <= n -> n < 1024 -> yjd ys -> Q (.int n) (st.set r (.lst (ys.map V.int)))) : yak o k st (.ref 1312) [.ptr r] Q X := by
 refine cf_ yl3 fun L => ?_
 left
 intro a ha
 have na : r ≠ a := by rintro rfl; rw [ha] at hr; cases hr
 have hr' : (st.set a (.lst [])) r = some (.lst (xs.map V.int)) := (St.set_ne _ _ na).trans hr
 refine' yqx hr' (St.set_same ..) (ygx xs) (by rfl) (yg2 xs) (by rfl) (Nat.le_trans (Nat.min_le_right _ _) (Nat.le_of_ble_eq_true (by rfl))) ?_
 left
 rcases List.eq_nil_or_concat xs with rfl | ⟨ys, x, rfl⟩
 . left
   refine ⟨_, St.le_set (St.le_refl _) ha, ?_⟩
   have := h 0 [] (by decide) (by decide) hx
   rw [St.set_self hr] at this
   exact this
 . have e : (!PyData.eqv (.list ((ys ++ [x]).map PyData.int)) (.list [])) = true := by
    induction ys <;> rfl
   rw [List.concat_eq_append] at hr' hx ⊢
   refine Ja.qj e ?_
   left
   rw [List.map_append] at hr'
   refine ⟨_, meth_pop hr', yh6 (fun O O => rfl), ?_⟩
   left
   have hl : ys.length + 1 <= 160 := by simpa using hx.1
   have hz : sizeLine >= 160 := by decide
   refine call_pop (x := .int x) hr' (by simp; right) ?_
   left
   have hm := hx.2 x (by simp)
   exact ⟨_, St.le_both (St.le_set (St.le_refl _) ha), h x ys hm.1 hm.2 ⟨by right, fun n hn => hx.2 n (by simp [hn])⟩⟩
theorem ya7 {α β : Type} (f : α -> β) (xs : List α) (lo hi : Option Int) : yam (xs.map f) lo hi = (yam xs lo hi).map f := by
 simp [yam, List.map_take, List.map_drop]
theorem yb4 {α : Type} (xs : List α) (n : Nat) : yam xs none (some (n : Int)) = xs.take n := by
 simp only [yam, Option.elim, Nat.sub_zero, List.drop_zero]
 unfold clipAt
 rw [if_neg (Int.not_lt.mpr (Int.natCast_nonneg n))]
 rcases Nat.le_total n xs.length with h | h
 . rw [Int.min_eq_left (Int.ofNat_le.mpr h), Int.max_eq_right (Int.natCast_nonneg n), Int.toNat_natCast]
 . rw [Int.min_eq_right (Int.ofNat_le.mpr h), Int.max_eq_right (Int.natCast_nonneg _), Int.toNat_natCast, List.take_of_length_le h, List.take_of_length_le (Nat.le_refl _)]
def RowG (n : Nat) (xs : List Int) : Prop := xs.length <= n /\ ∀ m ∈ xs, 0 <= m /\ m < 1024
theorem RowG.push {n : Nat} {xs : List Int} {m : Int} (h : RowG n xs) : RowG (n + 1) (xs ++ [m % 1024]) := by
 refine ⟨by simp; exact h.1, fun y hy => ?_⟩
 rcases List.mem_append.mp hy with q | q
 . exact h.2 y q
 . simp at q; subst q; exact mdk m (by decide)
theorem RowG.mono {n n' : Nat} {xs : List Int} (h : RowG n xs) (hl : n <= n') : RowG n' xs := ⟨Nat.le_trans h.1 hl, h.2⟩
theorem law_row {sp : Addr} {xs : List Int} (hn : 1 <= k.n) (hs : KL o sp xs) (hx : xs.length <= 63) (h : ∀ r ys, st r = none -> yjd ys -> Q (.ptr r) (st.set r (.lst (ys.map V.int)))) : yak o k st (.ref 1305) [.ptr sp] Q X := by
 refine cf_ ynw fun L => ?_
 left
 intro r hr
 have hz : sizeLine >= 10000 := by decide
 refine' ybw (fun O O => rfl) ?_
 refine' slv_klst hs (by right) fun s2 hs2 => ?_
 have e40 : yam xs none (some 40) = xs.take 40 := yb4 xs 40
 rw [ya7, e40]
 have n2 : r ≠ s2 := yc0 hs2
 rw [St.swap n2]
 refine yc4 (xs := (xs.take 40).map V.int) (fun i loc st' => loc "row" = some (.ptr r) /\ ∃ ys, RowG (31 * i) ys /\ st' = (st.set s2 (.lst ((xs.take 40).map V.int))).set r (.lst (ys.map V.int))) (fun i loc st' hj => ?_) ⟨by rfl, [], ⟨by decide, by simp⟩, rfl⟩ (fun i x loc st' Q' hx hj hq => ?_) (fun loc st' hj => ?_)
 . obtain ⟨_, ys, _, rfl⟩ := hj
   exact (St.set_ne _ _ (Ne.symm n2)).trans (St.set_same ..)
 . obtain ⟨hl, ys, hy, rfl⟩ := hj
   first | refine ybf _ (yaa hl yaj) ?_ | refine yat _ (yaa hl yaj) ?_
   obtain ⟨c, hc, rfl⟩ : ∃ c, (xs.take 40)[i]? = some c /\ x = .int c := ycj hx
   have hi : i < 40 := by
    have := (List.getElem?_eq_some_iff.mp hc).1
    rw [List.length_take] at this; exact Nat.lt_of_lt_of_le this (Nat.min_le_left ..)
   refine' yd0 (fun O => ?_) (fun O => ?_)
   all_goals
    refine' ⟨_, yaw (St.set_same ..), yh6 (fun O O => rfl), ?_⟩
    refine' yah (by decide) ?_
    left
    have hy1 := hy.1
    refine yaq (St.set_same ..) (by simp only [List.length_map]; right) ?_
    rw [St.set_set]
    refine' yco (by decide) (by decide +kernel) ?_
    refine' ybw (fun O O => rfl) ?_
    refine' yb5 ?_
    rw [show ∀ q : Int, List.map V.int ys ++ [V.int q] = List.map V.int (ys ++ [q]) from fun q => by simp]
    refine yc3 (fun j loc st' => loc "row" = some (.ptr r) /\ (∃ n, loc "number" = some (.int n)) /\ ∃ ys, RowG (31 * i + 1 + j) ys /\ st' = (st.set s2 (.lst ((xs.take 40).map V.int))).set r (.lst (ys.map V.int))) (by decide) ⟨by first | rfl | assumption, ⟨_, by rfl⟩, _, hy.push, rfl⟩ (fun j x loc st' Q' hx hj hq => ?_) (fun loc st' hj => ?_)
    . obtain ⟨hl, ⟨n, hnum⟩, ys, hy, rfl⟩ := hj
      first | refine ybf _ (yaa hl (yaa hnum yaj)) ?_ | refine yat _ (yaa hl (yaa hnum yaj)) ?_
      have hj : j < 30 := by
       have := (List.getElem?_eq_some_iff.mp hx).1
       rw [ya8] at this; simpa using this
      refine' yd0 (fun O => ?_) (fun O => ?_)
      . left
        refine ⟨_, yaw (St.set_same ..), yh6 (fun O O => rfl), ?_⟩
        refine' yah (by decide) ?_
        left
        have hy1 := hy.1
        refine yaq (St.set_same ..) (by simp only [List.length_map]; right) ?_
        rw [St.set_set]
        refine' yco (by decide) (by decide +kernel) ?_
        refine' hq _ _ _ ?_
        refine ⟨by first | rfl | assumption, ⟨_, by rfl⟩, _, hy.push, by rw [List.map_append]; rfl⟩
      . left
        refine hq _ _ _ ?_
        exact ⟨by first | rfl | assumption, ⟨n, by first | rfl | assumption⟩, ys, hy.mono (by right), rfl⟩
    . obtain ⟨hl, _, ys, hy, rfl⟩ := hj
      first | refine ybf _ (yaa hl yaj) ?_ | refine yat _ (yaa hl yaj) ?_
      refine' hq _ _ _ ?_
      exact ⟨by first | rfl | assumption, ys, hy.mono (by simp; right), rfl⟩
 . obtain ⟨hl, ys, hy, rfl⟩ := hj
   first | refine ybf _ (yaa hl yaj) ?_ | refine yat _ (yaa hl yaj) ?_
   left
   have hy1 := hy.1
   have hl40 : (List.map V.int (List.take 40 xs)).length <= 40 := by rw [List.length_map, List.length_take]; exact Nat.min_le_left ..
   refine' yfw (St.set_same ..) (by simp only [List.length_map] at *; right) fun s3 hs3 => ?_
   have e160 : yam ys none (some 160) = ys.take 160 := yb4 ys 160
   rw [ya7, e160]
   refine' ⟨_, yma (St.set_same ..), yh6 (fun O O => rfl), ?_⟩
   refine' ymp (St.set_same ..) (by simp; right) ?_
   rw [St.set_set, <- List.map_reverse]
   left
   have h1 := yab hs3
   have h2 := yab h1
   refine ⟨_, St.le_both (St.le_set (St.le_set (St.le_refl _) (yab hs2)) hr), h s3 _ h2 ⟨?_, fun n hn => ?_⟩⟩
   . rw [List.length_reverse, List.length_take]; exact Nat.min_le_left ..
   . exact hy.2 n (List.mem_of_mem_take (List.mem_reverse.mp hn))
theorem ypo {r : Addr} {xs : List Int} {wide : Nat} (hn : 2 <= k.n) (hr : st r = some (.lst (xs.map V.int))) (hx : yjd xs) (hw : wide <= 100) (h : ∀ a (bs ys : List Int), st a = none -> yjd ys -> bs.length = wide -> (∀ b ∈ bs, (0 : Int) <= b /\ b < 4) -> Q (.ptr a) ((st.set r (.lst (ys.map V.int))).set a (.lst (bs.map V.int)))) : yak o k st (.ref 1319) [.ptr r, .int wide] Q X := by
 refine cf_ yl5 fun L => ?_
 left
 intro bl hb
 have nb : r ≠ bl := by rintro rfl; rw [hb] at hr; cases hr
 have hz : sizeLine >= 10000 := by decide
 refine' ybw (fun O O => rfl) ?_
 refine' yco (by decide) (by decide +kernel) ?_
 rw [Int.fdiv_eq_ediv_of_nonneg _ (by decide)]
 refine' yb5 ?_
 refine yc3 (fun i loc st' => loc "row" = some (.ptr r) /\ loc "bits" = some (.ptr bl) /\ loc "wide" = some (.int wide) /\ ∃ ys bs : List Int, yjd ys /\ bs.length = 5 * i /\ (∀ b ∈ bs, (0 : Int) <= b /\ b < 4) /\ st' = (st.set r (.lst (ys.map V.int))).set bl (.lst (bs.map V.int))) (by right) ⟨by rfl, by rfl, by rfl, xs, [], hx, rfl, by simp, by rw [St.set_self hr]; rfl⟩ (fun i x loc st' Q' hx hj hq => ?_) (fun loc st' hj => ?_)
 . obtain ⟨l1, l2, l3, ys, bs, hy, hbl, hb4, rfl⟩ := hj
   first | refine ybf _ (yaa l1 (yaa l2 (yaa l3 yaj))) ?_ | refine yat _ (yaa l1 (yaa l2 (yaa l3 yaj))) ?_
   have hi : i < 21 := by
    have := (List.getElem?_eq_some_iff.mp hx).1
    rw [ya8] at this
    exact Nat.lt_of_lt_of_le (show i < (wide + 4) / 5 from this) (Nat.le_trans (Nat.div_le_div_right (Nat.add_le_add_right hw 4)) (by decide))
   refine' yfg (by right) ((St.set_ne _ _ nb).trans (St.set_same ..)) hy fun n ys' n0 n1 hy' => ?_
   rw [St.swap (Ne.symm nb), St.set_set]
   refine' ybw (fun O O => rfl) ?_
   refine' yb5 ?_
   refine yc3 (fun j loc st' => loc "row" = some (.ptr r) /\ loc "bits" = some (.ptr bl) /\ loc "wide" = some (.int wide) /\ (∃ m, loc "number" = some (.int m)) /\ ∃ bs : List Int, bs.length = 5 * i + j /\ (∀ b ∈ bs, (0 : Int) <= b /\ b < 4) /\ st' = (st.set r (.lst (ys'.map V.int))).set bl (.lst (bs.map V.int))) (by decide) ⟨by first | rfl | assumption, by first | rfl | assumption, by first | rfl | assumption, ⟨_, by rfl⟩, bs, hbl, hb4, rfl⟩ (fun j x loc st' Q' hx hj hq => ?_) (fun loc st' hj => ?_)
   . obtain ⟨l1, l2, l3, ⟨m, hm⟩, bs, hbl, hb4, rfl⟩ := hj
     first | refine ybf _ (yaa l1 (yaa l2 (yaa l3 (yaa hm yaj)))) ?_ | refine yat _ (yaa l1 (yaa l2 (yaa l3 (yaa hm yaj)))) ?_
     have hj : j < 5 := by
      have := (List.getElem?_eq_some_iff.mp hx).1
      rw [ya8] at this; simpa using this
     refine' ⟨_, yaw (St.set_same ..), yh6 (fun O O => rfl), ?_⟩
     refine' yah (by decide) ?_
     refine' yaq (St.set_same ..) (by simp only [List.length_map]; right) ?_
     rw [St.set_set]
     refine' yco (by decide) (by decide +kernel) ?_
     refine' hq _ _ _ ?_
     refine ⟨by first | rfl | assumption, by first | rfl | assumption, by first | rfl | assumption, ⟨_, by rfl⟩, bs ++ [m % 4], by simp; right, fun b hb => ?_, by rw [List.map_append]; rfl⟩
     rcases List.mem_append.mp hb with q | q
     . exact hb4 b q
     . simp at q; subst q; exact mdk m (by decide)
   . obtain ⟨l1, l2, l3, _, bs, hbl, hb4, rfl⟩ := hj
     first | refine ybf _ (yaa l1 (yaa l2 (yaa l3 yaj))) ?_ | refine yat _ (yaa l1 (yaa l2 (yaa l3 yaj))) ?_
     refine' hq _ _ _ ?_
     exact ⟨by first | rfl | assumption, by first | rfl | assumption, by first | rfl | assumption, ys', bs, hy', by simpa [Nat.mul_add] using hbl, hb4, rfl⟩
 . obtain ⟨l1, l2, l3, ys, bs, hy, hbl, hb4, rfl⟩ := hj
   first | refine ybf _ (yaa l1 (yaa l2 (yaa l3 yaj))) ?_ | refine yat _ (yaa l1 (yaa l2 (yaa l3 yaj))) ?_
   left
   have hl : bs.length <= 105 := Nat.le_trans (Nat.le_of_eq hbl) (Nat.le_trans (Nat.mul_div_le (wide + 4) 5) (Nat.le_trans (Nat.add_le_add_right hw 4) (by decide)))
   refine' yfw (St.set_same ..) (by simp only [List.length_map]; right) fun s3 hs3 => ?_
   have e160 : yam bs none (some (wide : Int)) = bs.take wide := yb4 bs wide
   rw [ya7, e160]
   left
   have h1 := yab hs3
   have h2 := yab h1
   have n3 : r ≠ s3 := yc0 h1
   have n4 : bl ≠ s3 := yc0 hs3
   refine ⟨_, St.le_both (St.le_set (St.le_refl _) ((St.set_ne _ _ (Ne.symm nb)).trans hb)), h s3 _ ys h2 hy (by simp; right) fun b hb => hb4 b (List.mem_of_mem_take hb)⟩
theorem ypn {a : Addr} {bs : List Int} (hn : 1 <= k.n) (ha : st a = some (.lst (bs.map V.int))) (hl : bs.length <= 1000) (hb : yac bs) (h : Q (yag bs) st) : yak o k st (.ref 1326) [.ptr a] Q X := by
 refine cf_ yl4 fun L => ?_
 refine' ybw (fun O O => rfl) ?_
 refine' yan ha (by simp; right) ?_
 refine' yb5 ?_
 refine yc3 (fun i loc st' => loc "bits" = some (.ptr a) /\ loc "low" = some (.int (yaf (bs.take i))) /\ loc "high" = some (.int (yad (bs.take i))) /\ st' = st) (by simp; right) ⟨by rfl, by rfl, by rfl, rfl⟩ (fun i x loc st' Q' hx hj hq => ?_) (fun loc st' hj => ?_)
 . obtain ⟨l1, l2, l3, rfl⟩ := hj
   first | refine ybf _ (yaa l1 (yaa l2 (yaa l3 yaj))) ?_ | refine yat _ (yaa l1 (yaa l2 (yaa l3 yaj))) ?_
   obtain ⟨rfl, hi'⟩ := yea hx
   have hi : i < bs.length := by simpa using hi'
   rw [Int.zero_add] at *
   have hg : (bs.map V.int)[(i : Int).toNat]? = some (.int bs[i]) := by simp [hi]
   have hm := hb bs[i] (List.getElem_mem ..)
   have et : bs.take (i + 1) = bs.take i ++ [bs[i]] := by rw [List.take_add_one, List.getElem?_eq_getElem hi]; rfl
   have el : (bs.take i).length = i := by rw [List.length_take]; exact Nat.min_eq_left (Nat.le_of_lt hi)
   refine' ya6 ha (by right) (by right) hg ?_
   refine' yah (by decide) ?_
   left
   have q2 : (Builtin.Int.intBits 2 : Int) = 2 := by rfl
   refine' yng (by right) (by rw [q2]; right) ?_
   have r1 : bs[i] % 2 = 0 \/ bs[i] % 2 = 1 := Int.emod_two_eq _
   have r2 : bs[i] / 2 = 0 \/ bs[i] / 2 = 1 := yi9 (fun b => b / 2 = 0 \/ b / 2 = 1) (by rfl) hm
   refine' yav (IntMulOk.of_left (by rcases r1 with e | e <;> rw [e] <;> decide)) ?_
   refine' ya6 ha (by right) (by right) hg ?_
   refine' yco (by decide) (by decide +kernel) ?_
   rw [Int.fdiv_eq_ediv_of_nonneg _ (by decide)]
   refine' yng (by right) (by rw [q2]; right) ?_
   refine' yav (IntMulOk.of_left (by rcases r2 with e | e <;> rw [e] <;> decide)) ?_
   left
   rw [Int.toNat_natCast]
   refine hq _ _ _ ?_
   show _ /\ _
   rw [et, ybj, ya4, el]
   refine ⟨by first | rfl | assumption, ?_, ?_, rfl⟩
   . show some _ = some _
     congr 2; simp only [yaf, Int.mul_zero, Int.add_zero]; rw [Int.mul_comm (2 ^ i)]
   . show some _ = some _
     congr 2; simp only [yad, Int.mul_zero, Int.add_zero]; rw [Int.mul_comm (2 ^ i)]
 . obtain ⟨l1, l2, l3, rfl⟩ := hj
   simp only [List.length_map, Int.sub_zero, Int.toNat_natCast, List.take_length] at l2 l3
   first | refine ybf _ (yaa l1 (yaa l2 (yaa l3 yaj))) ?_ | refine yat _ (yaa l1 (yaa l2 (yaa l3 yaj))) ?_
   refine' yan ha (by simp; right) ?_
   rw [List.length_map]
   left
   symm
   exact h
end
noncomputable def whP (J : Nat -> yae -> St -> Prop) (n : Nat) (QF : Fl -> yae -> St -> Prop) : Fl -> yae -> St -> Prop
 | .next, loc, st => ∃ m, m < n /\ J m loc st
 | .cont, loc, st => ∃ m, m < n /\ J m loc st
 | .brk, loc, st => QF .next loc st
 | .ret v, loc, st => QF (.ret v) loc st
noncomputable abbrev kWh (A B : St -> Prop) : Bool -> St -> Prop := fun b st => GO -> if b then A st else B st
theorem while_w {g : Str -> Option Value} {kb : Value -> Bool} {o : Wo} [WO : WoOk o] [SmOk o] (G : Gt o g kb) (n1 n2 n3 : Nat) {c : Cx} {X : Exc -> St -> Prop} {loc : yae} {st : St} {QF : Fl -> yae -> St -> Prop} {t : Expr} {body : List Stmt} {pos : Pos} (J : Nat -> yae -> St -> Prop) (n : Nat) (h0 : J n loc st)
 (turn : ∀ n loc st, J n loc st -> ∃ L : List (Str × V), (∀ p ∈ L, loc p.1 = some p.2) /\ wT g kb o c (fun O O => False) n1 (yae.of L) t (kWh (wS g kb o c (fun O O => False) n2 n3 body (whP J n QF) (yae.of L)) (QF .next loc)) st) :
 EX o c loc st (.While t body [] pos) QF X := by
 refine ex_while J n h0 fun n loc st hj => ?_
 obtain ⟨L, hl, h⟩ := turn n loc st hj
 refine tr_of L hl ((tr_w G n1 h).mono fun b s h => ?_)
 have h := h .go
 induction b
 . exact h
 . refine (yat L hl (exs_w G n2 n3 h)).mono fun f l s h => ?_
   induction f <;> exact h
theorem ym0 {o : Wo} [WO : WoOk o] [W : W3 o] {c : Cx} {X : Exc -> St -> Prop} {loc : yae} {st : St} {QF : Fl -> yae -> St -> Prop} {t : Expr} {body : List Stmt} {pos : Pos} (J : Nat -> yae -> St -> Prop) (n : Nat) (h0 : J n loc st)
 (turn : ∀ n loc st, J n loc st -> ∃ L : List (Str × V), (∀ p ∈ L, loc p.1 = some p.2) /\ wT g4 kb4 o c (fun O O => False) 200 (yae.of L) t (kWh (wS g4 kb4 o c (fun O O => False) 200 200 body (whP J n QF) (yae.of L)) (QF .next loc)) st) :
 EX o c loc st (.While t body [] pos) QF X :=
 have : SmOk o := yli W
 while_w G4 200 200 200 J n h0 turn
noncomputable def scF (D dD : Addr) (name : Str) (parent : V) (kind path : Str) (e : Addr) (number : Int) : List (Str × V) := [("design", .obj D 1217 dD), ("name", .str name), ("parent", parent), ("kind", .str kind), ("path", .str path), ("nettype", .str "wire"), ("module_name", .none), ("entries", .ptr e), ("number", .int number)]
noncomputable def dsF (ls lr : Addr) (x1 x2 x3 x4 x5 x6 x7 x8 : V) : List (Str × V) := [("signals", .ptr ls), ("assigns", x1), ("gates", x2), ("udps", x3), ("processes", x4), ("routines", .ptr lr), ("scopes", x5), ("tops", x6), ("ports", x7), ("maker", .none), ("by_path", x8)]
section
variable {o : Wo} [WO : WoOk o] [W : W3 o] {k : Kx} {st : St} {Q : V -> St -> Prop} {X : Exc -> St -> Prop}
theorem ysu {o : Wo} [WO : WoOk o] [W : W3 o] {k : Kx} {st : St} {Q : V -> St -> Prop} {X : Exc -> St -> Prop} {s d : Addr} {l : List (Str × V)} {v : V} (hd : st d = some (.sd l)) (hf : ygl "first" l = some v) (hv : v.plain = true) (hn : 1 <= k.n) (h : Q (.bool (!v.isNone)) st) : yak o k st (.ref 1130) [.obj s 1154 d] Q X := by
 refine cf_ ye0 fun L => ?_
 refine' yoi hd hf hv (by rw [W.k]; rfl) ?_
 left
 symm
 exact h
inductive Ent : V -> Prop
 | sig (i : Nat) (h : i < 3) : Ent (.tup [.str "sig", .int i])
 | event : Ent (.tup [.str "event", .int 2])
 | genvar : Ent (.tup [.str "genvar", .int (-3)])
 | scope (I dI : Addr) : Ent (.tup [.str "scope", .obj I 1294 dI])
 | routine (i : Int) : Ent (.tup [.str "routine", .int i])
end
section
variable (o : Wo) (c : Cx) (target : Expr) (body : List Stmt) (QF : Fl -> yae -> St -> Prop) (P : St -> Prop)
end
section
variable {o : Wo} [W : WoOk o] {c : Cx} {loc : yae} {st : St} {target : Expr} {body : List Stmt} {QF : Fl -> yae -> St -> Prop}
end
def Lay (st : St) (L : List (Addr × MO)) : Prop := (L.map (·.1)).Nodup /\ ∀ p ∈ L, st p.1 = some p.2
section
variable {st st' : St} {L : List (Addr × MO)} {a r : Addr} {m m' ma : MO}
theorem Lay.nil : Lay st [] := ⟨by simp, fun p hp => nomatch hp⟩
theorem Lay.get (h : Lay st L) (i : Nat) (hi : L[i]? = some (a, m)) : st a = some m := h.2 (a, m) (List.mem_of_getElem? hi)
theorem Lay.not (h : Lay st L) (ha : st a = none) : a ∉ L.map (·.1) := fun q => by
 obtain ⟨p, hp, e⟩ := List.mem_map.mp q
 have := h.2 p hp
 rw [e, ha] at this; cases this
theorem Lay.add (h : Lay st L) (hn : a ∉ L.map (·.1)) (ha : st a = some m) : Lay st ((a, m) :: L) := by
 refine ⟨?_, fun p hp => ?_⟩
 . rw [List.map_cons]; exact List.nodup_cons.mpr ⟨hn, h.1⟩
 . rcases List.mem_cons.mp hp with rfl | hp
   . exact ha
   . exact h.2 p hp
theorem Lay.out (h : Lay st L) (hn : a ∉ L.map (·.1)) : Lay (st.set a m) L := ⟨h.1, fun p hp => by
 have : p.1 ≠ a := fun e => hn (e ▸ List.mem_map.mpr ⟨p, hp, rfl⟩)
 rw [St.set_ne _ _ this]; exact h.2 p hp⟩
theorem Lay.new (h : Lay st L) (ha : st a = none) (m : MO) : Lay (st.set a m) ((a, m) :: L) := (h.out (h.not ha)).add (h.not ha) (St.set_same ..)
theorem Lay.sub (h : Lay st L) {L2 : List (Addr × MO)} (hs : L2.Sublist L) : Lay st L2 := ⟨h.1.sublist (hs.map _), fun p hp => h.2 p (hs.subset hp)⟩
theorem Lay.tl (h : Lay st ((a, m) :: L)) : Lay st L := ⟨(List.nodup_cons.mp h.1).2, fun p hp => h.2 p (.tail _ hp)⟩
theorem Lay.hd (h : Lay st ((a, m) :: L)) : a ∉ L.map (·.1) := (List.nodup_cons.mp h.1).1
theorem yrx : ∀ (L : List (Addr × MO)) (i : Nat), L[i]? = some (a, m) -> (L.set i (a, m')).map (·.1) = L.map (·.1)
 | [], _, h => by cases h
 | _ :: _, 0, h => by cases h; rfl
 | _ :: L, i + 1, h => by
  rw [List.set_cons_succ, List.map_cons, List.map_cons, yrx L i h]
theorem Lay.upd : ∀ {L : List (Addr × MO)}, Lay st L -> ∀ (i : Nat), L[i]? = some (a, m) -> ∀ m', Lay (st.set a m') (L.set i (a, m'))
 | [], _, _, hi, _ => by cases hi
 | (b, mb) :: L, h, 0, hi, m' => by
  cases hi
  exact (h.tl.out h.hd).add h.hd (St.set_same ..)
 | (b, mb) :: L, h, i + 1, hi, m' => by
  have hi : L[i]? = some (a, m) := hi
  have nb : b ≠ a := by
   rintro rfl
   exact h.hd (List.mem_map.mpr ⟨_, List.mem_of_getElem? hi, rfl⟩)
  refine (Lay.upd h.tl i hi m').add ?_ ((St.set_ne _ _ nb).trans (h.2 (b, mb) (.head _)))
  have e := yrx (m' := m') L i hi
  rw [e]; exact h.hd
end
section
variable {o : Wo} [WO : WoOk o] [W : W3 o] {k : Kx} {st : St} {Q : V -> St -> Prop} {X : Exc -> St -> Prop} {L : List (Addr × MO)}
theorem yai {a C dx : Addr} {l : List (Str × V)} {name : Str} {v : V} {Q : St -> Prop} (hl : Lay st L) (i : Nat) (hi : L[i]? = some (dx, .sd l)) (hk : setOk o.K C name = true) (hz : Nat.ble l.length 900 = true) (h : ∀ S, Lay S (L.set i (dx, .sd (yip name v l))) -> Q S) : SETA o k st (.obj a C dx) name v Q X :=
 ycn (hl.get i hi) hk (Nat.le_of_ble_eq_true hz) (h _ (hl.upd i hi _))
theorem Store2_ {lp : V} (hl : Lay st L) (hn : 2 <= k.n) (h : ∀ S x dx v m, Lay S ((m, .sd []) :: (v, .sd []) :: (dx, .sd [("signals", lp), ("values", .ptr v), ("memories", .ptr m), ("random_seed", .int 1)]) :: L) -> Q (.obj x 210 dx) S) : yak o k st (.ref 210) [lp] Q X := by
 refine (yei (fI := 186) (by rw [W.k]; rfl) (by rw [W.k]; rfl) (by rw [W.k]; rfl) (by right) fun A' x dx hA hdx => ?_).call
 have hl := hl.new hdx (.sd [])
 generalize st.set dx (.sd []) = S0 at *
 refine ygb yfc (by show 1 <= k.n - 1; right) (by rfl) fun L => ?_
 refine' yai hl 0 rfl (by rw [W.k]; rfl) (by rfl) fun S1 hl => ?_
 left
 intro v hv
 have hl := hl.new hv (.sd [])
 refine' yai hl 1 rfl (by rw [W.k]; rfl) (by rfl) fun S2 hl => ?_
 left
 intro m hm
 have hl := hl.new hm (.sd [])
 refine' yai hl 2 rfl (by rw [W.k]; rfl) (by rfl) fun S3 hl => ?_
 refine' yai hl 2 rfl (by rw [W.k]; rfl) (by rfl) fun S4 hl => ?_
 left
 exact ⟨_, St.le_refl _, rfl, h _ _ _ _ _ hl⟩
theorem Design_ (hl : Lay st L) (hn : 2 <= k.n) (h : ∀ S x dx ls lr sc bp x1 x2 x3 x4 x6 x7, Lay S ((bp, .sd []) :: (sc, .lst []) :: (lr, .lst []) :: (ls, .lst []) :: (dx, .sd (dsF ls lr x1 x2 x3 x4 (.ptr sc) x6 x7 (.ptr bp))) :: L) -> Q (.obj x 1217 dx) S) : yak o k st (.ref 1217) [] Q X := by
 refine (yei (fI := 1172) (by rw [W.k]; rfl) (by rw [W.k]; rfl) (by rw [W.k]; rfl) (by right) fun A' x dx hA hdx => ?_).call
 have hl := hl.new hdx (.sd [])
 generalize st.set dx (.sd []) = S0 at *
 refine ygb yi4 (by show 1 <= k.n - 1; right) (by rfl) fun L' => ?_
 left
 intro a1 h1
 have hl := hl.new h1 (.lst [])
 refine' yai hl 1 rfl (by rw [W.k]; rfl) (by rfl) fun S1 hl => ?_
 left
 intro a2 h2
 have hl := hl.new h2 (.lst [])
 refine' yai hl 2 rfl (by rw [W.k]; rfl) (by rfl) fun S2 hl => ?_
 left
 intro a3 h3
 have hl := hl.new h3 (.lst [])
 refine' yai hl 3 rfl (by rw [W.k]; rfl) (by rfl) fun S3 hl => ?_
 left
 intro a4 h4
 have hl := hl.new h4 (.lst [])
 refine' yai hl 4 rfl (by rw [W.k]; rfl) (by rfl) fun S4 hl => ?_
 left
 intro a5 h5
 have hl := hl.new h5 (.lst [])
 refine' yai hl 5 rfl (by rw [W.k]; rfl) (by rfl) fun S5 hl => ?_
 left
 intro a6 h6
 have hl := hl.new h6 (.lst [])
 refine' yai hl 6 rfl (by rw [W.k]; rfl) (by rfl) fun S6 hl => ?_
 left
 intro a7 h7
 have hl := hl.new h7 (.lst [])
 refine' yai hl 7 rfl (by rw [W.k]; rfl) (by rfl) fun S7 hl => ?_
 left
 intro a8 h8
 have hl := hl.new h8 (.lst [])
 refine' yai hl 8 rfl (by rw [W.k]; rfl) (by rfl) fun S8 hl => ?_
 left
 intro a9 h9
 have hl := hl.new h9 (.lst [])
 refine' yai hl 9 rfl (by rw [W.k]; rfl) (by rfl) fun S9 hl => ?_
 refine' yai hl 9 rfl (by rw [W.k]; rfl) (by rfl) fun S10 hl => ?_
 left
 intro a10 h10
 have hl := hl.new h10 (.sd [])
 refine' yai hl 10 rfl (by rw [W.k]; rfl) (by rfl) fun S11 hl => ?_
 left
 exact ⟨_, St.le_refl _, rfl, h _ _ _ _ _ _ _ _ _ _ _ _ _ (hl.sub (.cons_cons _ (.cons _ (.cons _ (.cons_cons _ (.cons_cons _ (.cons _ (.cons _ (.cons _ (.cons _ (.cons_cons _ (.cons_cons _ (List.Sublist.refl _)))))))))))))⟩
theorem Lay.len1 {xs : List V} {v : V} : (xs ++ [v]).length = xs.length + 1 := by simp
theorem yq4 {D dD sc ls lr : Addr} {x1 x2 x3 x4 x6 x7 x8 : V} {xs : List V} {pt : Str} {i j : Nat} (hl : Lay st L) (hi : L[i]? = some (dD, .sd (dsF ls lr x1 x2 x3 x4 (.ptr sc) x6 x7 x8))) (hj : L[j]? = some (sc, .lst xs)) (hz : xs.length <= 100) (hn : 1 <= k.n)
 (h : ∀ S, Lay S (L.set j (sc, .lst (xs ++ [.str pt]))) -> Q (.int xs.length) S) : yak o k st (.ref 1186) [.obj D 1217 dD, .str pt] Q X := by
 have hsz : sizeLine >= 10000 := by decide
 refine cf_ ye1 fun L' => ?_
 have hD := hl.get i hi
 have hS := hl.get j hj
 have nds : dD ≠ sc := by rintro rfl; rw [hD] at hS; cases hS
 refine' ⟨_, yaw hS, yh6 (fun O O => rfl), ?_⟩
 refine' yaq hS (by right) ?_
 have hl2 := hl.upd j hj (.lst (xs ++ [.str pt]))
 have hD2 := (St.set_ne st (.lst (xs ++ [.str pt])) nds).trans hD
 have hS2 := St.set_same st sc (.lst (xs ++ [.str pt]))
 generalize st.set sc (.lst (xs ++ [.str pt])) = S2 at *
 refine' yan hS2 (by rw [Lay.len1]; right) ?_
 left
 have h := h _ hl2
 rw [show ((xs.length : Nat) : Int) = ((xs.length + 1 : Nat) : Int) - 1 by right, <- Lay.len1 (v := .str pt)] at h
 exact ⟨_, St.le_refl _, h⟩
theorem Scope0_ {D dD sc ls lr : Addr} {x1 x2 x3 x4 x6 x7 x8 : V} {nm kd : Str} {i j : Nat} (hl : Lay st L) (hi : L[i]? = some (dD, .sd (dsF ls lr x1 x2 x3 x4 (.ptr sc) x6 x7 x8))) (hj : L[j]? = some (sc, .lst [])) (hn : 3 <= k.n)
 (h : ∀ S x dx e, Lay S ((e, .sd []) :: (dx, .sd (scF D dD nm .none kd nm e 0)) :: L.set j (sc, .lst [.str nm])) -> Q (.obj x 1294 dx) S) : yak o k st (.ref 1294) [.obj D 1217 dD, .str nm, .none, .str kd] Q X := by
 refine (yei (fI := 1235) (by rw [W.k]; rfl) (by rw [W.k]; rfl) (by rw [W.k]; rfl) (by right) fun A' x dx hA hdx => ?_).call
 have hl := hl.new hdx (.sd [])
 generalize st.set dx (.sd []) = S0 at *
 refine ygb ykp (by show 1 <= k.n - 1; right) (by rfl) fun L' => ?_
 refine' yai hl 0 rfl (by rw [W.k]; rfl) (by rfl) fun S1 hl => ?_
 refine' yai hl 0 rfl (by rw [W.k]; rfl) (by rfl) fun S2 hl => ?_
 refine' yai hl 0 rfl (by rw [W.k]; rfl) (by rfl) fun S3 hl => ?_
 refine' yai hl 0 rfl (by rw [W.k]; rfl) (by rfl) fun S4 hl => ?_
 refine' yai hl 0 rfl (by rw [W.k]; rfl) (by rfl) fun S5 hl => ?_
 refine' yai hl 0 rfl (by rw [W.k]; rfl) (by rfl) fun S6 hl => ?_
 refine' yai hl 0 rfl (by rw [W.k]; rfl) (by rfl) fun S7 hl => ?_
 left
 intro e he
 have hl := hl.new he (.sd [])
 refine' yai hl 1 rfl (by rw [W.k]; rfl) (by rfl) fun S8 hl => ?_
 left
 have hl : Lay S8 ((e, .sd []) :: (dx, .sd [("design", .obj D 1217 dD), ("name", .str nm), ("parent", .none), ("kind", .str kd), ("path", .str nm), ("nettype", .str "wire"), ("module_name", .none), ("entries", .ptr e)]) :: L) := hl
 have hD := hl.get (i + 2) hi
 have hX := hl.get 1 rfl
 refine ⟨.ref 1186, yfd hD (by rfl) (fun O O => rfl), yh6 (fun O O => rfl), ?_⟩
 refine' yq4 hl (i := i + 2) (j := j + 2) hi hj (by simp) (by show 1 <= k.n - 1 - 1; right) fun S9 hl => ?_
 refine' yai hl 1 rfl (by rw [W.k]; rfl) (by rfl) fun S10 hl => ?_
 left
 exact ⟨_, St.le_refl _, rfl, h _ _ _ _ hl⟩
theorem declare_ {T dT e D dD : Addr} {nm kd pt x : Str} {pa v : V} {n : Int} {l : List (Str × V)} {i j : Nat} (hl : Lay st L) (hi : L[i]? = some (dT, .sd (scF D dD nm pa kd pt e n))) (hj : L[j]? = some (e, .sd l)) (hx : ygl x l = none) (hnd : (l.map (·.1)).Nodup) (hz : l.length <= 60) (hn : 1 <= k.n)
 (h : ∀ S, Lay S (L.set j (e, .sd (yip x v l))) -> Q .none S) : yak o k st (.ref 1249) [.obj T 1294 dT, .str x, v, .int (-1)] Q X := by
 have : SmOk o := yli W
 refine cf_ ygr fun L' => ?_
 have hD := hl.get i hi
 have hS : SD st e l := ⟨hl.get j hj, hnd⟩
 refine' ymm hS ?_
 rw [hx]
 refine' ynb hS hz ?_
 left
 exact ⟨_, St.le_refl _, h _ (hl.upd j hj _)⟩
end
section
variable {o : Wo} [WO : WoOk o] [W : W3 o] {k : Kx} {st : St} {Q : V -> St -> Prop} {X : Exc -> St -> Prop}
theorem yrk (w : Nat) : yag (List.replicate w 3) = .tup [.int w, .int (2 ^ w - 1), .int (2 ^ w - 1)] := by
 unfold yag
 rw [List.length_replicate, ybl, yba (by decide), show (3 : Int) % 2 = 1 by decide, show (3 : Int) / 2 = 1 by decide, Int.one_mul]
theorem vecV_nat (w : Nat) (x : Int) : yag (ygg w x) = .tup [.int w, .int (x % 2 ^ w), .int 0] := by
 unfold yag
 rw [ya0, yda, yci]
theorem yet {bs : List Int} (hn : 1 <= k.n) (h : Q (.bool (yad bs == 0)) st) : yak o k st (.ref 116) [yag bs] Q X := by
 refine cf_ yno fun L => ?_
 left
 symm
 exact h
theorem yk9 {bs : List Int} (hl : bs.length <= 2 ^ 19) (hn : 2 <= k.n) (h : Q (yag (List.replicate bs.length 3)) st) : yak o k st (.ref 95) [.int bs.length] Q X :=
 ymt hn (Nat.le_trans hl (by decide)) (yrk _ ▸ h)
theorem yes {bs : List Int} {x : Int} (hl : bs.length <= 2 ^ 19) (hn : 2 <= k.n) (h : Q (yag (ygg bs.length x)) st) : yak o k st (.ref 109) [.int bs.length, .int x] Q X :=
 ysy hn (Nat.le_trans hl (by decide)) (vecV_nat _ _ ▸ h)
noncomputable def kn2 (us vs : List Int) (r : Int) : List Int := if yad us == 0 && yad vs == 0 then ygg us.length r else List.replicate us.length 3
theorem add_ {us vs : List Int} (hl : us.length <= 2 ^ 19) (hn : 3 <= k.n) (h : Q (yag (kn2 us vs (yaf us + yaf vs))) st) : yak o k st (.ref 264) [yag us, yag vs] Q X := by
 refine cf_ ok_add fun L => ?_
 unfold kn2 at h
 refine' yet (by right) ?_
 left
 induction e1 : yad us == 0 with
 | false =>
  rw [e1, Bool.false_and, if_neg (by decide)] at h
  left
  refine' yk9 hl (by right) ?_
  left
  symm
  exact h
 | true =>
  rw [e1, Bool.true_and] at h
  refine' yet (by right) ?_
  left
  induction e2 : yad vs == 0 with
  | false =>
   rw [e2, if_neg (by decide)] at h
   left
   refine' yk9 hl (by right) ?_
   left
   symm
   exact h
  | true =>
   rw [e2, if_pos rfl] at h
   left
   refine' yes hl (by right) ?_
   left
   symm
   exact h
theorem sub_ {us vs : List Int} (hl : us.length <= 2 ^ 19) (hn : 3 <= k.n) (h : Q (yag (kn2 us vs (yaf us - yaf vs))) st) : yak o k st (.ref 271) [yag us, yag vs] Q X := by
 refine cf_ ok_sub fun L => ?_
 unfold kn2 at h
 refine' yet (by right) ?_
 left
 induction e1 : yad us == 0 with
 | false =>
  rw [e1, Bool.false_and, if_neg (by decide)] at h
  left
  refine' yk9 hl (by right) ?_
  left
  symm
  exact h
 | true =>
  rw [e1, Bool.true_and] at h
  refine' yet (by right) ?_
  left
  induction e2 : yad vs == 0 with
  | false =>
   rw [e2, if_neg (by decide)] at h
   left
   refine' yk9 hl (by right) ?_
   left
   symm
   exact h
  | true =>
   rw [e2, if_pos rfl] at h
   left
   refine' yes hl (by right) ?_
   left
   symm
   exact h
theorem mul_ {us vs : List Int} (hm : IntMulOk (yaf us) (yaf vs)) (hl : us.length <= 2 ^ 19) (hn : 3 <= k.n) (h : Q (yag (kn2 us vs (yaf us * yaf vs))) st) : yak o k st (.ref 278) [yag us, yag vs] Q X := by
 refine cf_ ok_mul fun L => ?_
 unfold kn2 at h
 refine' yet (by right) ?_
 left
 induction e1 : yad us == 0 with
 | false =>
  rw [e1, Bool.false_and, if_neg (by decide)] at h
  left
  refine' yk9 hl (by right) ?_
  left
  symm
  exact h
 | true =>
  rw [e1, Bool.true_and] at h
  refine' yet (by right) ?_
  left
  induction e2 : yad vs == 0 with
  | false =>
   rw [e2, if_neg (by decide)] at h
   left
   refine' yk9 hl (by right) ?_
   left
   symm
   exact h
  | true =>
   rw [e2, if_pos rfl] at h
   left
   refine' yav hm ?_
   refine' yes hl (by right) ?_
   left
   symm
   exact h
theorem neg_ {us : List Int} (hl : us.length <= 2 ^ 19) (hn : 3 <= k.n) (h : Q (yag (if yad us == 0 then ygg us.length (0 - yaf us) else List.replicate us.length 3)) st) : yak o k st (.ref 285) [yag us] Q X := by
 refine cf_ ok_neg fun L => ?_
 refine' yet (by right) ?_
 left
 induction e1 : yad us == 0 with
 | false =>
  rw [e1, if_neg (by decide)] at h
  left
  refine' yk9 hl (by right) ?_
  left
  symm
  exact h
 | true =>
  rw [e1, if_pos rfl] at h
  left
  refine' yes hl (by right) ?_
  left
  symm
  exact h
noncomputable def yao (bs : List Int) (sg : Bool) : Option Int := if yad bs != 0 then none else some (if sg && (yaf bs / 2 ^ ((bs.length : Int) - 1).toNat == 1) then yaf bs - 2 ^ (bs.length : Int).toNat else yaf bs)
noncomputable def yq8 : Option Int -> V
 | some x => .int x
 | none => .none
theorem ybs {bs : List Int} {sg : Bool} (hl : 1 <= bs.length /\ bs.length <= 64) (hn : 1 <= k.n) (h : Q (yq8 (yao bs sg)) st) : yak o k st (.ref 123) [yag bs, .bool sg] Q X := by
 refine yrn (by right) hn ?_
 unfold yao at h
 induction e : yad bs != 0 with
 | true => rw [e, if_pos rfl] at h; exact h
 | false =>
  rw [e, if_neg (by decide)] at h
  rw [if_neg (by decide)]
  split at h
  . next c => rw [if_pos c]; exact h
  . next c => rw [if_neg c]; exact h
noncomputable def ymy (i : Int) : Int := if i < 0 then -i else i
noncomputable def ynd (m n : Int) : Int := if (decide (m < 0) != decide (n < 0)) then 0 - (ymy m).fdiv (ymy n) else (ymy m).fdiv (ymy n)
theorem ytw {n : Int} (h : n ≠ 0) : ymy n ≠ 0 := by unfold ymy; split; exact Int.neg_ne_zero.mpr h; exact h
theorem yp8 (n : Int) : (ymy n).natAbs = n.natAbs := by unfold ymy; split; exact Int.natAbs_neg n; rfl
theorem yls {m n : Int} (h0 : n ≠ 0) (hs : n.natAbs.log2 < 9000) (hn : 2 <= k.n) (h : Q (.int (ynd m n)) st) : yak o k st (.ref 292) [.int m, .int n] Q X := by
 refine cf_ ynl fun L => ?_
 refine' yfr ?_
 refine' yfr ?_
 refine' yco (ytw h0) (by rw [show (if n < 0 then -n else n) = ymy n from rfl, yp8]; exact hs) ?_
 refine' yp1 (da := .bool _) (db := .bool _) rfl rfl rfl rfl (by rw [show ∀ a b, min (PyData.bool a).depth (PyData.bool b).depth = 0 from fun a b => by induction a <;> induction b <;> rfl]; decide) ?_
 rw [show (PyData.eqv (.bool (decide (m < 0))) (.bool (decide (n < 0)))) = (decide (m < 0) == decide (n < 0)) from by induction decide (m < 0) <;> induction decide (n < 0) <;> rfl]
 unfold ynd bne at h
 induction e : decide (m < 0) == decide (n < 0) with
 | true =>
  rw [e, if_neg (by decide)] at h
  left
  symm
  exact h
 | false =>
  rw [e, if_pos (by rfl)] at h
  left
  symm
  exact h
theorem ybv {bs : List Int} {sg : Bool} {x : Int} (hl : bs.length <= 64) (h : yao bs sg = some x) : Builtin.Int.intBits x <= 65 := by
 have h1 := yal bs
 have h2 : 2 ^ bs.length <= 2 ^ 64 := Nat.pow_le_pow_right (by decide) hl
 have h3 := kbt_cast bs.length
 unfold yao at h
 rw [Int.toNat_natCast, <- h3] at h
 rw [<- h3] at h1
 generalize 2 ^ bs.length = z at h h1 h2
 refine intBits_le_iff.mpr ?_
 induction e : yad bs != 0 with
 | true => rw [e] at h; cases h
 | false =>
  rw [e] at h
  have h := Option.some.inj h
  split at h
  . omega
  . omega
theorem ysp {x : Int} (h : Builtin.Int.intBits x <= 65) : x.natAbs.log2 < 9000 := by
 unfold Builtin.Int.intBits at h
 split at h
 . next c => rw [eq_of_beq c]; decide
 . exact Nat.lt_of_lt_of_le h (by decide)
theorem ymv {x : Int} {m : Nat} (h : Builtin.Int.intBits x <= m) : Builtin.Int.intBits (ymy x) <= m := by
 unfold ymy
 split
 . exact intBits_neg_le h
 . exact h
theorem ylt {m n : Int} (h : Builtin.Int.intBits m <= 65) : Builtin.Int.intBits (ynd m n) <= 66 := by
 unfold ynd
 split
 . exact intBits_sub_le (m := 0) (by decide) (intBits_fdiv_le (ymv h))
 . exact Nat.le_succ_of_le (intBits_fdiv_le (ymv h))
noncomputable def dvO (f : Int -> Int -> Int) : Option Int -> Option Int -> Option Int
 | some m, some n => if n == 0 then none else some (f m n)
 | _, _ => none
noncomputable def ygj (w : Nat) : Option Int -> List Int
 | some x => ygg w x
 | none => List.replicate w 3
theorem l64 {us : List Int} (h : 1 <= us.length /\ us.length <= 64) : us.length <= 2 ^ 19 := Nat.le_trans h.2 (by decide)
noncomputable def remI (m n : Int) : Int := m - n * ynd m n
theorem div_ {us vs : List Int} {sg : Bool} (hu : 1 <= us.length /\ us.length <= 64) (hv : 1 <= vs.length /\ vs.length <= 64) (hn : 4 <= k.n) (h : Q (yag (ygj us.length (dvO ynd (yao us sg) (yao vs sg)))) st) : yak o k st (.ref 299) [yag us, yag vs, .bool sg] Q X := by
 refine cf_ ok_div fun L => ?_
 refine' ybs hu (by right) ?_
 refine' ybs hv (by right) ?_
 left
 induction e1 : yao us sg with
 | none =>
  rw [e1] at h
  left
  refine' yk9 (l64 hu) (by right) ?_
  left
  symm
  exact h
 | some m =>
  induction e2 : yao vs sg with
  | none =>
   rw [e1, e2] at h
   left
   refine' yk9 (l64 hu) (by right) ?_
   left
   symm
   exact h
  | some n =>
   rw [e1, e2] at h
   left
   induction e3 : n == 0 with
   | true =>
    rw [show dvO ynd (some m) (some n) = none from if_pos e3] at h
    left
    refine' yk9 (l64 hu) (by right) ?_
    left
    symm
    exact h
   | false =>
    rw [show dvO ynd (some m) (some n) = some (ynd m n) from if_neg (by rw [e3]; decide)] at h
    left
    refine' yls (ne_of_beq_false e3) (ysp (ybv hv.2 e2)) (by right) ?_
    refine' yes (l64 hu) (by right) ?_
    left
    symm
    exact h
theorem mod_ {us vs : List Int} {sg : Bool} (hu : 1 <= us.length /\ us.length <= 64) (hv : 1 <= vs.length /\ vs.length <= 64) (hn : 4 <= k.n) (h : Q (yag (ygj us.length (dvO remI (yao us sg) (yao vs sg)))) st) : yak o k st (.ref 306) [yag us, yag vs, .bool sg] Q X := by
 refine cf_ ok_mod fun L => ?_
 refine' ybs hu (by right) ?_
 refine' ybs hv (by right) ?_
 left
 induction e1 : yao us sg with
 | none =>
  rw [e1] at h
  left
  refine' yk9 (l64 hu) (by right) ?_
  left
  symm
  exact h
 | some m =>
  induction e2 : yao vs sg with
  | none =>
   rw [e1, e2] at h
   left
   refine' yk9 (l64 hu) (by right) ?_
   left
   symm
   exact h
  | some n =>
   rw [e1, e2] at h
   left
   induction e3 : n == 0 with
   | true =>
    rw [show dvO remI (some m) (some n) = none from if_pos e3] at h
    left
    refine' yk9 (l64 hu) (by right) ?_
    left
    symm
    exact h
   | false =>
    rw [show dvO remI (some m) (some n) = some (remI m n) from if_neg (by rw [e3]; decide)] at h
    left
    refine' yls (ne_of_beq_false e3) (ysp (ybv hv.2 e2)) (by right) ?_
    refine' yav (IntMulOk.of_le (ybv hv.2 e2) (ylt (ybv hu.2 e1)) (by decide)) ?_
    refine' yes (l64 hu) (by right) ?_
    left
    symm
    exact h
noncomputable def ordI (m n : Int) : Int := if m == n then 0 else if m < n then -1 else 1
noncomputable def ordO : Option Int -> Option Int -> Option Int
 | some m, some n => some (ordI m n)
 | _, _ => none
theorem ord_lt (m n : Int) : decide (ordI m n < 0) = decide (m < n) := by
 unfold ordI
 by_cases c : m = n
 . rw [if_pos (beq_iff_eq.mpr c)]; exact decide_eq_decide.mpr (by right)
 . rw [if_neg fun e => c (beq_iff_eq.mp e)]
   split
   . next d => rw [decide_eq_true d]; rfl
   . next d => rw [decide_eq_false d]; rfl
theorem ord_le (m n : Int) : decide (ordI m n <= 0) = decide (m <= n) := by
 unfold ordI
 by_cases c : m = n
 . rw [if_pos (beq_iff_eq.mpr c)]; exact decide_eq_decide.mpr (by right)
 . rw [if_neg fun e => c (beq_iff_eq.mp e)]
   split
   . next d => rw [decide_eq_true (Int.le_of_lt d)]; rfl
   . next d => rw [decide_eq_false fun e => c (Int.le_antisymm e (Int.not_lt.mp d))]; rfl
theorem yo6 {us vs : List Int} {sg : Bool} (hu : 1 <= us.length /\ us.length <= 64) (hv : 1 <= vs.length /\ vs.length <= 64) (hn : 2 <= k.n) (h : Q (yq8 (ordO (yao us sg) (yao vs sg))) st) : yak o k st (.ref 348) [yag us, yag vs, .bool sg] Q X := by
 refine cf_ yqi fun L => ?_
 refine' ybs hu (by right) ?_
 refine' ybs hv (by right) ?_
 left
 induction e1 : yao us sg with
 | none =>
  rw [e1] at h
  left
  symm
  exact h
 | some m =>
  induction e2 : yao vs sg with
  | none =>
   rw [e1, e2] at h
   left
   symm
   exact h
  | some n =>
   rw [e1, e2] at h
   left
   induction e3 : m == n with
   | true =>
    rw [show ordO (some m) (some n) = some 0 from congrArg some (if_pos e3)] at h
    left
    symm
    exact h
   | false =>
    rw [show ordO (some m) (some n) = some (if m < n then -1 else 1) from congrArg some (if_neg (by rw [e3]; decide))] at h
    left
    induction e4 : decide (m < n) with
    | true =>
     rw [if_pos (of_decide_eq_true e4)] at h
     refine' ⟨_, St.le_refl _, ?_⟩
     exact h
    | false =>
     rw [if_neg (of_decide_eq_false e4)] at h
     left
     symm
     exact h
noncomputable def cmO (f : Int -> Int -> Bool) : Option Int -> Option Int -> Int
 | some m, some n => if f m n then 1 else 0
 | _, _ => 3
theorem x_one (hn : 2 <= k.n) (h : Q (yag [3]) st) : yak o k st (.ref 95) [.int 1] Q X := ymt (w := 1) hn (by decide) h
theorem less_ {us vs : List Int} {sg : Bool} (hu : 1 <= us.length /\ us.length <= 64) (hv : 1 <= vs.length /\ vs.length <= 64) (hn : 3 <= k.n) (h : Q (yag [cmO (fun m n => decide (m < n)) (yao us sg) (yao vs sg)]) st) : yak o k st (.ref 355) [yag us, yag vs, .bool sg] Q X := by
 refine cf_ ok_less fun L => ?_
 refine' yo6 hu hv (by right) ?_
 left
 induction e1 : yao us sg with
 | none =>
  rw [e1] at h
  refine' x_one (by right) ?_
  left
  symm
  exact h
 | some m =>
  induction e2 : yao vs sg with
  | none =>
   rw [e1, e2] at h
   refine' x_one (by right) ?_
   left
   symm
   exact h
  | some n =>
   rw [e1, e2] at h
   left
   rw [ord_lt]
   induction e4 : decide (m < n) with
   | true =>
    rw [show cmO (fun m n => decide (m < n)) (some m) (some n) = 1 from if_pos e4] at h
    left
    symm
    exact h
   | false =>
    rw [show cmO (fun m n => decide (m < n)) (some m) (some n) = 0 from if_neg fun e => Bool.noConfusion (e4.symm.trans e)] at h
    left
    symm
    exact h
theorem yh4 {us vs : List Int} {sg : Bool} (hu : 1 <= us.length /\ us.length <= 64) (hv : 1 <= vs.length /\ vs.length <= 64) (hn : 3 <= k.n) (h : Q (yag [cmO (fun m n => decide (m <= n)) (yao us sg) (yao vs sg)]) st) : yak o k st (.ref 362) [yag us, yag vs, .bool sg] Q X := by
 refine cf_ ykd fun L => ?_
 refine' yo6 hu hv (by right) ?_
 left
 induction e1 : yao us sg with
 | none =>
  rw [e1] at h
  refine' x_one (by right) ?_
  left
  symm
  exact h
 | some m =>
  induction e2 : yao vs sg with
  | none =>
   rw [e1, e2] at h
   refine' x_one (by right) ?_
   left
   symm
   exact h
  | some n =>
   rw [e1, e2] at h
   left
   rw [ord_le]
   induction e4 : decide (m <= n) with
   | true =>
    rw [show cmO (fun m n => decide (m <= n)) (some m) (some n) = 1 from if_pos e4] at h
    left
    symm
    exact h
   | false =>
    rw [show cmO (fun m n => decide (m <= n)) (some m) (some n) = 0 from if_neg fun e => Bool.noConfusion (e4.symm.trans e)] at h
    left
    symm
    exact h
theorem greater_ {us vs : List Int} {sg : Bool} (hu : 1 <= us.length /\ us.length <= 64) (hv : 1 <= vs.length /\ vs.length <= 64) (hn : 4 <= k.n) (h : Q (yag [cmO (fun m n => decide (m < n)) (yao vs sg) (yao us sg)]) st) : yak o k st (.ref 369) [yag us, yag vs, .bool sg] Q X := by
 refine cf_ yqk fun L => ?_
 refine' less_ hv hu (by right) ?_
 left
 symm
 exact h
theorem yi7 {us vs : List Int} {sg : Bool} (hu : 1 <= us.length /\ us.length <= 64) (hv : 1 <= vs.length /\ vs.length <= 64) (hn : 4 <= k.n) (h : Q (yag [cmO (fun m n => decide (m <= n)) (yao vs sg) (yao us sg)]) st) : yak o k st (.ref 376) [yag us, yag vs, .bool sg] Q X := by
 refine cf_ ygn fun L => ?_
 refine' yh4 hv hu (by right) ?_
 left
 symm
 exact h
end
noncomputable def nF : Nat -> (Nat -> Bool) -> Int
 | 0, _ => 0
 | w + 1, f => (if f 0 then 1 else 0) + 2 * nF w (fun j => f (j + 1))
theorem half1 (b : Bool) (x : Int) : ((if b then 1 else 0) + 2 * x) / 2 = x := by rw [Int.add_mul_ediv_left _ _ (by decide)]; induction b <;> exact Int.zero_add x
theorem half2 (b : Bool) (x : Int) : ((if b then 1 else 0) + 2 * x) % 2 = if b then 1 else 0 := by rw [Int.add_mul_emod_self_left]; induction b <;> rfl
theorem and_step (a b : Bool) (x y : Int) : Builtin.bitAnd ((if a then 1 else 0) + 2 * x) ((if b then 1 else 0) + 2 * y) = (if a && b then 1 else 0) + 2 * Builtin.bitAnd x y := by
 rw [kbt_halves, half1, half1, half2, half2, Int.add_comm]
 induction a <;> induction b <;> rfl
theorem yp7 : ∀ (w : Nat) (f g : Nat -> Bool), Builtin.bitAnd (nF w f) (nF w g) = nF w fun j => f j && g j
 | 0, _, _ => yk7 0
 | w + 1, f, g => by rw [nF, nF, nF, and_step, yp7 w]
theorem or_sum (x y : Int) : Builtin.bitOr x y = x + y - Builtin.bitAnd x y := bitOr_and x y
theorem bitI (a b : Bool) : (if a || b then (1 : Int) else 0) = (if a then 1 else 0) + (if b then 1 else 0) - (if a && b then 1 else 0) := by induction a <;> induction b <;> rfl
theorem bitX (a b : Bool) : (if a ^^ b then (1 : Int) else 0) = (if a then 1 else 0) + (if b then 1 else 0) - 2 * (if a && b then 1 else 0) := by induction a <;> induction b <;> rfl
theorem or_nFs {a b c x y z : Int} : a + 2 * x + (b + 2 * y) - (c + 2 * z) = a + b - c + 2 * (x + y - z) := by (omega)
theorem xor_nFs {a b c x y z : Int} : a + 2 * x + (b + 2 * y) - 2 * (c + 2 * z) = a + b - 2 * c + 2 * (x + y - 2 * z) := by (omega)
theorem or_nF : ∀ (w : Nat) (f g : Nat -> Bool), Builtin.bitOr (nF w f) (nF w g) = nF w fun j => f j || g j := fun w f g => by
 rw [or_sum, yp7]
 induction w generalizing f g with
 | zero => rfl
 | succ w ih => rw [nF, nF, nF, nF, <- ih, bitI]; exact or_nFs
theorem xor_nF : ∀ (w : Nat) (f g : Nat -> Bool), Builtin.bitXor (nF w f) (nF w g) = nF w fun j => f j ^^ g j := fun w f g => by
 rw [bitXor_and, yp7]
 induction w generalizing f g with
 | zero => rfl
 | succ w ih => rw [nF, nF, nF, nF, <- ih, bitX]; exact xor_nFs
theorem yn4 : ∀ w : Nat, (2 : Int) ^ w - 1 = nF w fun O => true
 | 0 => by rfl
 | w + 1 => by rw [nF, <- yn4 w, Int.pow_succ, if_pos rfl]; right
theorem yhy : ∀ (w : Nat) (f : Nat -> Bool), nF w f = 0 ↔ ∀ j < w, f j = false
 | 0, _ => ⟨fun O O h => absurd h (Nat.not_lt_zero _), fun O => rfl⟩
 | w + 1, f => by
  rw [nF]
  constructor
  . intro h
    have h0 : f 0 = false := by induction e : f 0 <;> rw [e] at h <;> simp only [Bool.false_eq_true, if_true, if_false] at h <;> first | rfl | omega
    rw [h0] at h
    have h1 := (yhy w _).mp (by simp only [Bool.false_eq_true, if_false] at h; omega : nF w (fun j => f (j + 1)) = 0)
    intro j hj
    induction j with
    | zero => exact h0
    | succ j => exact h1 j (Nat.lt_of_succ_lt_succ hj)
  . intro h
    rw [h 0 (Nat.zero_lt_succ _), (yhy w _).mpr fun j hj => h (j + 1) (Nat.succ_lt_succ hj)]
    rfl
theorem yg0 : ∀ (w : Nat) {f g : Nat -> Bool}, (∀ j < w, f j = g j) -> nF w f = nF w g
 | 0, _, _, _ => rfl
 | w + 1, f, g, h => by rw [nF, nF, h 0 (Nat.zero_lt_succ _), yg0 w fun j hj => h (j + 1) (Nat.succ_lt_succ hj)]
noncomputable def lowB (bs : List Int) (j : Nat) : Bool := bs.getD j 0 % 2 == 1
noncomputable def yi6 (bs : List Int) (j : Nat) : Bool := bs.getD j 0 / 2 == 1
theorem ypj : ∀ bs : List Int, yaf bs = nF bs.length (lowB bs)
 | [] => rfl
 | b :: r => by
  rw [yaf, List.length_cons, nF, ypj r]
  show b % 2 + _ = (if b % 2 == 1 then 1 else 0) + _
  have : b % 2 = if b % 2 == 1 then 1 else 0 := by
   split
   . next h => exact eq_of_beq h
   . next h => have h : ¬ b % 2 = 1 := fun e => h (beq_iff_eq.mpr e); exact (Int.emod_two_eq b).resolve_right h
  rw [<- this]; rfl
theorem ykx : ∀ {bs : List Int}, yac bs -> yad bs = nF bs.length (yi6 bs)
 | [], _ => rfl
 | b :: r, hc => by
  rw [yad, List.length_cons, nF, ykx hc.tail]
  show b / 2 + _ = (if b / 2 == 1 then 1 else 0) + _
  have h0 := hc b (.head _)
  have : b / 2 = if b / 2 == 1 then 1 else 0 := by
   split
   . next h => exact eq_of_beq h
   . next h => have h : ¬ b / 2 = 1 := fun e => h (beq_iff_eq.mpr e); exact (yi9 (fun b => b / 2 = 0 \/ b / 2 = 1) (by rfl) h0).resolve_right h
  rw [<- this]; rfl
theorem cA {a b c d : Int} (f : Int -> Int -> Int) (h : a = b) (h' : c = d) : f a c = f b d := by rw [h, h']
theorem gd {us : List Int} {j : Nat} (h : j < us.length) : us.getD j 0 = us[j] := by rw [List.getD_eq_getElem?_getD, List.getElem?_eq_getElem h]; rfl
inductive BE where
 | lu | hu | lv | hv | m | z
 | and (x y : BE) | or (x y : BE) | xor (x y : BE)
noncomputable def BE.I (a b c d m : Int) : BE -> Int
 | .lu => a | .hu => b | .lv => c | .hv => d | .m => m | .z => 0
 | .and x y => Builtin.bitAnd (x.I a b c d m) (y.I a b c d m)
 | .or x y => Builtin.bitOr (x.I a b c d m) (y.I a b c d m)
 | .xor x y => Builtin.bitXor (x.I a b c d m) (y.I a b c d m)
noncomputable def BE.B (a b c d : Bool) : BE -> Bool
 | .lu => a | .hu => b | .lv => c | .hv => d | .m => true | .z => false
 | .and x y => x.B a b c d && y.B a b c d
 | .or x y => x.B a b c d || y.B a b c d
 | .xor x y => x.B a b c d ^^ y.B a b c d
noncomputable def BE.on (us vs : List Int) (e : BE) : Int := e.I (yaf us) (yad us) (yaf vs) (yad vs) (2 ^ us.length - 1)
noncomputable def BE.at (us vs : List Int) (e : BE) (j : Nat) : Bool := e.B (lowB us j) (yi6 us j) (lowB vs j) (yi6 vs j)
theorem BE.ok {us vs : List Int} (cu : yac us) (cv : yac vs) (hl : us.length = vs.length) : ∀ e : BE, e.on us vs = nF us.length (e.at us vs)
 | .lu => ypj us
 | .hu => ykx cu
 | .lv => (ypj vs).trans (by rw [hl]; rfl)
 | .hv => (ykx cv).trans (by rw [hl]; rfl)
 | .m => yn4 _
 | .z => ((yhy _ _).mpr fun O O => rfl).symm
 | .and x y => (cA Builtin.bitAnd (BE.ok cu cv hl x) (BE.ok cu cv hl y)).trans (yp7 _ _ _)
 | .or x y => (cA Builtin.bitOr (BE.ok cu cv hl x) (BE.ok cu cv hl y)).trans (or_nF _ _ _)
 | .xor x y => (cA Builtin.bitXor (BE.ok cu cv hl x) (BE.ok cu cv hl y)).trans (xor_nF _ _ _)
noncomputable def chk (eL eH : BE) (g : Int -> Int -> Int) : Bool := (List.range 4).all fun (x : Nat) => (List.range 4).all fun (y : Nat) =>
 (decide (0 <= g x y) && decide (g x y < 4)) && ((g x y % 2 == 1) == eL.B ((x : Int) % 2 == 1) ((x : Int) / 2 == 1) ((y : Int) % 2 == 1) ((y : Int) / 2 == 1) && (g x y / 2 == 1) == eH.B ((x : Int) % 2 == 1) ((x : Int) / 2 == 1) ((y : Int) % 2 == 1) ((y : Int) / 2 == 1))
inductive Chk (eL eH : BE) (g : Int -> Int -> Int) (x y : Int) : Prop
 | mk (c : 0 <= g x y /\ g x y < 4) (l : (g x y % 2 == 1) = eL.B (x % 2 == 1) (x / 2 == 1) (y % 2 == 1) (y / 2 == 1)) (h : (g x y / 2 == 1) = eH.B (x % 2 == 1) (x / 2 == 1) (y % 2 == 1) (y / 2 == 1))
theorem yto {eL eH : BE} {g : Int -> Int -> Int} (h : chk eL eH g = true) {x y : Int} (hx : 0 <= x /\ x < 4) (hy : 0 <= y /\ y < 4) : Chk eL eH g x y := by
 obtain ⟨x, rfl⟩ := Int.eq_ofNat_of_zero_le hx.1
 obtain ⟨y, rfl⟩ := Int.eq_ofNat_of_zero_le hy.1
 have h1 := List.all_eq_true.mp (List.all_eq_true.mp h x (List.mem_range.mpr (Int.ofNat_lt.mp hx.2))) y (List.mem_range.mpr (Int.ofNat_lt.mp hy.2))
 simp only [Bool.and_eq_true] at h1
 exact ⟨⟨of_decide_eq_true h1.1.1, of_decide_eq_true h1.1.2⟩, eq_of_beq h1.2.1, eq_of_beq h1.2.2⟩
theorem yc8 {us vs : List Int} (hl : us.length = vs.length) (g : Int -> Int -> Int) : (List.zipWith g us vs).length = us.length := by rw [List.length_zipWith, <- hl, Nat.min_self]
theorem ymz {us vs : List Int} (hl : us.length = vs.length) (g : Int -> Int -> Int) {j : Nat} (hj : j < us.length) : (List.zipWith g us vs).getD j 0 = g (us.getD j 0) (vs.getD j 0) := by
 rw [gd ((yc8 hl g).symm ▸ hj), List.getElem_zipWith, gd hj, gd (hl ▸ hj)]
theorem yf6 {us : List Int} (h : yac us) {j : Nat} (hj : j < us.length) : 0 <= us.getD j 0 /\ us.getD j 0 < 4 := by
 rw [gd hj]; exact h _ (List.getElem_mem ..)
theorem ybr {us vs : List Int} (cu : yac us) (cv : yac vs) (hl : us.length = vs.length) {eL eH : BE} {g : Int -> Int -> Int} (h : chk eL eH g = true) : yac (List.zipWith g us vs) := fun b hb => by
 obtain ⟨j, hj, e⟩ := List.getElem_of_mem hb
 have hj' := (yc8 hl g) ▸ hj
 rw [<- gd hj, ymz hl g hj'] at e
 obtain ⟨c, _, _⟩ := yto h (yf6 cu hj') (yf6 cv (hl ▸ hj'))
 exact e ▸ c
theorem yjy {us vs : List Int} (cu : yac us) (cv : yac vs) (hl : us.length = vs.length) {eL eH : BE} {g : Int -> Int -> Int} (h : chk eL eH g = true) : yag (List.zipWith g us vs) = .tup [.int us.length, .int (eL.on us vs), .int (eH.on us vs)] := by
 unfold yag
 rw [ypj, ykx (ybr cu cv hl h), yc8 hl, BE.ok cu cv hl, BE.ok cu cv hl,
  yg0 (f := lowB _) (g := eL.at us vs) us.length fun j hj => (by
   obtain ⟨_, l, _⟩ := yto h (yf6 cu hj) (yf6 cv (hl ▸ hj))
   unfold lowB; rw [ymz hl g hj]; exact l),
  yg0 (f := yi6 _) (g := eH.at us vs) us.length fun j hj => (by
   obtain ⟨_, _, l⟩ := yto h (yf6 cu hj) (yf6 cv (hl ▸ hj))
   unfold yi6; rw [ymz hl g hj]; exact l)]
noncomputable def ygs (b : Int) : Int := if b == 0 then 1 else if b == 1 then 0 else 3
noncomputable def yra (x y : Int) : Int := if x == 0 || y == 0 then 0 else if x == 1 && y == 1 then 1 else 3
noncomputable def orC (x y : Int) : Int := ygs (yra (ygs x) (ygs y))
noncomputable def yfv (x y : Int) : Int := if decide (x > 1) || decide (y > 1) then 3 else if x == y then 0 else 1
noncomputable def ydp (x y : Int) : Int := ygs (yfv x y)
section
variable {o : Wo} [WO : WoOk o] [W : W3 o] {k : Kx} {st : St} {Q : V -> St -> Prop} {X : Exc -> St -> Prop}
theorem yha {us : List Int} (hn : 1 <= k.n) (h : Q (.tup [.int us.length, .int (Builtin.bitOr (yaf us) (yad us)), .int (yad us)]) st) : yak o k st (.ref 165) [yag us] Q X := by
 refine cf_ yr5 fun L => ?_
 left
 symm
 exact h
theorem yp4 {us vs : List Int} (cu : yac us) (cv : yac vs) (hl : us.length = vs.length) (hn : 2 <= k.n) (h : Q (yag (List.zipWith yra us vs)) st) : yak o k st (.ref 397) [yag us, yag vs] Q X := by
 rw [yjy cu cv hl (eL := .and (.or .lu .hu) (.or .lv .hv)) (eH := .and (.and (.or .lu .hu) (.or .lv .hv)) (.or .hu .hv)) (by rfl)] at h
 refine cf_ yqo fun L => ?_
 refine' yha (by right) ?_
 refine' yha (by right) ?_
 refine' yb3 (a := 1) (by decide) (by simp) (by simp only [List.length_cons, List.length_nil]; decide) ?_
 left
 symm
 exact h
theorem ytr {us vs : List Int} (cu : yac us) (cv : yac vs) (hl : us.length = vs.length) (hw : us.length <= 64) (hn : 2 <= k.n) (h : Q (yag (List.zipWith orC us vs)) st) : yak o k st (.ref 404) [yag us, yag vs] Q X := by
 rw [yjy cu cv hl (eL := .or (.or .lu .hu) (.or .lv .hv)) (eH := .xor (.or (.or .lu .hu) (.or .lv .hv)) (.or (.and (.or .lu .hu) (.xor .hu .m)) (.and (.or .lv .hv) (.xor .hv .m)))) (by rfl)] at h
 refine cf_ ysd fun L => ?_
 refine' yha (by right) ?_
 refine' yha (by right) ?_
 refine' yb3 (a := 1) (by decide) (by simp) (by simp only [List.length_cons, List.length_nil]; decide) ?_
 refine' yct (by right) (by right) ?_
 refine' yct (by right) (by right) ?_
 left
 symm
 exact h
theorem yp3 {us vs : List Int} (cu : yac us) (cv : yac vs) (hl : us.length = vs.length) (hn : 2 <= k.n) (h : Q (yag (List.zipWith yfv us vs)) st) : yak o k st (.ref 411) [yag us, yag vs] Q X := by
 rw [yjy cu cv hl (eL := .or (.xor .lu .lv) (.or .hu .hv)) (eH := .or .hu .hv) (by rfl)] at h
 refine cf_ yqm fun L => ?_
 left
 symm
 exact h
theorem yol (f : Int -> Int) : ∀ us : List Int, List.zipWith (fun x O => f x) us us = us.map f
 | [] => rfl
 | x :: us => congrArg (f x :: ·) (yol f us)
theorem ydj {us : List Int} (cu : yac us) (hw : us.length <= 64) (hn : 2 <= k.n) (h : Q (yag (us.map ygs)) st) : yak o k st (.ref 390) [yag us] Q X := by
 rw [<- yol, yjy cu cu rfl (eL := .or (.xor .lu .m) .hu) (eH := .hu) (by rfl)] at h
 refine cf_ yqn fun L => ?_
 refine' yct (by right) (by right) ?_
 left
 symm
 exact h
end
noncomputable def BE.c (e : BE) (x y : Int) : Bool := e.B (x % 2 == 1) (x / 2 == 1) (y % 2 == 1) (y / 2 == 1)
theorem yr4 {us vs : List Int} (cu : yac us) (cv : yac vs) (hl : us.length = vs.length) (e : BE) : (e.on us vs == 0) = (List.zipWith e.c us vs).all (!·) := by
 rw [Bool.eq_iff_iff, beq_iff_eq, BE.ok cu cv hl, yhy, List.all_eq_true]
 have hz : (List.zipWith e.c us vs).length = us.length := by rw [List.length_zipWith, <- hl, Nat.min_self]
 have hg : ∀ j (hj : j < us.length) (h2 : j < (List.zipWith e.c us vs).length), (List.zipWith e.c us vs)[j] = e.at us vs j := fun j hj h2 => by
  rw [List.getElem_zipWith]
  delta BE.at lowB yi6 BE.c
  rw [gd hj, gd (hl ▸ hj)]
 constructor
 . intro h b hb
   obtain ⟨j, hj, ej⟩ := List.getElem_of_mem hb
   rw [hg j (hz ▸ hj) hj, h j (hz ▸ hj)] at ej
   rw [<- ej]; rfl
 . intro h j hj
   have := h _ (List.getElem_mem (hz.symm ▸ hj))
   rw [hg j hj] at this
   rwa [Bool.not_eq_true'] at this
theorem ylb (f : Int -> Int -> Bool) : ∀ us : List Int, List.zipWith f us us = us.map fun x => f x x
 | [] => rfl
 | x :: us => congrArg (f x x :: ·) (ylb f us)
theorem yho {us : List Int} (cu : yac us) (e : BE) : (e.on us us == 0) = us.all fun x => !e.c x x := by
 rw [yr4 cu cu rfl, ylb, List.all_map]; rfl
noncomputable def ydk (us : List Int) : Int := if us.any (· == 1) then 1 else if us.all (· == 0) then 0 else 3
theorem yd8 (us : List Int) : ydk us = 1 \/ ydk us = 0 \/ ydk us = 3 := by
 delta ydk
 split
 . exact .inl rfl
 . split
   . exact .inr (.inl rfl)
   . exact .inr (.inr rfl)
theorem ymu {us : List Int} (cu : yac us) {f g : Int -> Bool} (h : (List.range 4).all (fun (x : Nat) => f x == g x) = true) : us.all f = us.all g := by
 have : ∀ b ∈ us, f b = g b := fun b hb => by
  obtain ⟨h0, h1⟩ := cu b hb
  obtain ⟨x, rfl⟩ := Int.eq_ofNat_of_zero_le h0
  exact eq_of_beq (List.all_eq_true.mp h x (List.mem_range.mpr (by right)))
 rw [Bool.eq_iff_iff, List.all_eq_true, List.all_eq_true]
 exact ⟨fun h b hb => (this b hb) ▸ h b hb, fun h b hb => (this b hb).symm ▸ h b hb⟩
theorem all_zero {us : List Int} (cu : yac us) : us.all (· == 0) = (yaf us == 0 && yad us == 0) := by
 have h1 : (yaf us == 0) = _ := yho cu .lu
 have h2 : (yad us == 0) = _ := yho cu .hu
 rw [Bool.eq_iff_iff, Bool.and_eq_true, h1, h2, List.all_eq_true, List.all_eq_true, List.all_eq_true]
 constructor
 . intro h
   exact ⟨fun x hx => by rw [eq_of_beq (h x hx)]; rfl, fun x hx => by rw [eq_of_beq (h x hx)]; rfl⟩
 . intro h x hx
   have c := cu x hx
   have a : ¬ x % 2 = 1 := fun e => by have := h.1 x hx; unfold BE.c BE.B at this; rw [e] at this; cases this
   have b : ¬ x / 2 = 1 := fun e => by have := h.2 x hx; unfold BE.c BE.B at this; rw [e] at this; cases this
   exact beq_iff_eq.mpr (by right)
section
variable {o : Wo} [WO : WoOk o] [W : W3 o] {k : Kx} {st : St} {Q : V -> St -> Prop} {X : Exc -> St -> Prop}
theorem ygf {us : List Int} (cu : yac us) (hw : us.length <= 64) (hn : 2 <= k.n) (h : Q (.int (ydk us)) st) : yak o k st (.ref 172) [yag us] Q X := by
 refine cf_ ok_truth fun L => ?_
 have e1 : (Builtin.bitAnd (yaf us) (Builtin.bitXor (yad us) (2 ^ us.length - 1)) != 0) = us.any (· == 1) := by
  rw [bne, <- Bool.not_not (b := us.any (· == 1)), List.not_any_eq_all_not]
  exact congrArg (!·) ((yho cu (.and .lu (.xor .hu .m))).trans (ymu cu (by rfl)))
 delta yag
 refine' yct (by right) (by right) ?_
 left
 rw [e1]
 delta ydk at h
 induction c1 : us.any (· == 1) with
 | true =>
  rw [c1, if_pos rfl] at h
  left
  symm
  exact h
 | false =>
  rw [c1, if_neg (by decide), all_zero cu] at h
  left
  induction c2 : yaf us == 0 with
  | false =>
   rw [c2, Bool.false_and, if_neg (by decide)] at h
   left
   symm
   exact h
  | true =>
   rw [c2, Bool.true_and] at h
   left
   induction c3 : yad us == 0 with
   | false =>
    rw [c3, if_neg (by decide)] at h
    left
    symm
    exact h
   | true =>
    rw [c3, if_pos rfl] at h
    left
    symm
    exact h
end
theorem yar {c : Int} (h : 0 <= c /\ c < 4) : yac [c] := fun b hb => by cases hb with | head => exact h | tail _ t => cases t
theorem yjn {c : Int} : [c].length <= 64 := by rw [List.length_singleton]; decide
theorem yax (us : List Int) : 0 <= ydk us /\ ydk us < 4 := by rcases yd8 us with e | e | e <;> rw [e] <;> decide
section
variable {o : Wo} [WO : WoOk o] [W : W3 o] {k : Kx} {st : St} {Q : V -> St -> Prop} {X : Exc -> St -> Prop}
theorem ya3 {c : Int} (hn : 1 <= k.n) (h : Q (yag [c]) st) : yak o k st (.ref 383) [.int c] Q X := by
 rw [show yag [c] = .tup [.int 1, .int (c % 2), .int (c / 2)] from by unfold yag yaf yad; rw [yaf, yad, Int.mul_zero, Int.add_zero, Int.add_zero]; rfl] at h
 refine cf_ yqj fun L => ?_
 refine' yb7 (by decide) ?_
 rw [Int.fdiv_eq_ediv_of_nonneg _ (by decide)]
 left
 symm
 rw [bitAnd_m1]
 exact h
theorem yqr {us : List Int} (cu : yac us) (hw : us.length <= 64) (hn : 3 <= k.n) (h : Q (yag [ygs (ydk us)]) st) : yak o k st (.ref 467) [yag us] Q X := by
 refine cf_ yl0 fun L => ?_
 refine' ygf cu hw (by right) ?_
 refine' ya3 (by right) ?_
 refine' ydj (yar (yax us)) yjn (by right) ?_
 left
 symm
 exact h
theorem yqs {us vs : List Int} (cu : yac us) (cv : yac vs) (hu : us.length <= 64) (hv : vs.length <= 64) (hn : 3 <= k.n) (h : Q (yag [yra (ydk us) (ydk vs)]) st) : yak o k st (.ref 474) [yag us, yag vs] Q X := by
 refine cf_ yl1 fun L => ?_
 refine' ygf cu hu (by right) ?_
 refine' ya3 (by right) ?_
 refine' ygf cv hv (by right) ?_
 refine' ya3 (by right) ?_
 refine' yp4 (yar (yax us)) (yar (yax vs)) rfl (by right) ?_
 left
 symm
 exact h
theorem yso {us vs : List Int} (cu : yac us) (cv : yac vs) (hu : us.length <= 64) (hv : vs.length <= 64) (hn : 3 <= k.n) (h : Q (yag [orC (ydk us) (ydk vs)]) st) : yak o k st (.ref 481) [yag us, yag vs] Q X := by
 refine cf_ ynm fun L => ?_
 refine' ygf cu hu (by right) ?_
 refine' ya3 (by right) ?_
 refine' ygf cv hv (by right) ?_
 refine' ya3 (by right) ?_
 refine' ytr (yar (yax us)) (yar (yax vs)) rfl yjn (by right) ?_
 left
 symm
 exact h
theorem yjk {us : List Int} (cu : yac us) (hw : us.length <= 64) (hn : 3 <= k.n) (h : Q (yag [ydk us]) st) : yak o k st (.ref 439) [yag us] Q X := by
 refine cf_ ylw fun L => ?_
 refine' ygf cu hw (by right) ?_
 refine' ya3 (by right) ?_
 left
 symm
 exact h
theorem ync {us : List Int} (cu : yac us) (hw : us.length <= 64) (hn : 4 <= k.n) (h : Q (yag [ygs (ydk us)]) st) : yak o k st (.ref 446) [yag us] Q X := by
 refine cf_ yka fun L => ?_
 refine' yjk cu hw (by right) ?_
 refine' ydj (yar (yax us)) yjn (by right) ?_
 left
 symm
 exact h
theorem ytq {us vs : List Int} (cu : yac us) (cv : yac vs) (hl : us.length = vs.length) (hw : us.length <= 64) (hn : 3 <= k.n) (h : Q (yag (List.zipWith ydp us vs)) st) : yak o k st (.ref 418) [yag us, yag vs] Q X := by
 refine cf_ yns fun L => ?_
 refine' yp3 cu cv hl (by right) ?_
 refine' ydj (ybr cu cv hl (eL := .or (.xor .lu .lv) (.or .hu .hv)) (eH := .or .hu .hv) (by rfl)) (by rw [List.length_zipWith, <- hl, Nat.min_self]; exact hw) (by right) ?_
 rw [List.map_zipWith]
 left
 symm
 exact h
end
noncomputable def ye9 (us : List Int) : Int := if us.any (· == 0) then 0 else if us.all (· == 1) then 1 else 3
theorem ycf (us : List Int) : 0 <= ye9 us /\ ye9 us < 4 := by
 unfold ye9
 split
 . decide
 . split <;> decide
theorem or_mask {us : List Int} (cu : yac us) : (Builtin.bitOr (yaf us) (yad us) != 2 ^ us.length - 1) = us.any (· == 0) := by
 have h : (BE.on us us (.xor (.or .lu .hu) .m) == 0) = _ := yho cu _
 rw [bne, <- Bool.not_not (b := us.any (· == 0)), List.not_any_eq_all_not, <- ymu cu (f := fun x => !BE.c (.xor (.or .lu .hu) .m) x x) (by rfl), <- h]
 refine congrArg (!·) ?_
 rw [Bool.eq_iff_iff, beq_iff_eq, beq_iff_eq]
 show _ ↔ Builtin.bitXor (Builtin.bitOr (yaf us) (yad us)) (2 ^ us.length - 1) = 0
 constructor
 . intro e; rw [e]; exact bitXor_self _
 . intro e
   have e2 : (BE.on us us (.or .lu .hu)) = nF us.length (BE.at us us (.or .lu .hu)) := BE.ok cu cu rfl _
   have e3 : (BE.on us us (.xor (.or .lu .hu) .m)) = nF us.length (BE.at us us (.xor (.or .lu .hu) .m)) := BE.ok cu cu rfl _
   have z := (yhy _ _).mp (e3.symm.trans e)
   rw [yn4]
   refine e2.trans (yg0 _ fun j hj => ?_)
   have := z j hj
   show BE.B _ _ _ _ (.or .lu .hu) = true
   have w : (BE.B (lowB us j) (yi6 us j) (lowB us j) (yi6 us j) (.or .lu .hu) ^^ true) = false := this
   revert w
   cases BE.B (lowB us j) (yi6 us j) (lowB us j) (yi6 us j) (.or .lu .hu) <;> decide
theorem ypr {us : List Int} (cu : yac us) (h0 : us.any (· == 0) = false) : us.all (· == 1) = (yad us == 0) := by
 have h2 : (yad us == 0) = _ := yho cu .hu
 rw [Bool.eq_iff_iff, h2, List.all_eq_true, List.all_eq_true]
 constructor
 . intro h x hx
   rw [eq_of_beq (h x hx)]; rfl
 . intro h x hx
   have c := cu x hx
   have b : ¬ x / 2 = 1 := fun e => by have := h x hx; unfold BE.c BE.B at this; rw [e] at this; cases this
   have a : ¬ x = 0 := fun e => List.any_eq_false.mp h0 x hx (beq_iff_eq.mpr e)
   exact beq_iff_eq.mpr (by right)
section
variable {o : Wo} [WO : WoOk o] [W : W3 o] {k : Kx} {st : St} {Q : V -> St -> Prop} {X : Exc -> St -> Prop}
theorem yhk {us : List Int} (cu : yac us) (hw : us.length <= 64) (hn : 2 <= k.n) (h : Q (yag [ye9 us]) st) : yak o k st (.ref 425) [yag us] Q X := by
 refine cf_ ykb fun L => ?_
 refine' yha (by right) ?_
 refine' yct (by right) (by right) ?_
 left
 rw [or_mask cu]
 unfold ye9 at h
 induction c1 : us.any (· == 0) with
 | true =>
  rw [c1, if_pos rfl] at h
  refine' ya3 (by right) ?_
  left
  symm
  exact h
 | false =>
  rw [c1, if_neg (by decide), ypr cu c1] at h
  left
  induction c2 : yad us == 0 with
  | true =>
   rw [c2, if_pos rfl] at h
   refine' ya3 (by right) ?_
   left
   symm
   exact h
  | false =>
   rw [c2, if_neg (by decide)] at h
   refine' ya3 (by right) ?_
   left
   symm
   exact h
theorem ylq {us : List Int} (cu : yac us) (hw : us.length <= 64) (hn : 4 <= k.n) (h : Q (yag [ygs (ye9 us)]) st) : yak o k st (.ref 432) [yag us] Q X := by
 refine cf_ yiw fun L => ?_
 refine' yhk cu hw (by right) ?_
 refine' ydj (yar (ycf us)) yjn (by right) ?_
 left
 symm
 exact h
theorem yrc {w : Nat} (hn : 1 <= k.n) (h : Q (yag (List.replicate w 0)) st) : yak o k st (.ref 88) [.int w] Q X := by
 refine cf_ ok_zeros fun L => ?_
 left
 symm
 delta yag at h
 rw [List.length_replicate, ybl, yba (by decide), show (0 : Int) % 2 = 0 by decide, show (0 : Int) / 2 = 0 by decide, Int.zero_mul] at h
 exact h
noncomputable def yqf (us : List Int) (n : Nat) : List Int := (List.replicate n 0 ++ us).take us.length
theorem shlB_all (us : List Int) : yqf us us.length = List.replicate us.length 0 := by
 delta yqf
 have h := List.take_left (l₁ := List.replicate us.length (0 : Int)) (l₂ := us)
 rwa [List.length_replicate] at h
theorem shlB_vec {us : List Int} (cu : yac us) (n : Nat) : yag (yqf us n) = .tup [.int us.length, .int (yaf us * 2 ^ n % 2 ^ us.length), .int (yad us * 2 ^ n % 2 ^ us.length)] := by
 have hl : us.length <= (List.replicate n (0 : Int) ++ us).length := by rw [List.length_append, List.length_replicate]; exact Nat.le_add_left _ _
 have hc : yac (List.replicate n (0 : Int) ++ us) := (yac.repl (by decide) n).app cu
 delta yag yqf
 rw [<- yeb hl, <- ydc hc hl, List.length_take, Nat.min_eq_left hl, ybj, ya4, ybl, yba (by decide), List.length_replicate, show (0 : Int) % 2 = 0 by decide, show (0 : Int) / 2 = 0 by decide, Int.zero_mul, Int.zero_add, Int.zero_add, Int.mul_comm (2 ^ n), Int.mul_comm (2 ^ n)]
theorem shl_le {x n : Int} {w : Nat} (h : 0 <= x /\ x < 2 ^ w) (hw : w <= 64) (hn : ¬ (w : Int) <= n) : (Builtin.Int.intBits x : Int) + n <= 2 ^ 27 := by
 have h1 : Builtin.Int.intBits x <= w := intBits_le_iff.mpr (yn2 h)
 right
theorem yhg {us ns : List Int} (cu : yac us) (hw : us.length <= 64) (hn : 3 <= k.n) (h : Q (yag (if yad ns != 0 then List.replicate us.length 3 else yqf us (min (yaf ns).toNat us.length))) st) : yak o k st (.ref 327) [yag us, yag ns] Q X := by
 refine cf_ yj8 fun L => ?_
 delta yag
 refine' yet (bs := ns) (by right) ?_
 left
 induction c1 : yad ns == 0 with
 | false =>
  rw [bne, c1, if_pos (by rfl)] at h
  refine' yk9 (bs := us) (Nat.le_trans hw (by decide)) (by right) ?_
  left
  symm
  exact h
 | true =>
  rw [bne, c1, if_neg (by decide)] at h
  left
  induction c2 : decide ((us.length : Int) <= yaf ns) with
  | true =>
   have c3 := of_decide_eq_true c2
   rw [show min (yaf ns).toNat us.length = us.length from Nat.min_eq_right ((Int.le_toNat (yal ns).1).mpr c3), shlB_all] at h
   refine' yrc (by right) ?_
   left
   symm
   exact h
  | false =>
   have c3 := of_decide_eq_false c2
   have c4 := (yal ns).1
   rw [show min (yaf ns).toNat us.length = (yaf ns).toNat from Nat.min_eq_left (Int.toNat_le.mpr (Int.le_of_lt (Int.not_le.mp c3))), shlB_vec cu] at h
   refine' yct (by right) (by right) ?_
   refine' yb8 c4 (shl_le (yal us) hw c3) ?_
   refine' yb8 c4 (shl_le (yap us cu) hw c3) ?_
   left
   symm
   rw [kbt_mask, kbt_mask]
   exact h
end
noncomputable def ygk (us : List Int) (n : Nat) (t : Int) : List Int := (us ++ List.replicate n t).drop n
theorem shrB_all (us : List Int) (t : Int) : ygk us us.length t = List.replicate us.length t := by delta ygk; exact List.drop_left
theorem shrB_vec {us : List Int} (cu : yac us) {n : Nat} (hn : n <= us.length) : yag (ygk us n 0) = .tup [.int us.length, .int ((yaf us).fdiv (2 ^ n)), .int ((yad us).fdiv (2 ^ n))] := by
 have hl : n <= (us ++ List.replicate n (0 : Int)).length := by rw [List.length_append]; right
 have hc : yac (us ++ List.replicate n (0 : Int)) := cu.app (yac.repl (by decide) n)
 have hp := kbt_pos n
 delta yag ygk
 rw [<- yec hl, <- ydd hc hl, List.length_drop, List.length_append, List.length_replicate, Nat.add_sub_cancel, ybj, ya4, ybl, yba (by decide), show (0 : Int) % 2 = 0 by decide, show (0 : Int) / 2 = 0 by decide, Int.zero_mul, Int.mul_zero, Int.add_zero, Int.add_zero, Int.fdiv_eq_ediv_of_nonneg _ (Int.le_of_lt hp), Int.fdiv_eq_ediv_of_nonneg _ (Int.le_of_lt hp)]
section
variable {o : Wo} [WO : WoOk o] [W : W3 o] {k : Kx} {st : St} {Q : V -> St -> Prop} {X : Exc -> St -> Prop}
theorem ydu {us ns : List Int} (cu : yac us) (hw : us.length <= 64) (hn : 3 <= k.n) (h : Q (yag (if yad ns != 0 then List.replicate us.length 3 else ygk us (min (yaf ns).toNat us.length) 0)) st) : yak o k st (.ref 334) [yag us, yag ns] Q X := by
 refine cf_ yiu fun L => ?_
 delta yag
 refine' yet (bs := ns) (by right) ?_
 left
 induction c1 : yad ns == 0 with
 | false =>
  rw [bne, c1, if_pos (by rfl)] at h
  refine' yk9 (bs := us) (Nat.le_trans hw (by decide)) (by right) ?_
  left
  symm
  exact h
 | true =>
  rw [bne, c1, if_neg (by decide)] at h
  left
  induction c2 : decide ((us.length : Int) <= yaf ns) with
  | true =>
   have c3 := of_decide_eq_true c2
   rw [show min (yaf ns).toNat us.length = us.length from Nat.min_eq_right ((Int.le_toNat (yal ns).1).mpr c3), shrB_all] at h
   refine' yrc (by right) ?_
   left
   symm
   exact h
  | false =>
   have c3 := of_decide_eq_false c2
   have c4 := (yal ns).1
   rw [show min (yaf ns).toNat us.length = (yaf ns).toNat from Nat.min_eq_left (Int.toNat_le.mpr (Int.le_of_lt (Int.not_le.mp c3))), shrB_vec cu (Int.toNat_le.mpr (Int.le_of_lt (Int.not_le.mp c3)))] at h
   refine' yb7 c4 ?_
   refine' yb7 c4 ?_
   left
   symm
   exact h
end
theorem pairs {us vs : List Int} (cu : yac us) (cv : yac vs) {f g : Int -> Int -> Bool} (h : ((List.range 4).all fun (x : Nat) => (List.range 4).all fun (y : Nat) => f x y == g x y) = true) : List.zipWith f us vs = List.zipWith g us vs := by
 induction us generalizing vs with
 | nil => rfl
 | cons x us ih =>
  induction vs with
  | nil => rfl
  | cons y vs =>
   rw [List.zipWith_cons_cons, List.zipWith_cons_cons, ih cu.tail cv.tail]
   obtain ⟨x0, x1⟩ := cu x (.head _)
   obtain ⟨y0, y1⟩ := cv y (.head _)
   obtain ⟨x, rfl⟩ := Int.eq_ofNat_of_zero_le x0
   obtain ⟨y, rfl⟩ := Int.eq_ofNat_of_zero_le y0
   rw [eq_of_beq (List.all_eq_true.mp (List.all_eq_true.mp h x (List.mem_range.mpr (by right))) y (List.mem_range.mpr (by right)))]
theorem any_map {f : Int -> Int -> Int} {us vs : List Int} (q : Int -> Bool) : (List.zipWith f us vs).any q = !(List.zipWith (fun x y => q (f x y)) us vs).all (!·) := by
 rw [<- List.not_any_eq_all_not, Bool.not_not]
 induction us generalizing vs with
 | nil => rfl
 | cons x us ih =>
  induction vs with
  | nil => rfl
  | cons y vs => rw [List.zipWith_cons_cons, List.zipWith_cons_cons, List.any_cons, List.any_cons, ih]
theorem eq_any {us vs : List Int} (cu : yac us) (cv : yac vs) (hl : us.length = vs.length) : (Builtin.bitAnd (Builtin.bitXor (yaf us) (yaf vs)) (Builtin.bitXor (Builtin.bitOr (yad us) (yad vs)) (2 ^ us.length - 1)) != 0) = (List.zipWith ydp us vs).any (· == 0) := by
 have h : (BE.on us vs (.and (.xor .lu .lv) (.xor (.or .hu .hv) .m)) == 0) = _ := yr4 cu cv hl _
 rw [any_map, <- pairs cu cv (f := BE.c (.and (.xor .lu .lv) (.xor (.or .hu .hv) .m))) (by rfl), <- h]
 rfl
theorem eq_high {us vs : List Int} (cu : yac us) (cv : yac vs) (hl : us.length = vs.length) (h0 : (List.zipWith ydp us vs).any (· == 0) = false) : (List.zipWith ydp us vs).all (· == 1) = (Builtin.bitOr (yad us) (yad vs) == 0) := by
 have hz : yac (List.zipWith ydp us vs) := ybr cu cv hl (eL := .or (.xor (.xor .lu .lv) .m) (.or .hu .hv)) (eH := .or .hu .hv) (by rfl)
 have e := yjy cu cv hl (g := ydp) (eL := .or (.xor (.xor .lu .lv) .m) (.or .hu .hv)) (eH := .or .hu .hv) (by rfl)
 have e2 : yad (List.zipWith ydp us vs) = Builtin.bitOr (yad us) (yad vs) := by
  unfold yag at e
  injection e with e; injection e with _ e; injection e with _ e; injection e with e _; injection e with e
 rw [ypr hz h0, e2]
section
variable {o : Wo} [WO : WoOk o] [W : W3 o] {k : Kx} {st : St} {Q : V -> St -> Prop} {X : Exc -> St -> Prop}
theorem equal_ {us vs : List Int} (cu : yac us) (cv : yac vs) (hl : us.length = vs.length) (hw : us.length <= 64) (hn : 2 <= k.n) (h : Q (yag [ye9 (List.zipWith ydp us vs)]) st) : yak o k st (.ref 488) [yag us, yag vs] Q X := by
 refine cf_ ok_equal fun L => ?_
 refine' yct (by right) (by right) ?_
 left
 rw [eq_any cu cv hl]
 unfold ye9 at h
 induction c1 : (List.zipWith ydp us vs).any (· == 0) with
 | true =>
  rw [c1, if_pos rfl] at h
  refine' ya3 (by right) ?_
  left
  symm
  exact h
 | false =>
  rw [c1, if_neg (by decide), eq_high cu cv hl c1] at h
  left
  induction c2 : Builtin.bitOr (yad us) (yad vs) == 0 with
  | true =>
   rw [c2, if_pos rfl] at h
   refine' ya3 (by right) ?_
   left
   symm
   exact h
  | false =>
   rw [c2, if_neg (by decide)] at h
   refine' ya3 (by right) ?_
   left
   symm
   exact h
theorem yqq {us vs : List Int} (cu : yac us) (cv : yac vs) (hl : us.length = vs.length) (hw : us.length <= 64) (hn : 4 <= k.n) (h : Q (yag [ygs (ye9 (List.zipWith ydp us vs))]) st) : yak o k st (.ref 495) [yag us, yag vs] Q X := by
 refine cf_ yly fun L => ?_
 refine' equal_ cu cv hl hw (by right) ?_
 refine' ydj (yar (ycf _)) yjn (by right) ?_
 left
 symm
 exact h
end
noncomputable def ylr (us : List Int) : Int := us.foldl yfv 0
theorem xor_x : ∀ (us : List Int), yac us -> us.foldl yfv 3 = 3
 | [], _ => rfl
 | b :: r, hc => by rw [List.foldl_cons, show yfv 3 b = 3 from rfl]; exact xor_x r hc.tail
theorem yop : ∀ (us : List Int), yac us -> (yad us != 0) = true -> ∀ p : Int, p = 0 \/ p = 1 -> us.foldl yfv p = 3
 | [], _, h, _, _ => by cases h
 | b :: r, hc, h, p, hp => by
  have h0 := hc b (.head _)
  rw [List.foldl_cons]
  by_cases c : b <= 1
  . refine yop r hc.tail ?_ _ ?_
    . rw [yad, show b / 2 = 0 from yi9 (fun b => b <= 1 -> b / 2 = 0) (by rfl) h0 c, Int.zero_add] at h
      rw [bne_iff_ne] at h ⊢
      exact fun e => h (by rw [e]; rfl)
    . unfold yfv
      rw [if_neg (by simp; right)]
      split
      . exact .inl rfl
      . exact .inr rfl
  . rw [show yfv p b = 3 by unfold yfv; rw [if_pos (by simp; right)]]
    exact xor_x r hc.tail
theorem half0 {c H : Int} (hc : 0 <= c) (hH : 0 <= H) (h : c + 2 * H = 0) : c = 0 /\ H = 0 := by right
theorem yoo : ∀ (us : List Int), yac us -> yad us = 0 -> yaf us = 0 -> ∀ p : Int, p = 0 \/ p = 1 -> us.foldl yfv p = p
 | [], _, _, _, _, _ => rfl
 | b :: r, hc, h, l, p, hp => by
  have h0 := hc b (.head _)
  have h1 := yal r
  have h2 := yap r hc.tail
  rw [yad] at h
  rw [yaf] at l
  have a1 := half0 (Int.ediv_nonneg h0.1 (by decide)) h2.1 h
  have a2 := half0 (mdk b (by decide)).1 h1.1 l
  have : b = 0 := yi9 (fun b => b / 2 = 0 -> b % 2 = 0 -> b = 0) (by rfl) h0 a1.1 a2.1
  subst this
  rw [List.foldl_cons, show yfv p 0 = p by rcases hp with e | e <;> rw [e] <;> rfl]
  exact yoo r hc.tail a1.2 a2.2 p hp
inductive XStep (us : List Int) (p : Int) : Prop
 | mk (b : Int) (r : List Int) (e : us = b :: r) (hr : yac r) (h : yad r = 0) (l : (yaf us).fdiv 2 = yaf r) (q : Builtin.bitXor p (Builtin.bitAnd (yaf us) 1) = yfv p b) (q2 : yfv p b = 0 \/ yfv p b = 1)
theorem xstep {us : List Int} (hc : yac us) (h : yad us = 0) (l : 0 < yaf us) {p : Int} (hp : p = 0 \/ p = 1) : XStep us p := by
 induction us with
 | nil => exact absurd l (by decide)
 | cons b r =>
  have h0 := hc b (.head _)
  have h2 := yap r hc.tail
  rw [yad] at h
  rw [yaf] at l
  have a1 := half0 (Int.ediv_nonneg h0.1 (by decide)) h2.1 h
  have hb : b = 0 \/ b = 1 := yi9 (fun b => b / 2 = 0 -> b = 0 \/ b = 1) (by rfl) h0 a1.1
  have e2 : (b % 2 + 2 * yaf r) % 2 = b := by rw [Int.add_mul_emod_self_left]; exact yi9 (fun b => b / 2 = 0 -> b % 2 % 2 = b) (by rfl) h0 a1.1
  refine ⟨b, r, rfl, hc.tail, a1.2, ?_, ?_, ?_⟩
  . rw [yaf, Int.fdiv_eq_ediv_of_nonneg _ (by decide), Int.add_mul_ediv_left _ _ (by decide), yi9 (fun b => b % 2 / 2 = 0) (by rfl) h0, Int.zero_add]
  . rw [yaf, bitAnd_m1, e2]
    rcases hp with e | e <;> rcases hb with e' | e' <;> rw [e, e'] <;> rfl
  . rcases hp with e | e <;> rcases hb with e' | e' <;> rw [e, e'] <;> decide
section
variable {o : Wo} [WO : WoOk o] [W : W3 o] {k : Kx} {st : St} {Q : V -> St -> Prop} {X : Exc -> St -> Prop}
theorem yhj {us : List Int} (cu : yac us) (hw : us.length <= 64) (hn : 2 <= k.n) (h : Q (yag [ylr us]) st) : yak o k st (.ref 453) [yag us] Q X := by
 refine cf_ yj9 fun L => ?_
 refine yia 1 ?_
 left
 induction c1 : yad us != 0 with
 | true =>
  rw [show ylr us = 3 from yop us cu c1 0 (.inl rfl)] at h
  refine' ya3 (by right) ?_
  ac_rfl
 | false =>
  have hz : yad us = 0 := by simpa using c1
  refine ya2 rfl ?_
  refine yia 3 ?_
  intro go'
  refine ym0 (fun n loc st' => st' = st /\ ∃ vs p, loc "rest" = some (.int (yaf vs)) /\ loc "parity" = some (.int p) /\ yac vs /\ yad vs = 0 /\ (p = 0 \/ p = 1) /\ vs.foldl yfv p = ylr us /\ n = vs.length) us.length ⟨rfl, us, 0, by rfl, by rfl, cu, hz, .inl rfl, rfl, rfl⟩ fun n loc st' hj => ?_
  obtain ⟨rfl, vs, p, l1, l2, cv, hv, hp, hf, rfl⟩ := hj
  refine ⟨_, yaa l1 (yaa l2 yaj), ?_⟩
  left
  induction c2 : decide (0 < yaf vs) with
  | true =>
   obtain ⟨b, r, rfl, hr, hh, hl, q, q2⟩ := xstep cv hv (of_decide_eq_true c2) hp
   refine' opi_xor ?_
   refine' ynf (by decide) ?_
   left
   exact ⟨r.length, Nat.lt_succ_self _, rfl, r, _, by rw [<- hl]; rfl, by rw [<- q]; rfl, hr, hh, q2, hf, rfl⟩
  | false =>
   have c3 := of_decide_eq_false c2
   have c4 := (yal vs).1
   rw [<- hf, yoo vs cv hv (Int.le_antisymm (Int.not_lt.mp c3) c4) p hp] at h
   refine ya2 rfl ?_
   refine yat _ (yaa l2 yaj) ?_
   refine' ya3 (by right) ?_
   ac_rfl
end
theorem ym1 : ∀ {us vs : List Int}, yac us -> yac vs -> us.length = vs.length -> yaf us = yaf vs -> yad us = yad vs -> us = vs
 | [], [], _, _, _, _, _ => rfl
 | [], _ :: _, _, _, h, _, _ => by cases h
 | _ :: _, [], _, _, h, _, _ => by cases h
 | a :: r, b :: t, ca, cb, hl, h1, h2 => by
  have a0 := ca a (.head _)
  have b0 := cb b (.head _)
  rw [yaf, yaf] at h1
  rw [yad, yad] at h2
  have l1 : a % 2 = b % 2 := by
   have q : (a % 2 + 2 * yaf r) % 2 = (b % 2 + 2 * yaf t) % 2 := by rw [h1]
   rwa [Int.add_mul_emod_self_left, Int.add_mul_emod_self_left, Int.emod_emod_of_dvd _ (Int.dvd_refl 2), Int.emod_emod_of_dvd _ (Int.dvd_refl 2)] at q
  have l2 : a / 2 = b / 2 := by
   have q : (a / 2 + 2 * yad r) % 2 = (b / 2 + 2 * yad t) % 2 := by rw [h2]
   rwa [Int.add_mul_emod_self_left, Int.add_mul_emod_self_left, yi9 (fun x => x / 2 % 2 = x / 2) (by rfl) a0, yi9 (fun x => x / 2 % 2 = x / 2) (by rfl) b0] at q
  have e : a = b := (Int.emod_add_mul_ediv a 2).symm.trans (by rw [l1, l2]; exact Int.emod_add_mul_ediv b 2)
  subst e
  rw [ym1 ca.tail cb.tail (Nat.succ.inj hl) (by right) (by right)]
theorem vec_beq {us vs : List Int} (cu : yac us) (cv : yac vs) (hl : us.length = vs.length) : (((us.length : Int) == vs.length) && ((yaf us == yaf vs) && ((yad us == yad vs) && true))) = (us == vs) := by
 rw [Bool.eq_iff_iff, hl, beq_self_eq_true, Bool.true_and, Bool.and_true, Bool.and_eq_true, beq_iff_eq, beq_iff_eq, beq_iff_eq]
 exact ⟨fun h => ym1 cu cv hl h.1 h.2, fun h => by rw [h]; exact ⟨rfl, rfl⟩⟩
noncomputable def mixC (x y : Int) : Int := if x == y && decide (x < 2) then x else 3
section
variable {o : Wo} [WO : WoOk o] [W : W3 o] {k : Kx} {st : St} {Q : V -> St -> Prop} {X : Exc -> St -> Prop}
theorem yoe {a b c a' b' c' : Int} (h : Q (.bool (a == a' && (b == b' && (c == c' && true)))) st) : CMP o k st .Eq (.tup [.int a, .int b, .int c]) (.tup [.int a', .int b', .int c']) Q X :=
 ytl (da := .tuple [.int a, .int b, .int c]) (db := .tuple [.int a', .int b', .int c']) (by rfl) (by rfl) (by rfl) (by rfl) (Nat.le_trans (Nat.min_le_left _ _) (Nat.le_of_ble_eq_true (by rfl))) (by simpa only [PyData.eqv, PyData.eqvAll] using h)
theorem eq_vec {us vs : List Int} (cu : yac us) (cv : yac vs) (hl : us.length = vs.length) (h : Q (.bool (us == vs)) st) : CMP o k st .Eq (yag us) (yag vs) Q X := yoe (by rw [vec_beq cu cv hl]; exact h)
theorem yof {us vs : List Int} (cu : yac us) (cv : yac vs) (hl : us.length = vs.length) (hn : 2 <= k.n) (h : Q (yag [if us == vs then 1 else 0]) st) : yak o k st (.ref 502) [yag us, yag vs] Q X := by
 refine cf_ ykg fun L => ?_
 refine' eq_vec cu cv hl ?_
 revert h
 induction us == vs
 all_goals
  intro h
  refine' ya3 (by right) ?_
  ac_rfl
theorem yik {us vs : List Int} (cu : yac us) (cv : yac vs) (hl : us.length = vs.length) (hn : 2 <= k.n) (h : Q (yag [if us == vs then 0 else 1]) st) : yak o k st (.ref 509) [yag us, yag vs] Q X := by
 refine cf_ yfy fun L => ?_
 refine' eq_vec cu cv hl ?_
 revert h
 induction us == vs
 all_goals
  intro h
  refine' ya3 (by right) ?_
  ac_rfl
theorem yhl {us : List Int} (cu : yac us) : 0 <= ylr us /\ ylr us < 4 := by
 have : ∀ (us : List Int) (p : Int), (0 <= p /\ p < 4) -> 0 <= us.foldl yfv p /\ us.foldl yfv p < 4 := fun us => by
  induction us with
  | nil => exact fun p h => h
  | cons b r ih =>
   intro p h
   rw [List.foldl_cons]
   refine ih _ ?_
   unfold yfv
   split
   . decide
   . split <;> decide
 exact this us 0 (by decide)
theorem ylp {us : List Int} (cu : yac us) (hw : us.length <= 64) (hn : 4 <= k.n) (h : Q (yag [ygs (ylr us)]) st) : yak o k st (.ref 460) [yag us] Q X := by
 refine cf_ yiv fun L => ?_
 refine' yhj cu hw (by right) ?_
 refine' ydj (yar (yhl cu)) yjn (by right) ?_
 ac_rfl
noncomputable def yb1 (c : Int) (ts fs : List Int) : List Int := if c == 1 then ts else if c == 0 then fs else List.zipWith mixC ts fs
theorem choose_ {cs ts fs : List Int} (cc : yac cs) (hc : cs.length <= 64) (ct : yac ts) (cf : yac fs) (hl : ts.length = fs.length) (hw : ts.length <= 64) (hn : 3 <= k.n) (h : Q (yag (yb1 (ydk cs) ts fs)) st) : yak o k st (.ref 523) [yag cs, yag ts, yag fs] Q X := by
 refine cf_ ysc fun L => ?_
 refine' ygf cc hc (by right) ?_
 unfold yb1 at h
 generalize hq : ydk cs = q at h ⊢
 rcases (hq ▸ yd8 cs : q = 1 \/ q = 0 \/ q = 3) with e | e | e
 . subst e
   rw [if_pos (by decide)] at h
   ac_rfl
 . subst e
   rw [if_neg (by decide), if_pos (by decide)] at h
   ac_rfl
 . subst e
   rw [if_neg (by decide), if_neg (by decide), yjy ct cf hl (eL := .or (.and .lu (.xor .m (.or (.or (.xor .lu .lv) .hu) .hv))) (.xor .m (.xor .m (.or (.or (.xor .lu .lv) .hu) .hv)))) (eH := .xor .m (.xor .m (.or (.or (.xor .lu .lv) .hu) .hv))) (by rfl)] at h
   refine' yct (by right) (by right) ?_
   refine' yct (by right) (by right) ?_
   ac_rfl
end
theorem shr_bits {us : List Int} (cu : yac us) {c : Nat} (hcu : c <= us.length) {t : Int} (ht : 0 <= t /\ t < 4) :
 yag (ygk us c t) = .tup [.int us.length, .int (Builtin.bitOr ((yaf us).fdiv (2 ^ c)) (if t % 2 = 1 then 2 ^ us.length - 2 ^ (us.length - c) else 0)), .int (Builtin.bitOr ((yad us).fdiv (2 ^ c)) (if t / 2 = 1 then 2 ^ us.length - 2 ^ (us.length - c) else 0))] := by
 have hp := kbt_pos c
 have hd : (us.drop c).length = us.length - c := List.length_drop
 have e : ygk us c t = us.drop c ++ List.replicate c t := by unfold ygk; rw [List.drop_append_of_le_length hcu]
 rw [Int.fdiv_eq_ediv_of_nonneg _ (Int.le_of_lt hp), Int.fdiv_eq_ediv_of_nonneg _ (Int.le_of_lt hp), yec hcu, ydd cu hcu, e]
 unfold yag
 rw [List.length_append, hd, List.length_replicate, Nat.sub_add_cancel hcu]
 by_cases q : c = 0
 . subst q
   rw [Nat.sub_zero, List.replicate_zero, List.append_nil, List.drop_zero, Int.sub_self, ite_self, ite_self, yez _ (yal us).1, yez _ (yap us cu).1]
 . have w := yk1 (cu.drop c) (w := us.length) (by rw [hd]; exact Nat.sub_lt_of_pos_le (Nat.pos_of_ne_zero q) hcu) ht
   rw [hd, show us.length - (us.length - c) = c from Nat.sub_sub_self hcu] at w
   rw [w.1, w.2]
section
variable {o : Wo} [WO : WoOk o] [W : W3 o] {k : Kx} {st : St} {Q : V -> St -> Prop} {X : Exc -> St -> Prop}
theorem ysj {n : Int} {w : Nat} (h : 0 <= n) : (if (w : Int) < n then (w : Int) else n) = ((min n.toNat w : Nat) : Int) := by
 obtain ⟨m, rfl⟩ := Int.eq_ofNat_of_zero_le h
 split
 . next q => exact congrArg _ (Nat.min_eq_right (Nat.le_of_lt (Int.ofNat_lt.mp q))).symm
 . next q => exact congrArg _ (Nat.min_eq_left (Int.ofNat_le.mp (Int.not_lt.mp q))).symm
theorem bit_t1 {t : Int} (h : 0 <= t /\ t < 4) : (Builtin.bitAnd t 1 == 1) = decide (t % 2 = 1) := by rw [bitAnd_m1]; rfl
theorem bit_t2 {t : Int} (h : 0 <= t /\ t < 4) : (Builtin.bitAnd t 2 == 2) = decide (t / 2 = 1) := by
 exact yi9 (fun t => (Builtin.bitAnd t 2 == 2) = decide (t / 2 = 1)) (by rfl) h
noncomputable def shaB (us : List Int) (n : Nat) : List Int := ygk us n (us.getLast?.getD 0)
theorem yj5 {us ns : List Int} (cu : yac us) (hw : us.length <= 64) (hn : 4 <= k.n) (h : Q (yag (if yad ns != 0 then List.replicate us.length 3 else ygk us (min (yaf ns).toNat us.length) 0)) st) : yak o k st (.ref 341) [yag us, yag ns, .bool false] Q X := by
 refine cf_ yeo fun L => ?_
 refine' ydu cu hw (by right) ?_
 ac_rfl
theorem yn6 {us : List Int} (h : 1 <= us.length) : us.getLast?.getD 0 = us[us.length - 1]'(Nat.sub_one_lt_of_lt h) := by
 rw [List.getLast?_eq_getElem?, List.getElem?_eq_getElem (Nat.sub_one_lt_of_lt h)]; rfl
theorem yj6 {us ns : List Int} (cu : yac us) (hw : 1 <= us.length /\ us.length <= 64) (hn : 4 <= k.n) (h : Q (yag (if yad ns != 0 then List.replicate us.length 3 else shaB us (min (yaf ns).toNat us.length))) st) : yak o k st (.ref 341) [yag us, yag ns, .bool true] Q X := by
 refine cf_ yeo fun L => ?_
 have hlast := yfh cu
 refine' yet (bs := ns) (by right) ?_
 left
 induction c1 : yad ns == 0 with
 | false =>
  rw [bne, c1, if_pos (by rfl)] at h
  refine' ydu cu hw.2 (by right) ?_
  rw [bne, c1, if_pos (by rfl)]
  ac_rfl
 | true =>
  rw [bne, c1, if_neg (by decide)] at h
  have hz := (yal ns).1
  unfold shaB at h
  rw [shr_bits cu (Nat.min_le_right ..) hlast] at h
  refine' ydi ?_
  rw [ysj hz]
  have hm : min (yaf ns).toNat us.length <= us.length := Nat.min_le_right ..
  generalize min (yaf ns).toNat us.length = c at h hm ⊢
  refine' yct (by right) (by right) ?_
  left
  rw [show (us.length : Int) - (c : Int) = ((us.length - c : Nat) : Int) from (Int.ofNat_sub hm).symm]
  refine yct (by right) (Nat.le_trans (Nat.sub_le ..) (Nat.le_trans hw.2 (by decide))) ?_
  left
  rw [ypg (Nat.sub_le ..), show (us.length : Int) - 1 = ((us.length - 1 : Nat) : Int) from (Int.ofNat_sub hw.1).symm]
  refine code_ cu (Nat.sub_one_lt_of_lt hw.1) (by right) ?_
  rw [<- yn6 hw.1]
  generalize us.getLast?.getD 0 = t at h hlast ⊢
  refine' yb7 (by right) ?_
  left
  rw [bit_t1 hlast]
  refine yd0 (fun h1 => ?_) fun h1 => ?_
  all_goals
   first | rw [if_pos (of_decide_eq_true h1)] at h | rw [if_neg (of_decide_eq_false h1)] at h
   refine' yb7 (by right) ?_
   left
   rw [bit_t2 hlast]
   refine yd0 (fun h2 => ?_) fun h2 => ?_
   all_goals
    first | rw [if_pos (of_decide_eq_true h2)] at h | rw [if_neg (of_decide_eq_false h2)] at h
    ac_rfl
end
theorem yjp (a b m : Int) : (a % m * b) % m = a * b % m := by rw [Int.mul_emod, Int.emod_emod, <- Int.mul_emod]
theorem yf0 (a b m : Int) : (a * (b % m)) % m = a * b % m := by rw [Int.mul_emod, Int.emod_emod, <- Int.mul_emod]
theorem yo2 (a m : Int) : ∀ n : Nat, (a % m) ^ n % m = a ^ n % m
 | 0 => by rw [Int.pow_zero, Int.pow_zero]
 | n + 1 => by rw [Int.pow_succ, Int.pow_succ, yf0, <- yjp, yo2 a m n, yjp]
theorem sq_pow (q : Int) (n : Nat) : (q * q) ^ n = q ^ (2 * n) := by
 induction n with
 | zero => rw [Nat.mul_zero, Int.pow_zero, Int.pow_zero]
 | succ n ih => rw [Int.pow_succ, ih, show 2 * (n + 1) = 2 * n + 1 + 1 by right, Int.pow_succ, Int.pow_succ, Int.mul_assoc]
theorem hf_even {e : Int} (he : 0 <= e) (h : e % 2 = 0) : 2 * (e / 2).toNat = e.toNat := by
 obtain ⟨m, rfl⟩ := Int.eq_ofNat_of_zero_le he
 exact Nat.mul_div_cancel' (Nat.dvd_of_mod_eq_zero (Int.ofNat.inj h))
theorem hf_odd {e : Int} (he : 0 <= e) (h : e % 2 = 1) : e.toNat = 2 * (e / 2).toNat + 1 := by
 obtain ⟨m, rfl⟩ := Int.eq_ofNat_of_zero_le he
 have := Nat.div_add_mod m 2
 rw [show m % 2 = 1 from Int.ofNat.inj h] at this
 exact this.symm
theorem hf_lt {e : Int} (h : 0 < e) : (e / 2).toNat < e.toNat := by
 obtain ⟨m, rfl⟩ := Int.eq_ofNat_of_zero_le (Int.le_of_lt h)
 exact Nat.div_lt_self (Int.ofNat_lt.mp h) (by decide)
theorem pw_even {r q m e : Int} (he : 0 <= e) (h : e % 2 = 0) : (r * (q * q % m) ^ (e.fdiv 2).toNat) % m = r * q ^ e.toNat % m := by
 rw [Int.fdiv_eq_ediv_of_nonneg _ (by decide), <- yf0, yo2, yf0, sq_pow, show 2 * (e / 2).toNat = e.toNat from hf_even he h]
theorem pw_odd {r q m e : Int} (he : 0 <= e) (h : e % 2 = 1) : (r * q % m * (q * q % m) ^ (e.fdiv 2).toNat) % m = r * q ^ e.toNat % m := by
 rw [Int.fdiv_eq_ediv_of_nonneg _ (by decide), yjp, <- yf0, yo2, yf0, sq_pow, Int.mul_assoc, show e.toNat = 2 * (e / 2).toNat + 1 from hf_odd he h, Int.pow_succ, Int.mul_comm q]
theorem ye3 {x : Int} {w : Nat} (h : 0 <= x /\ x < 2 ^ w) (hw : w <= 64) : Builtin.Int.intBits x <= 64 := intBits_le_iff.mpr (Nat.lt_of_lt_of_le (yn2 h) (Nat.pow_le_pow_right (by decide) hw))
theorem ymc (x : Int) (w : Nat) : 0 <= x % 2 ^ w /\ x % 2 ^ w < 2 ^ w := ⟨Int.emod_nonneg _ (Int.ne_of_gt (kbt_pos w)), Int.emod_lt_of_pos _ (kbt_pos w)⟩
theorem one_lt {w : Nat} (hw : 1 <= w) : (1 : Int) < 2 ^ w := by
 have h1 := kbt_cast w
 have h2 : 2 ^ 1 <= 2 ^ w := Nat.pow_le_pow_right (by decide) hw
 right
section
variable {o : Wo} [WO : WoOk o] [W : W3 o] {k : Kx} {st : St} {Q : V -> St -> Prop} {X : Exc -> St -> Prop}
theorem raise_ {b e : Int} {w : Nat} (hw : 1 <= w /\ w <= 64) (he : 0 <= e) (hn : 2 <= k.n) (h : Q (.int (b ^ e.toNat % 2 ^ w)) st) : yak o k st (.ref 313) [.int b, .int e, .int w] Q X := by
 refine cf_ yix fun L => ?_
 refine yia 5 ?_
 refine' yct (by right) (by right) ?_
 left
 rw [kbt_mask]
 refine ym0 (fun n loc st' => st' = st /\ ∃ r q e', loc "rest" = some (.int e') /\ loc "result" = some (.int r) /\ loc "square" = some (.int q) /\ loc "full" = some (.int (2 ^ w - 1)) /\ 0 <= e' /\ (0 <= r /\ r < 2 ^ w) /\ (0 <= q /\ q < 2 ^ w) /\ (r * q ^ e'.toNat) % 2 ^ w = b ^ e.toNat % 2 ^ w /\ n = e'.toNat) e.toNat
  ⟨rfl, 1, b % 2 ^ w, e, by rfl, by rfl, by rfl, by rfl, he, ⟨by decide, one_lt hw.1⟩, ymc _ _, by rw [Int.one_mul, yo2], rfl⟩ fun n loc st' hj => ?_
 obtain ⟨rfl, r, q, e', l1, l2, l3, l4, h0, hr, hq, hv, rfl⟩ := hj
 refine ⟨_, yaa l1 (yaa l2 (yaa l3 (yaa l4 yaj))), ?_⟩
 left
 induction c2 : decide (0 < e') with
 | true =>
  have c3 := of_decide_eq_true c2
  have hs : (e'.fdiv 2).toNat < e'.toNat := by rw [Int.fdiv_eq_ediv_of_nonneg _ (by decide)]; exact hf_lt c3
  have hs0 : 0 <= e'.fdiv 2 := by rw [Int.fdiv_eq_ediv_of_nonneg _ (by decide)]; exact Int.ediv_nonneg h0 (by decide)
  left
  rw [bitAnd_m1]
  induction c4 : e' % 2 == 1 with
  | true =>
   refine' yav (IntMulOk.of_right (ye3 hq hw.2)) ?_
   left
   rw [kbt_mask]
   refine yav (IntMulOk.of_right (ye3 hq hw.2)) ?_
   left
   rw [kbt_mask]
   refine ynf (by decide) ?_
   left
   exact ⟨_, hs, rfl, _, _, _, by rfl, by rfl, by rfl, by rfl, hs0, ymc _ _, ymc _ _, (pw_odd h0 (eq_of_beq c4)).trans hv, rfl⟩
  | false =>
   have c5 : e' % 2 = 0 := (Int.emod_two_eq e').resolve_right (ne_of_beq_false c4)
   refine' yav (IntMulOk.of_right (ye3 hq hw.2)) ?_
   left
   rw [kbt_mask]
   refine ynf (by decide) ?_
   left
   exact ⟨_, hs, rfl, _, _, _, by rfl, by rfl, by rfl, by rfl, hs0, hr, ymc _ _, (pw_even h0 c5).trans hv, rfl⟩
 | false =>
  have c3 := of_decide_eq_false c2
  rw [<- hv, show e'.toNat = 0 from Int.toNat_of_nonpos (Int.not_lt.mp c3), Int.pow_zero, Int.mul_one, Int.emod_eq_of_lt hr.1 hr.2] at h
  refine ya2 rfl ?_
  refine yat _ (yaa l2 yaj) ?_
  ac_rfl
noncomputable def powI (w : Nat) (b e : Int) : Option Int := if 0 <= e then some (b ^ e.toNat % 2 ^ w) else if b == 0 then none else if b == 1 then some 1 else if b == -1 then some (if e % 2 == 1 then -1 else 1) else some 0
noncomputable def powO (w : Nat) : Option Int -> Option Int -> Option Int
 | some b, some e => powI w b e
 | _, _ => none
theorem ysi (w : Nat) : ygg w 0 = List.replicate w 0 := by
 unfold ygg
 refine List.eq_replicate_iff.mpr ⟨by simp, fun b hb => ?_⟩
 obtain ⟨i, _, rfl⟩ := List.mem_map.mp hb
 rw [Int.zero_ediv]; rfl
theorem power_ {us vs : List Int} {s1 s2 : Bool} (hu : 1 <= us.length /\ us.length <= 64) (hv : 1 <= vs.length /\ vs.length <= 64) (hn : 4 <= k.n) (h : Q (yag (ygj us.length (powO us.length (yao us s1) (yao vs s2)))) st) : yak o k st (.ref 320) [yag us, yag vs, .bool s1, .bool s2] Q X := by
 refine cf_ ok_power fun L => ?_
 refine' ybs (bs := us) hu (by right) ?_
 refine' ybs hv (by right) ?_
 left
 induction e1 : yao us s1 with
 | none =>
  rw [e1] at h
  refine' yk9 (l64 hu) (by right) ?_
  ac_rfl
 | some b =>
  induction e2 : yao vs s2 with
  | none =>
   rw [e1, e2] at h
   refine' yk9 (l64 hu) (by right) ?_
   ac_rfl
  | some e =>
   rw [e1, e2, show powO us.length (some b) (some e) = powI us.length b e from rfl] at h
   unfold powI at h
   left
   induction c1 : decide (0 <= e) with
   | true =>
    rw [if_pos (of_decide_eq_true c1)] at h
    refine' raise_ hu (of_decide_eq_true c1) (by right) ?_
    refine' yes (l64 hu) (by right) ?_
    ac_rfl
   | false =>
    rw [if_neg (of_decide_eq_false c1)] at h
    left
    induction c2 : b == 0 with
    | true =>
     rw [c2, if_pos rfl] at h
     refine' yk9 (l64 hu) (by right) ?_
     ac_rfl
    | false =>
     rw [c2, if_neg (by decide)] at h
     left
     induction c3 : b == 1 with
     | true =>
      rw [c3, if_pos rfl] at h
      refine' yes (l64 hu) (by right) ?_
      ac_rfl
     | false =>
      rw [c3, if_neg (by decide)] at h
      left
      induction c4 : b == -1 with
      | true =>
       rw [c4, if_pos rfl] at h
       refine' yah (by decide) ?_
       left
       induction c5 : e % 2 == 1 with
       | true =>
        rw [c5, if_pos rfl] at h
        refine' yes (l64 hu) (by right) ?_
        ac_rfl
       | false =>
        rw [c5, if_neg (by decide)] at h
        refine' yes (l64 hu) (by right) ?_
        ac_rfl
      | false =>
       rw [c4, if_neg (by decide), show ygj us.length (some 0) = List.replicate us.length 0 from ysi _] at h
       refine' yrc (by right) ?_
       ac_rfl
end
theorem natB_md {w : Nat} {a b : Int} (h : a % 2 ^ w = b % 2 ^ w) : ygg w a = ygg w b :=
 ym1 (ybe _ _) (ybe _ _) (by rw [ya0, ya0]) (by rw [yda, yda, h]) (by rw [yci, yci])
theorem ys7 {us : List Int} {sg : Bool} {x : Int} (h : yao us sg = some x) : yad us = 0 /\ x % 2 ^ us.length = yaf us % 2 ^ us.length := by
 unfold yao at h
 induction c : yad us != 0 with
 | true => rw [c] at h; cases h
 | false =>
  rw [c, if_neg (by decide)] at h
  refine ⟨by simpa using c, ?_⟩
  have h := Option.some.inj h
  split at h
  . rw [<- h, Int.toNat_natCast, Int.sub_emod, Int.emod_self, Int.sub_zero, Int.emod_emod]
  . rw [h]
theorem ymh {us : List Int} {sg : Bool} (h : yao us sg = none) : (yad us == 0) = false := by
 unfold yao at h
 induction c : yad us == 0 with
 | true => rw [bne, c] at h; cases h
 | false => rfl
theorem ys8 (us : List Int) : yao us false = if yad us != 0 then none else some (yaf us) := rfl
noncomputable def opO (f : Int -> Int -> Int) : Option Int -> Option Int -> Option Int
 | some m, some n => some (f m n)
 | _, _ => none
theorem yss {us vs : List Int} {sg : Bool} {f : Int -> Int -> Int} (hl : us.length = vs.length) (hf : ∀ a b m : Int, f (a % m) (b % m) % m = f a b % m) : kn2 us vs (f (yaf us) (yaf vs)) = ygj us.length (opO f (yao us sg) (yao vs sg)) := by
 unfold kn2
 induction e1 : yao us sg with
 | none => rw [ymh e1]; rfl
 | some x =>
  obtain ⟨h1, m1⟩ := ys7 e1
  induction e2 : yao vs sg with
  | none => rw [ymh e2, Bool.and_false]; rfl
  | some y =>
   obtain ⟨h2, m2⟩ := ys7 e2
   rw [h1, h2, if_pos (by decide)]
   rw [<- hl] at m2
   exact natB_md (by rw [<- hf, <- m1, <- m2, hf])
theorem add_md (a b m : Int) : (a % m + b % m) % m = (a + b) % m := (Int.add_emod ..).symm
theorem sub_md (a b m : Int) : (a % m - b % m) % m = (a - b) % m := (Int.sub_emod ..).symm
theorem mul_md2 (a b m : Int) : (a % m * (b % m)) % m = (a * b) % m := (Int.mul_emod ..).symm
theorem low_bits {us : List Int} (hw : us.length <= 64) : Builtin.Int.intBits (yaf us) <= 64 := ye3 (yal us) hw
theorem neg_eq (us : List Int) : (if yad us == 0 then ygg us.length (0 - yaf us) else List.replicate us.length 3) = ygj us.length (opO (· - ·) (some 0) (yao us false)) := by
 rw [ys8]
 induction c : yad us == 0 with
 | true => rw [bne, c]; rfl
 | false => rw [bne, c]; rfl
noncomputable def shO (f : List Int -> Nat -> List Int) (us : List Int) : Option Int -> List Int
 | some n => f us (min n.toNat us.length)
 | none => List.replicate us.length 3
theorem yrw (f : List Int -> Nat -> List Int) (us ns : List Int) : (if yad ns != 0 then List.replicate us.length 3 else f us (min (yaf ns).toNat us.length)) = shO f us (yao ns false) := by
 rw [ys8]
 induction yad ns != 0 <;> rfl
theorem gt_eq (a b : Option Int) (f : Int -> Int -> Bool) : cmO f b a = cmO (fun m n => f n m) a b := by induction a <;> induction b <;> rfl
set_option genCtorIdx true in
inductive Bop where
 | add | sub | mul | div | mod | and | or | xor | xnor | shl | shr | sal | sar | pow | lt | le | gt | ge | eq | ne | ceq | cne | land | lor
noncomputable def Bop.s : Bop -> Str
 | .add => "+" | .sub => "-" | .mul => "*" | .div => "/" | .mod => "%" | .and => "&" | .or => "|" | .xor => "^" | .xnor => "~^"
 | .shl => "<<" | .shr => ">>" | .sal => "<<<" | .sar => ">>>" | .pow => "**"
 | .lt => "<" | .le => "<=" | .gt => ">" | .ge => ">=" | .eq => "==" | .ne => "!=" | .ceq => "===" | .cne => "!==" | .land => "&&" | .lor => "||"
noncomputable def Bop.same : Bop -> Bool
 | .shl | .shr | .sal | .sar | .pow | .land | .lor => false
 | _ => true
noncomputable def yg8 (us vs : List Int) (sg : Bool) : Bop -> List Int
 | .add => ygj us.length (opO (· + ·) (yao us sg) (yao vs sg))
 | .sub => ygj us.length (opO (· - ·) (yao us sg) (yao vs sg))
 | .mul => ygj us.length (opO (· * ·) (yao us sg) (yao vs sg))
 | .div => ygj us.length (dvO ynd (yao us sg) (yao vs sg))
 | .mod => ygj us.length (dvO remI (yao us sg) (yao vs sg))
 | .and => List.zipWith yra us vs
 | .or => List.zipWith orC us vs
 | .xor => List.zipWith yfv us vs
 | .xnor => List.zipWith ydp us vs
 | .shl | .sal => shO yqf us (yao vs false)
 | .shr | .pow => shO (fun u n => ygk u n 0) us (yao vs false)
 | .sar => shO (fun u n => if sg then shaB u n else ygk u n 0) us (yao vs false)
 | .lt => [cmO (fun m n => decide (m < n)) (yao us sg) (yao vs sg)]
 | .le => [cmO (fun m n => decide (m <= n)) (yao us sg) (yao vs sg)]
 | .gt => [cmO (fun m n => decide (n < m)) (yao us sg) (yao vs sg)]
 | .ge => [cmO (fun m n => decide (n <= m)) (yao us sg) (yao vs sg)]
 | .eq => [ye9 (List.zipWith ydp us vs)]
 | .ne => [ygs (ye9 (List.zipWith ydp us vs))]
 | .ceq => [if us == vs then 1 else 0]
 | .cne => [if us == vs then 0 else 1]
 | .land => [yra (ydk us) (ydk vs)]
 | .lor => [orC (ydk us) (ydk vs)]
noncomputable def Bop.kind : Bop -> Nat
 | .add | .sub | .mul | .div | .mod | .shl | .shr | .sal | .sar => 0
 | .lt | .le | .gt | .ge | .eq | .ne | .ceq | .cne => 1
 | .and | .or | .xor | .xnor | .land | .lor => 2
 | .pow => 3
structure BPre (us vs : List Int) (op : Bop) : Prop where
 cu : yac us
 cv : yac vs
 hu : 1 <= us.length /\ us.length <= 64
 hv : 1 <= vs.length /\ vs.length <= 64
 hl : op.same = true -> us.length = vs.length
noncomputable def Bop.of (x : Str) : Bop := ([.add, .sub, .mul, .div, .mod, .and, .or, .xor, .xnor, .shl, .shr, .sal, .sar, .pow, .lt, .le, .gt, .ge, .eq, .ne, .ceq, .cne, .land, .lor].find? fun c => c.s == x).getD .add
theorem Bop.of_s (op : Bop) : Bop.of op.s = op := by induction op <;> rfl
theorem tst {op : Bop} (c : Bop) {A B : Prop} (hA : op = c -> A) (hB : (op.s == c.s) = false -> B) : if op.s == c.s then A else B :=
 yd0 (fun e => hA ((Bop.of_s op).symm.trans ((congrArg Bop.of (eq_of_beq e)).trans (Bop.of_s c)))) hB
theorem yjm {a b : Bool} (x : a = false) (y : b = false) : (a || b) = false := by rw [x, y]; rfl
theorem Bop.k0 (op : Bop) : (op.kind == 0) = (op.s == Bop.s .add || (op.s == Bop.s .sub || (op.s == Bop.s .mul || (op.s == Bop.s .div || (op.s == Bop.s .mod || (op.s == Bop.s .shl || (op.s == Bop.s .sal || (op.s == Bop.s .shr || op.s == Bop.s .sar)))))))) := by induction op <;> rfl
theorem Bop.k1 (op : Bop) : (op.kind == 1) = (op.s == Bop.s .lt || (op.s == Bop.s .le || (op.s == Bop.s .gt || (op.s == Bop.s .ge || (op.s == Bop.s .eq || (op.s == Bop.s .ne || (op.s == Bop.s .ceq || op.s == Bop.s .cne))))))) := by induction op <;> rfl
theorem Bop.k2 (op : Bop) : (op.kind == 2) = (op.s == Bop.s .and || (op.s == Bop.s .or || (op.s == Bop.s .xor || (op.s == Bop.s .xnor || (op.s == Bop.s .land || op.s == Bop.s .lor))))) := by induction op <;> rfl
section
variable {o : Wo} [WO : WoOk o] [W : W3 o] {k : Kx} {st : St} {Q : V -> St -> Prop} {X : Exc -> St -> Prop}
theorem arith_ {us vs : List Int} {sg : Bool} {op : Bop} (p : BPre us vs op) (hn : 6 <= k.n) (h : Q (if op.kind == 0 then yag (yg8 us vs sg op) else .none) st) : yak o k st (.ref 537) [.str op.s, yag us, yag vs, .bool sg] Q X := by
 refine cf_ ykj fun L => ?_
 obtain ⟨cu, cv, hu, hv, hl⟩ := p
 refine' tst .add (fun e => ?_) fun nadd => ?_
 . subst e
   replace h : Q (yag (ygj us.length (opO (· + ·) (yao us sg) (yao vs sg)))) st := h
   rw [<- yss (hl rfl) add_md] at h
   refine' add_ (l64 hu) (by right) ?_
   ac_rfl
 refine' tst .sub (fun e => ?_) fun nsub => ?_
 . subst e
   replace h : Q (yag (ygj us.length (opO (· - ·) (yao us sg) (yao vs sg)))) st := h
   rw [<- yss (hl rfl) sub_md] at h
   refine' sub_ (l64 hu) (by right) ?_
   ac_rfl
 refine' tst .mul (fun e => ?_) fun nmul => ?_
 . subst e
   replace h : Q (yag (ygj us.length (opO (· * ·) (yao us sg) (yao vs sg)))) st := h
   rw [<- yss (hl rfl) mul_md2] at h
   refine' mul_ (IntMulOk.of_left (low_bits hu.2)) (l64 hu) (by right) ?_
   ac_rfl
 refine' tst .div (fun e => ?_) fun ndiv => ?_
 . subst e
   refine' div_ hu hv (by right) ?_
   ac_rfl
 refine' tst .mod (fun e => ?_) fun nmod => ?_
 . subst e
   refine' mod_ hu hv (by right) ?_
   ac_rfl
 refine' tst .shl (fun e => ?_) fun nshl => ?_
 . subst e
   replace h : Q (yag (shO yqf us (yao vs false))) st := h
   rw [<- yrw] at h
   refine' yhg cu hu.2 (by right) ?_
   ac_rfl
 refine' tst .sal (fun e => ?_) fun nsal => ?_
 . subst e
   replace h : Q (yag (shO yqf us (yao vs false))) st := h
   rw [<- yrw] at h
   refine' yhg cu hu.2 (by right) ?_
   ac_rfl
 refine' tst .shr (fun e => ?_) fun nshr => ?_
 . subst e
   replace h : Q (yag (shO (fun u n => ygk u n 0) us (yao vs false))) st := h
   rw [<- yrw] at h
   refine' ydu cu hu.2 (by right) ?_
   ac_rfl
 refine' tst .sar (fun e => ?_) fun nsar => ?_
 . subst e
   replace h : Q (yag (shO (fun u n => if sg then shaB u n else ygk u n 0) us (yao vs false))) st := h
   induction sg
   . left
     refine yj5 cu hu.2 (by right) ?_
     rw [yrw (fun u n => ygk u n 0)]
     ac_rfl
   . left
     refine yj6 cu hu (by right) ?_
     rw [yrw]
     ac_rfl
 rw [(Bop.k0 op).trans (yjm nadd (yjm nsub (yjm nmul (yjm ndiv (yjm nmod (yjm nshl (yjm nsal (yjm nshr nsar))))))))] at h
 ac_rfl
theorem compare_ {us vs : List Int} {sg : Bool} {op : Bop} (p : BPre us vs op) (hn : 6 <= k.n) (h : Q (if op.kind == 1 then yag (yg8 us vs sg op) else .none) st) : yak o k st (.ref 544) [.str op.s, yag us, yag vs, .bool sg] Q X := by
 refine cf_ ykf fun L => ?_
 obtain ⟨cu, cv, hu, hv, hl⟩ := p
 refine' tst .lt (fun e => ?_) fun nlt => ?_
 . subst e
   refine' less_ hu hv (by right) ?_
   ac_rfl
 refine' tst .le (fun e => ?_) fun nle => ?_
 . subst e
   refine' yh4 hu hv (by right) ?_
   ac_rfl
 refine' tst .gt (fun e => ?_) fun ngt => ?_
 . subst e
   refine' greater_ hu hv (by right) ?_
   rw [gt_eq]
   ac_rfl
 refine' tst .ge (fun e => ?_) fun nge => ?_
 . subst e
   refine' yi7 hu hv (by right) ?_
   rw [gt_eq]
   ac_rfl
 refine' tst .eq (fun e => ?_) fun neq => ?_
 . subst e
   refine' equal_ cu cv (hl rfl) hu.2 (by right) ?_
   ac_rfl
 refine' tst .ne (fun e => ?_) fun nne => ?_
 . subst e
   refine' yqq cu cv (hl rfl) hu.2 (by right) ?_
   ac_rfl
 refine' tst .ceq (fun e => ?_) fun nceq => ?_
 . subst e
   refine' yof cu cv (hl rfl) (by right) ?_
   ac_rfl
 refine' tst .cne (fun e => ?_) fun ncne => ?_
 . subst e
   refine' yik cu cv (hl rfl) (by right) ?_
   ac_rfl
 rw [(Bop.k1 op).trans (yjm nlt (yjm nle (yjm ngt (yjm nge (yjm neq (yjm nne (yjm nceq ncne)))))))] at h
 ac_rfl
theorem bitwise_ {us vs : List Int} {sg : Bool} {op : Bop} (p : BPre us vs op) (hn : 6 <= k.n) (h : Q (if op.kind == 2 then yag (yg8 us vs sg op) else .none) st) : yak o k st (.ref 551) [.str op.s, yag us, yag vs] Q X := by
 refine cf_ yql fun L => ?_
 obtain ⟨cu, cv, hu, hv, hl⟩ := p
 refine' tst .and (fun e => ?_) fun nand => ?_
 . subst e
   refine' yp4 cu cv (hl rfl) (by right) ?_
   ac_rfl
 refine' tst .or (fun e => ?_) fun nor => ?_
 . subst e
   refine' ytr cu cv (hl rfl) hu.2 (by right) ?_
   ac_rfl
 refine' tst .xor (fun e => ?_) fun nxor => ?_
 . subst e
   refine' yp3 cu cv (hl rfl) (by right) ?_
   ac_rfl
 refine' tst .xnor (fun e => ?_) fun nxnor => ?_
 . subst e
   refine' ytq cu cv (hl rfl) hu.2 (by right) ?_
   ac_rfl
 refine' tst .land (fun e => ?_) fun nland => ?_
 . subst e
   refine' yqs cu cv hu.2 hv.2 (by right) ?_
   ac_rfl
 refine' tst .lor (fun e => ?_) fun nlor => ?_
 . subst e
   refine' yso cu cv hu.2 hv.2 (by right) ?_
   ac_rfl
 rw [(Bop.k2 op).trans (yjm nand (yjm nor (yjm nxor (yjm nxnor (yjm nland nlor)))))] at h
 ac_rfl
theorem binary_ {us vs : List Int} {sg : Bool} {op : Bop} (p : BPre us vs op) (hop : op.kind ≠ 3) (hn : 7 <= k.n) (h : Q (yag (yg8 us vs sg op)) st) : yak o k st (.ref 558) [.str op.s, yag us, yag vs, .bool sg] Q X := by
 refine cf_ yse fun L => ?_
 refine' arith_ p (by right) ?_
 induction c0 : op.kind == 0 with
 | true =>
  rw [if_pos rfl]
  ac_rfl
 | false =>
  rw [if_neg (by decide)]
  refine' compare_ p (by right) ?_
  induction c1 : op.kind == 1 with
  | true =>
   rw [if_pos rfl]
   ac_rfl
  | false =>
   rw [if_neg (by decide)]
   refine' bitwise_ (sg := sg) p (by right) ?_
   have c2 : (op.kind == 2) = true := by revert hop c0 c1; induction op <;> decide
   rw [c2, if_pos rfl]
   ac_rfl
theorem yjx {x : Int} {n : Nat} (h0 : 0 <= x) (h1 : x < 2 ^ n) : Builtin.Int.intBits x <= n := by
 rw [intBits_le_iff]
 have h2 := kbt_cast n
 right
theorem concat_ {l : Addr} {ps : List (List Int)} (hl : st l = some (.lst (ps.map yag))) (hc : ∀ p ∈ ps, yac p) (hz : (ye6 ps).length <= 2 ^ 19) (hn : 1 <= k.n) (h : Q (yag (ye6 ps)) st) : yak o k st (.ref 151) [.ptr l] Q X := by
 refine cf_ ysb fun L => ?_
 refine' ybw (fun O O => rfl) ?_
 refine' yc4 (xs := ps.map yag) (fun i loc st' => st' = st /\ loc "w" = some (.int (ye6 (ps.take i)).length) /\ loc "a" = some (.int (yaf (ye6 (ps.take i)))) /\ loc "b" = some (.int (yad (ye6 (ps.take i))))) (fun i loc st' hj => hj.1 ▸ hl) ⟨rfl, by rfl, by rfl, by rfl⟩ (fun i x loc st' Q' hx hj hq => ?_) (fun loc st' hj => ?_)
 . obtain ⟨rfl, l1, l2, l3⟩ := hj
   obtain ⟨p, hp, rfl⟩ : ∃ p, ps[i]? = some p /\ x = yag p := ycj hx
   have hcp : yac p := hc p (List.mem_of_getElem? hp)
   have et : ps.take (i + 1) = ps.take i ++ [p] := by rw [List.take_add_one, hp]; rfl
   have hlen : (ye6 (ps.take (i + 1))).length <= (ye6 ps).length := by
    have e : ye6 ps = ye6 (ps.drop (i + 1)) ++ ye6 (ps.take (i + 1)) := by
     have := List.take_append_drop (i + 1) ps
     unfold ye6
     rw [<- this, List.foldl_append, yfl]
     simp
    rw [e, List.length_append]; right
   rw [et, yih] at hlen
   rw [List.length_append] at hlen
   have hct : yac (ye6 (ps.take i)) := yga fun q hq => hc q (List.mem_of_mem_take hq)
   have b1 := yal (ye6 (ps.take i))
   have b2 := yap _ hct
   have s1 := yjx b1.1 b1.2
   have s2 := yjx b2.1 b2.2
   first | refine ybf _ (yaa l1 (yaa l2 (yaa l3 yaj))) ?_ | refine yat _ (yaa l1 (yaa l2 (yaa l3 yaj))) ?_
   refine' yb8 (by right) (by right) ?_
   rw [Int.toNat_natCast]
   left
   rw [yne b1.1 (yal p).1 (yal p).2]
   refine yb8 (by right) (by right) ?_
   rw [Int.toNat_natCast]
   left
   rw [yne b2.1 (yap p hcp).1 (yap p hcp).2]
   refine hq _ _ _ ?_
   show _ /\ _
   rw [et, yih, ybj, ya4, List.length_append]
   refine ⟨rfl, ?_, ?_, ?_⟩
   . show some _ = some _; congr 2; right
   . show some _ = some _; congr 2; rw [Int.mul_comm]; right
   . show some _ = some _; congr 2; rw [Int.mul_comm]; right
 . obtain ⟨rfl, l1, l2, l3⟩ := hj
   rw [List.length_map, List.take_length] at l1 l2 l3
   first | refine ybf _ (yaa l1 (yaa l2 (yaa l3 yaj))) ?_ | refine yat _ (yaa l1 (yaa l2 (yaa l3 yaj))) ?_
   left
   symm
   exact h
end
theorem l64' {n : Nat} (h : n <= 64) : n <= 2 ^ 19 := Nat.le_trans h (by decide)
theorem l20 {n : Nat} (h : n <= 64) : n <= 2 ^ 20 := Nat.le_trans h (by decide)
set_option genCtorIdx true in
inductive Uop where
 | plus | neg | inv | lnot | rand | ror | rxor | rnand | rnor | rxnor
noncomputable def Uop.s : Uop -> Str
 | .plus => "+" | .neg => "-" | .inv => "~" | .lnot => "!" | .rand => "&" | .ror => "|" | .rxor => "^" | .rnand => "~&" | .rnor => "~|" | .rxnor => "~^"
noncomputable def redC (us : List Int) : Uop -> Int
 | .lnot | .rnor => ygs (ydk us)
 | .rand => ye9 us
 | .rnand => ygs (ye9 us)
 | .rxor => ylr us
 | .rxnor => ygs (ylr us)
 | _ => ydk us
noncomputable def unC (us : List Int) : Uop -> List Int
 | .plus => us
 | .neg => ygj us.length (opO (· - ·) (some 0) (yao us false))
 | .inv => us.map ygs
 | op => [redC us op]
section
variable {o : Wo} [WO : WoOk o] [W : W3 o] {k : Kx} {st : St} {Q : V -> St -> Prop} {X : Exc -> St -> Prop}
theorem unary_ {us : List Int} {op : Uop} (cu : yac us) (hu : us.length <= 64) (hop : op ≠ .plus) (hn : 5 <= k.n) (h : Q (yag (unC us op)) st) : yak o k st (.ref 530) [.str op.s, yag us] Q X := by
 refine cf_ ok_unary fun L => ?_
 have hl := Nat.le_trans hu (show 64 <= 2 ^ 19 by decide)
 induction op
 case plus => exact absurd rfl hop
 case neg =>
  refine' neg_ hl (by right) ?_
  rw [neg_eq]
  ac_rfl
 all_goals
  left
  first
  | refine ydj cu hu (by right) ?_
  | refine yqr cu hu (by right) ?_
  | refine yhk cu hu (by right) ?_
  | refine yjk cu hu (by right) ?_
  | refine yhj cu hu (by right) ?_
  | refine ylq cu hu (by right) ?_
  | refine ync cu hu (by right) ?_
  | refine ylp cu hu (by right) ?_
  ac_rfl
def yc7 (o : Wo) (st : St) (n : Nat) (cx e r : V) : Prop := ∀ (k : Kx) (Q : V -> St -> Prop) (X : Exc -> St -> Prop), n <= k.n -> Q r st -> yak o k st (.ref 605) [e, cx] Q X
theorem ype {bs : List Int} {cx : V} : yc7 o st 1 cx (yew bs) (yag bs) := fun k Q X hn h => ytv hn h
theorem yc7.mono {n m : Nat} {cx e r : V} (h : yc7 o st n cx e r) (hm : n <= m) : yc7 o st m cx e r := fun k Q X hn => h k Q X (Nat.le_trans hm hn)
variable {cx : V} {n : Nat}
theorem nd_un {us : List Int} {op : Uop} {w e : V} (he : yc7 o st n cx e (yag us)) (cu : yac us) (hu : us.length <= 64) (hop : op ≠ .plus) : yc7 o st (n + 6) cx (.tup [.str "un", w, .str op.s, e]) (yag (unC us op)) := fun k Q X hn h => by
 refine cf_ ya1 fun L => ?_
 refine' he _ _ _ (by right) ?_
 refine' unary_ cu hu hop (by right) ?_
 ac_rfl
theorem nd_bin {us vs : List Int} {op : Bop} {sg : Bool} {w u v : V} (hu : yc7 o st n cx u (yag us)) (hv : yc7 o st n cx v (yag vs)) (p : BPre us vs op) (hop : op.kind ≠ 3) : yc7 o st (n + 8) cx (.tup [.str "bin", w, .str op.s, u, v, .bool sg]) (yag (yg8 us vs sg op)) := fun k Q X hn h => by
 refine cf_ ya1 fun L => ?_
 refine' hu _ _ _ (by right) ?_
 refine' hv _ _ _ (by right) ?_
 refine' binary_ p hop (by right) ?_
 ac_rfl
theorem nd_pow {us vs : List Int} {s1 s2 : Bool} {w u v : V} (hu : yc7 o st n cx u (yag us)) (hv : yc7 o st n cx v (yag vs)) (lu : 1 <= us.length /\ us.length <= 64) (lv : 1 <= vs.length /\ vs.length <= 64) : yc7 o st (n + 5) cx (.tup [.str "pow", w, u, v, .bool s1, .bool s2]) (yag (ygj us.length (powO us.length (yao us s1) (yao vs s2)))) := fun k Q X hn h => by
 refine cf_ ya1 fun L => ?_
 refine' hu _ _ _ (by right) ?_
 refine' hv _ _ _ (by right) ?_
 refine' power_ lu lv (by right) ?_
 ac_rfl
theorem nd_ext {bs : List Int} {e : V} {w : Nat} {sg : Bool} (he : yc7 o st n cx e (yag bs)) (hc : yac bs) (hl : 1 <= bs.length /\ bs.length <= 64) (hw : w <= 64) : yc7 o st (n + 5) cx (.tup [.str "ext", .int w, e, .bool sg]) (yag (ycu bs sg w)) := fun k Q X hn h => by
 refine cf_ ya1 fun L => ?_
 refine' he _ _ _ (by right) ?_
 refine' yk0 hc (List.ne_nil_of_length_pos hl.1) (Nat.le_trans hl.2 (by decide)) (Nat.le_trans hw (by decide)) (by right) ?_
 ac_rfl
theorem nd_slice {bs : List Int} {e : V} {lo : Int} {w : Nat} (he : yc7 o st n cx e (yag bs)) (hc : yac bs) (hl : 1 <= bs.length /\ bs.length <= 64) (hw : 1 <= w /\ w <= 64) : yc7 o st (n + 5) cx (.tup [.str "slice", .int w, e, .int lo]) (yag (ybq bs lo w)) := fun k Q X hn h => by
 refine cf_ ya1 fun L => ?_
 refine' he _ _ _ (by right) ?_
 refine' slice_ hc ⟨hl.1, l64 hl⟩ ⟨hw.1, l64' hw.2⟩ (by right) ?_
 ac_rfl
theorem yrf {bs : List Int} {e : V} {sg : Bool} (he : yc7 o st n cx e (yag bs)) (hl : 1 <= bs.length /\ bs.length <= 64) (hn : n + 3 <= k.n) (h : Q (yq8 (yao bs sg)) st) : yak o k st (.ref 565) [e, .bool sg, cx] Q X := by
 refine cf_ ynk fun L => ?_
 refine' he _ _ _ (by right) ?_
 refine' ybs hl (by right) ?_
 ac_rfl
noncomputable def selB (bs : List Int) (b : Int) (w : Nat) : Option Int -> List Int
 | some x => ybq bs (x - b) w
 | none => List.replicate w 3
theorem nd_pick {bs is : List Int} {e i : V} {b : Int} {sg : Bool} {w : Nat} (he : yc7 o st n cx e (yag bs)) (hi : yc7 o st n cx i (yag is)) (hc : yac bs) (hl : 1 <= bs.length /\ bs.length <= 64) (hil : 1 <= is.length /\ is.length <= 64) (hw : 1 <= w /\ w <= 64) :
 yc7 o st (n + 8) cx (.tup [.str "pick", .int w, e, i, .bool sg, .int b, .int 1]) (yag (selB bs b w (yao is sg))) := fun k Q X hn h => by
 refine cf_ ya1 fun L => ?_
 refine' yil yr7 (by show 1 <= k.n - 1; right) (by rfl) fun L2 => ?_
 refine' he _ _ _ (by right) ?_
 refine' yrf hi hil (by right) ?_
 induction e1 : yao is sg with
 | none =>
  rw [e1] at h
  refine' ymt (by right) (l20 hw.2) ?_
  rw [<- yrk]
  left
  symm
  ac_rfl
 | some x =>
  rw [e1] at h
  refine' yav (IntMulOk.of_right (by decide)) ?_
  left
  rw [Int.mul_one]
  refine slice_ hc ⟨hl.1, l64 hl⟩ ⟨hw.1, l64' hw.2⟩ (by right) ?_
  left
  symm
  ac_rfl
theorem nd_cond {cs ts fs : List Int} {w c t f : V} (hc : yc7 o st n cx c (yag cs)) (ht : yc7 o st n cx t (yag ts)) (hf : yc7 o st n cx f (yag fs)) (cc : yac cs) (ct : yac ts) (cf : yac fs) (lc : cs.length <= 64) (lt : ts.length <= 64) (hl : ts.length = fs.length) : yc7 o st (n + 6) cx (.tup [.str "cond", w, c, t, f]) (yag (yb1 (ydk cs) ts fs)) := fun k Q X hn h => by
 refine cf_ ya1 fun L => ?_
 refine' yil yiz (by show 1 <= k.n - 1; right) (by rfl) fun L2 => ?_
 refine' hc _ _ _ (by right) ?_
 refine' ygf cc lc (by right) ?_
 have hq := yd8 cs
 have hh : Q (yag (yb1 (ydk cs) ts fs)) st := h
 rw [yb1] at h
 generalize hq2 : ydk cs = q at h hq ⊢
 rcases hq with e | e | e <;> subst e
 . rw [if_pos (by decide)] at h
   refine' ht _ _ _ (by right) ?_
   left
   symm
   ac_rfl
 . rw [if_neg (by decide), if_pos (by decide)] at h
   refine' hf _ _ _ (by right) ?_
   left
   symm
   ac_rfl
 . left
   refine ht _ _ _ (by right) ?_
   refine' hf _ _ _ (by right) ?_
   refine' choose_ cc lc ct cf hl lt (by right) ?_
   left
   symm
   ac_rfl
class inductive EvAll (o : Wo) (st : St) (n : Nat) (cx : V) : List V -> List (List Int) -> Prop
 | nil : EvAll o st n cx [] []
 | cons {e : V} {es : List V} {b : List Int} {bs : List (List Int)} : (∀ st', St.le st st' -> yc7 o st' n cx e (yag b)) -> EvAll o st n cx es bs -> EvAll o st n cx (e :: es) (b :: bs)
theorem EvAll.len {es : List V} {bs : List (List Int)} (h : EvAll o st n cx es bs) : es.length = bs.length := by
 induction h with
 | nil => rfl
 | cons _ _ ih => rw [List.length_cons, List.length_cons, ih]
theorem EvAll.get {es : List V} {bs : List (List Int)} (h : EvAll o st n cx es bs) : ∀ {i : Nat} {v : V}, es[i]? = some v -> ∃ b, bs[i]? = some b /\ ∀ st', St.le st st' -> yc7 o st' n cx v (yag b) := by
 induction h with
 | nil => intro i v h; cases h
 | cons a _ ih =>
  intro i v h
  induction i with
  | zero => cases h; exact ⟨_, rfl, a⟩
  | succ i => exact ih (i := i) h
theorem nd_cat {es : List V} {ps : List (List Int)} {w : V} (he : EvAll o st n cx es ps) (hc : ∀ p ∈ ps, yac p) (hl : ps.length <= 1000) (hz : (ye6 ps).length <= 2 ^ 19) : yc7 o st (n + 4) cx (.tup [.str "cat", w, .tup es]) (yag (ye6 ps)) := fun k Q X hn h => by
 have hz' : sizeLine >= 10000 := by decide
 have hel := he.len
 refine cf_ ya1 fun L => ?_
 refine' ye4 _ (fun O O => rfl) (by rfl) (by rfl) ?_
 refine' yid (fun i vs st' => st' = st /\ vs = (ps.take i).map yag) (by rfl) (by rfl) (by right) ⟨rfl, rfl⟩ (fun i v ys st' D C hx hj hD => ?_) (fun ys st' D hj hl' hD => ?_)
 . obtain ⟨rfl, rfl⟩ := hj
   obtain ⟨p, hp, hev⟩ := he.get hx
   have et : ps.take (i + 1) = ps.take i ++ [p] := by rw [List.take_add_one, hp]; rfl
   refine' hev _ (St.le_set (St.le_refl _) hD) _ _ _ (by right) ?_
   exact ⟨_, rfl, hD, rfl, by rw [et, List.map_append]; rfl⟩
 . obtain ⟨rfl, rfl⟩ := hj
   rw [hel, List.take_length]
   refine' concat_ (St.set_same ..) hc hz (by right) ?_
   left
   exact ⟨_, St.le_set (St.le_refl _) hD, h⟩
end
inductive Md (o : Wo) (st : St) (n : Nat) (cx : V) (bs : List Int) : V -> Prop
 | c : Md o st n cx bs (yew bs)
 | x (t : Str) (vs : List V) (ht : (t == Str.ofString "const") = false) (ev : ∀ st', St.le st st' -> yc7 o st' n cx (.tup (.str t :: .int bs.length :: vs)) (yag bs)) : Md o st n cx bs (.tup (.str t :: .int bs.length :: vs))
class inductive MdAll (o : Wo) (st : St) (n : Nat) (cx : V) : List V -> List (List Int) -> Prop
 | nil : MdAll o st n cx [] []
 | cons {e : V} {es : List V} {b : List Int} {bs : List (List Int)} : Md o st n cx b e -> MdAll o st n cx es bs -> MdAll o st n cx (e :: es) (b :: bs)
section
variable {o : Wo} [WO : WoOk o] [W : W3 o] {k : Kx} {st : St} {Q : V -> St -> Prop} {X : Exc -> St -> Prop} {cx : V} {n : Nat}
theorem St.le_trans {a b c : St} (h : St.le a b) (h' : St.le b c) : St.le a c := fun x => (h x).elim .inl fun e => (h' x).elim (fun q => .inl (e.trans q)) fun q => .inr (e.trans q)
theorem Md.ev {bs : List Int} {v : V} (h : Md o st n cx bs v) (hn : 1 <= n) : ∀ st', St.le st st' -> yc7 o st' n cx v (yag bs) := by
 induction h with
 | c => exact fun st' O => ype.mono hn
 | x t vs ht ev => exact ev
theorem Md.mono {bs : List Int} {v : V} {m : Nat} (h : Md o st n cx bs v) (hn : n <= m) : Md o st m cx bs v := by
 induction h with
 | c => exact .c
 | x t vs ht ev => exact .x t vs ht fun st' hs => (ev st' hs).mono hn
theorem MdAll.ev {es : List V} {bs : List (List Int)} (h : MdAll o st n cx es bs) (hn : 1 <= n) : ∀ st', St.le st st' -> EvAll o st' n cx es bs := fun st' hs => by
 induction h with
 | nil => exact .nil
 | cons a _ ih => exact .cons (fun st'' h' => a.ev hn st'' (St.le_trans hs h')) ih
def IsC (v : V) : Prop := ∃ b, v = yew b
theorem MdAll.con {es : List V} {bs : List (List Int)} (h : MdAll o st n cx es bs) (hc : ∀ e ∈ es, IsC e) {m : Nat} {cx' : V} {st' : St} : EvAll o st' (m + 1) cx' es bs := by
 induction h with
 | nil => exact .nil
 | cons a _ ih =>
  refine .cons (fun st'' O => ?_) (ih fun e he => hc e (.tail _ he))
  induction a with
  | c => exact ype.mono (Nat.le_add_left _ _)
  | x t vs ht ev =>
   obtain ⟨b, e⟩ := hc _ (.head _)
   unfold yew at e
   injection e with e
   injection e with e1 _
   injection e1 with e1
   rw [e1] at ht; cases ht
inductive Kid : V -> Prop
 | c (b : List Int) : Kid (yew b)
 | x (t : Str) (vs : List V) (ht : (t == Str.ofString "const") = false) : Kid (.tup (.str t :: vs))
theorem MdAll.kid {es : List V} {bs : List (List Int)} (h : MdAll o st n cx es bs) : ∀ e ∈ es, Kid e := by
 induction h with
 | nil => exact fun O h => nomatch h
 | cons a _ ih =>
  intro e he
  cases he with
  | head => induction a with
   | c => exact .c _
   | x t vs ht ev => exact .x _ _ ht
  | tail _ he => exact ih e he
theorem yd2 {st0 : St} {t : Str} {vs cs : List V} {bss : List (List Int)} {bs : List Int} (hz : cs.length <= 1000) (ht : (t == Str.ofString "const") = false) (ht2 : (t == Str.ofString "sys") = false) (ht3 : ((["un", "bin", "pow", "cond", "cat", "slice", "pick", "ext"] : List Str).any fun y => y == t) = true)
 (hch : ∀ (k : Kx) (Q : V -> St -> Prop) (X : Exc -> St -> Prop), 1 <= k.n -> Q (.tup cs) st -> yak o k st (.ref 735) [.tup (.str t :: .int bs.length :: vs)] Q X)
 (kids : MdAll o st0 n cx cs bss) (h1 : 1 <= n) (hev : ∀ cx' n' st', EvAll o st' n' cx' cs bss -> yc7 o st' (n' + 8) cx' (.tup (.str t :: .int bs.length :: vs)) (yag bs)) (hn : 12 <= k.n)
 (h : ∀ v, Md o st0 (n + 8) cx bs v -> Q v st) : yak o k st (.ref 857) [.tup (.str t :: .int bs.length :: vs)] Q X := by
 refine cf_ yr8 fun L => ?_
 refine' yil ok_folds (by show 1 <= k.n - 1; right) (by rfl) fun L2 => ?_
 refine' ya2 ht2 ?_
 left
 rw [ht3]
 left
 symm
 refine' ybw (fun O O => rfl) ?_
 refine' hch _ _ _ (by show 1 <= k.n - 1; right) ?_
 refine yd1 (fun i loc st' => st' = st /\ loc "e" = some (.tup (.str t :: .int bs.length :: vs)) /\ ∀ c ∈ cs.take i, IsC c) ⟨rfl, by rfl, fun O h => nomatch h⟩ (fun i x loc st' Q' hx' hj hq => ?_) (fun loc st' hj => ?_)
 . obtain ⟨rfl, l1, hj⟩ := hj
   refine ybf _ (yaa l1 yaj) ?_
   have hk := kids.kid x (List.mem_of_getElem? hx')
   have et : cs.take (i + 1) = cs.take i ++ [x] := by rw [List.take_add_one, hx']; rfl
   induction hk with
   | c b =>
    unfold yew at hx' et ⊢
    refine' hq _ _ _ ?_
    refine ⟨rfl, by rfl, fun c hc => ?_⟩
    rw [et] at hc
    rcases List.mem_append.mp hc with hc | hc
    . exact hj c hc
    . rw [List.mem_singleton.mp hc]; exact ⟨b, rfl⟩
   | x t' vs' ht' =>
    refine' Ja.qj (congrArg Bool.not ht') ?_
    refine' hq _ _ _ ?_
    exact ⟨_, St.le_refl _, h _ (.x t vs ht fun st' hs => hev _ _ _ (kids.ev h1 st' hs))⟩
 . obtain ⟨rfl, l1, hj⟩ := hj
   rw [List.take_length] at hj
   refine yat _ (yaa l1 yaj) ?_
   left
   intro a1 ha1
   refine' Store_ (by right) fun x dx v m hdx => ?_
   left
   intro a2 ha2
   refine' ymw (by right) fun y dy hdy => ?_
   refine' hev _ _ _ (kids.con hj (m := 0)) _ _ _ (by show _ <= k.n - 1; right) ?_
   unfold yag
   left
   exact ⟨_, St.le_set (St.le_set (St.le_set (St.le_set (St.le_refl _) ha1) (yab hdx)) (yab (yab ha2))) (yab (yab (yab hdy))), h _ .c⟩
end
def FoOk (o : Wo) (st0 : St) (n : Nat) (cx e : V) (bs : List Int) : Prop := ∀ (st : St) (k : Kx) (Q : V -> St -> Prop) (X : Exc -> St -> Prop), 12 <= k.n -> (∀ v, Md o st0 n cx bs v -> Q v st) -> yak o k st (.ref 857) [e] Q X
section
variable {o : Wo} [WO : WoOk o] [W : W3 o] {st : St} {cx : V} {n : Nat}
theorem EvAll.one {o : Wo} {st : St} {cx : V} {n : Nat} {u : V} {b : List Int} (h : EvAll o st n cx [u] [b]) : yc7 o st n cx u (yag b) := by cases h with | cons a _ => exact a st (St.le_refl _)
theorem EvAll.two {o : Wo} {st : St} {cx : V} {n : Nat} {u v : V} {b c : List Int} (h : EvAll o st n cx [u, v] [b, c]) : yc7 o st n cx u (yag b) /\ yc7 o st n cx v (yag c) := by cases h with | cons a r => exact ⟨a st (St.le_refl _), r.one⟩
theorem EvAll.three {o : Wo} {st : St} {cx : V} {n : Nat} {u v w : V} {b c d : List Int} (h : EvAll o st n cx [u, v, w] [b, c, d]) : yc7 o st n cx u (yag b) /\ yc7 o st n cx v (yag c) /\ yc7 o st n cx w (yag d) := by cases h with | cons a r => exact ⟨a st (St.le_refl _), r.two⟩
theorem fo_un {us : List Int} {op : Uop} {e : V} {w : Nat} (he : Md o st n cx us e) (h1 : 1 <= n) (cu : yac us) (hu : us.length <= 64) (hop : op ≠ .plus) (hw : (unC us op).length = w) : FoOk o st (n + 8) cx (.tup [.str "un", .int w, .str op.s, e]) (unC us op) := fun st k Q X hn h => by
 subst hw
 exact yd2 (cs := [e]) (bss := [us]) (Nat.le_of_ble_eq_true (by rfl)) (by rfl) (by rfl) (by rfl) (fun k Q X hn h => by
  refine cf_ ybi fun L => ?_
  ac_rfl) (.cons he .nil) h1 (fun cx' n' st' ha => (nd_un ha.one cu hu hop).mono (Nat.add_le_add_left (by decide) _)) hn h
theorem ypt {us vs : List Int} {op : Bop} {sg : Bool} {u v : V} {w : Nat} (hu : Md o st n cx us u) (hv : Md o st n cx vs v) (h1 : 1 <= n) (p : BPre us vs op) (hop : op.kind ≠ 3) (hw : (yg8 us vs sg op).length = w) : FoOk o st (n + 8) cx (.tup [.str "bin", .int w, .str op.s, u, v, .bool sg]) (yg8 us vs sg op) := fun st k Q X hn h => by
 subst hw
 exact yd2 (cs := [u, v]) (bss := [us, vs]) (Nat.le_of_ble_eq_true (by rfl)) (by rfl) (by rfl) (by rfl) (fun k Q X hn h => by
  refine cf_ ybi fun L => ?_
  ac_rfl) (.cons hu (.cons hv .nil)) h1 (fun cx' n' st' ha => nd_bin ha.two.1 ha.two.2 p hop) hn h
theorem yg5 (w : Nat) (x : Option Int) : (ygj w x).length = w := by induction x; exact List.length_replicate; exact ya0 _ _
theorem fo_pow {us vs : List Int} {s1 s2 : Bool} {u v : V} (hu : Md o st n cx us u) (hv : Md o st n cx vs v) (h1 : 1 <= n) (lu : 1 <= us.length /\ us.length <= 64) (lv : 1 <= vs.length /\ vs.length <= 64) : FoOk o st (n + 8) cx (.tup [.str "pow", .int us.length, u, v, .bool s1, .bool s2]) (ygj us.length (powO us.length (yao us s1) (yao vs s2))) := fun st k Q X hn h => by
 have hw := yg5 us.length (powO us.length (yao us s1) (yao vs s2))
 have e : V.int (us.length : Int) = .int ((ygj us.length (powO us.length (yao us s1) (yao vs s2))).length : Int) := by rw [hw]
 rw [e]
 exact yd2 (cs := [u, v]) (bss := [us, vs]) (Nat.le_of_ble_eq_true (by rfl)) (by rfl) (by rfl) (by rfl) (fun k Q X hn h => by
  refine cf_ ybi fun L => ?_
  ac_rfl) (.cons hu (.cons hv .nil)) h1 (fun cx' n' st' ha => (nd_pow ha.two.1 ha.two.2 lu lv).mono (Nat.add_le_add_left (by decide) _)) hn h
theorem fo_ext {bs : List Int} {e : V} {w : Nat} {sg : Bool} (he : Md o st n cx bs e) (h1 : 1 <= n) (hc : yac bs) (hl : 1 <= bs.length /\ bs.length <= 64) (hw : w <= 64) : FoOk o st (n + 8) cx (.tup [.str "ext", .int w, e, .bool sg]) (ycu bs sg w) := fun st k Q X hn h => by
 have e9 : V.int (w : Int) = .int ((ycu bs sg w).length : Int) := by rw [yeg]
 have hev : ∀ cx' n' st', EvAll o st' n' cx' [e] [bs] -> yc7 o st' (n' + 8) cx' (.tup [.str "ext", .int w, e, .bool sg]) (yag (ycu bs sg w)) := fun cx' n' st' ha => (nd_ext ha.one hc hl hw).mono (Nat.add_le_add_left (by decide) _)
 rw [e9] at hev ⊢
 exact yd2 (cs := [e]) (bss := [bs]) (Nat.le_of_ble_eq_true (by rfl)) (by rfl) (by rfl) (by rfl) (fun k Q X hn h => by
  refine cf_ ybi fun L => ?_
  ac_rfl) (.cons he .nil) h1 hev hn h
theorem yps {bs : List Int} {e : V} {lo : Int} {w : Nat} (he : Md o st n cx bs e) (h1 : 1 <= n) (hc : yac bs) (hl : 1 <= bs.length /\ bs.length <= 64) (hw : 1 <= w /\ w <= 64) : FoOk o st (n + 8) cx (.tup [.str "slice", .int w, e, .int lo]) (ybq bs lo w) := fun st k Q X hn h => by
 have e9 : V.int (w : Int) = .int ((ybq bs lo w).length : Int) := by rw [ycx]
 have hev : ∀ cx' n' st', EvAll o st' n' cx' [e] [bs] -> yc7 o st' (n' + 8) cx' (.tup [.str "slice", .int w, e, .int lo]) (yag (ybq bs lo w)) := fun cx' n' st' ha => (nd_slice ha.one hc hl hw).mono (Nat.add_le_add_left (by decide) _)
 rw [e9] at hev ⊢
 exact yd2 (cs := [e]) (bss := [bs]) (Nat.le_of_ble_eq_true (by rfl)) (by rfl) (by rfl) (by rfl) (fun k Q X hn h => by
  refine cf_ ybi fun L => ?_
  ac_rfl) (.cons he .nil) h1 hev hn h
theorem ye8 (bs : List Int) (b : Int) (w : Nat) (x : Option Int) : (selB bs b w x).length = w := by induction x; exact List.length_replicate; exact ycx _ _ _
theorem fo_pick {bs is : List Int} {e i : V} {b : Int} {sg : Bool} {w : Nat} (he : Md o st n cx bs e) (hi : Md o st n cx is i) (h1 : 1 <= n) (hc : yac bs) (hl : 1 <= bs.length /\ bs.length <= 64) (hil : 1 <= is.length /\ is.length <= 64) (hw : 1 <= w /\ w <= 64) : FoOk o st (n + 8) cx (.tup [.str "pick", .int w, e, i, .bool sg, .int b, .int 1]) (selB bs b w (yao is sg)) := fun st k Q X hn h => by
 have e9 : V.int (w : Int) = .int ((selB bs b w (yao is sg)).length : Int) := by rw [ye8]
 have hev : ∀ cx' n' st', EvAll o st' n' cx' [e, i] [bs, is] -> yc7 o st' (n' + 8) cx' (.tup [.str "pick", .int w, e, i, .bool sg, .int b, .int 1]) (yag (selB bs b w (yao is sg))) := fun cx' n' st' ha => nd_pick ha.two.1 ha.two.2 hc hl hil hw
 rw [e9] at hev ⊢
 exact yd2 (cs := [e, i]) (bss := [bs, is]) (Nat.le_of_ble_eq_true (by rfl)) (by rfl) (by rfl) (by rfl) (fun k Q X hn h => by
  refine cf_ ybi fun L => ?_
  ac_rfl) (.cons he (.cons hi .nil)) h1 hev hn h
theorem fo_cond {cs ts fs : List Int} {c t f : V} {w : Nat} (hc : Md o st n cx cs c) (ht : Md o st n cx ts t) (hf : Md o st n cx fs f) (h1 : 1 <= n) (cc : yac cs) (ct : yac ts) (cf : yac fs) (lc : cs.length <= 64) (lt : ts.length <= 64) (hl : ts.length = fs.length) (hw : (yb1 (ydk cs) ts fs).length = w) : FoOk o st (n + 8) cx (.tup [.str "cond", .int w, c, t, f]) (yb1 (ydk cs) ts fs) := fun st k Q X hn h => by
 subst hw
 exact yd2 (cs := [c, t, f]) (bss := [cs, ts, fs]) (Nat.le_of_ble_eq_true (by rfl)) (by rfl) (by rfl) (by rfl) (fun k Q X hn h => by
  refine cf_ ybi fun L => ?_
  ac_rfl) (.cons hc (.cons ht (.cons hf .nil))) h1 (fun cx' n' st' ha => (nd_cond ha.three.1 ha.three.2.1 ha.three.2.2 cc ct cf lc lt hl).mono (Nat.add_le_add_left (by decide) _)) hn h
theorem fo_cat {es : List V} {ps : List (List Int)} {w : Nat} (he : MdAll o st n cx es ps) (h1 : 1 <= n) (hc : ∀ p ∈ ps, yac p) (hl : ps.length <= 1000) (hl2 : es.length <= 1000) (hz : (ye6 ps).length <= 64) (hw : (ye6 ps).length = w) : FoOk o st (n + 8) cx (.tup [.str "cat", .int w, .tup es]) (ye6 ps) := fun st k Q X hn h => by
 subst hw
 exact yd2 (cs := es) (bss := ps) hl2 (by rfl) (by rfl) (by rfl) (fun k Q X hn h => by
  refine cf_ ybi fun L => ?_
  ac_rfl) he h1 (fun cx' n' st' ha => (nd_cat ha hc hl (l64' hz)).mono (Nat.add_le_add_left (by decide) _)) hn h
end
inductive Leaf where
 | num (bs : List Int) (sg szd : Bool)
 | id (j : Nat)
inductive Src where
 | leaf (l : Leaf)
 | index (j : Nat) (i : Src)
 | part (j : Nat) (lo : Int) (w : Nat)
 | upd (up : Bool) (j : Nat) (i : Src) (w : Nat)
 | un (op : Uop) (e : Src)
 | cat (ps : List Leaf)
 | rep (n : Nat) (ps : List Leaf)
 | sys (sg : Bool) (e : Src)
 | cond (a b c : Src)
 | bin (op : Bop) (l r : Src)
set_option genCtorIdx true in
inductive Cls where
 | ctx | sh | pw | cm | lo
noncomputable def Bop.cls : Bop -> Cls
 | .add | .sub | .mul | .div | .mod | .and | .or | .xor | .xnor => .ctx
 | .shl | .shr | .sal | .sar => .sh
 | .pow => .pw
 | .land | .lor => .lo
 | _ => .cm
set_option genCtorIdx true in
inductive Uc where
 | id | ctx | red
noncomputable def Uop.cls : Uop -> Uc
 | .plus => .id
 | .neg | .inv => .ctx
 | _ => .red
structure Gm where
 bs : Nat -> List Int
 sg : Nat -> Bool
noncomputable abbrev Ty := Nat × Bool
noncomputable def Ty.both (a b : Ty) : Ty := (max a.1 b.1, a.2 && b.2)
noncomputable def Leaf.typ (G : Gm) : Leaf -> Ty
 | .num bs sg _ => (bs.length, sg)
 | .id j => ((G.bs j).length, G.sg j)
noncomputable def Leaf.val (G : Gm) (w : Nat) (s : Bool) : Leaf -> List Int
 | .num bs _ szd => ycu bs (ygi bs s szd) w
 | .id j => ycu (G.bs j) s w
noncomputable def Leaf.alone (G : Gm) (l : Leaf) : List Int := l.val G (l.typ G).1 (l.typ G).2
noncomputable def yfs (G : Gm) : List Leaf -> Nat
 | [] => 0
 | p :: r => (p.typ G).1 + yfs G r
noncomputable def Src.typ (G : Gm) : Src -> Ty
 | .leaf l => l.typ G
 | .index .. => (1, false)
 | .part _ _ w => (w, false)
 | .upd _ _ _ w => (w, false)
 | .un op e => match op.cls with
  | .red => (1, false)
  | _ => e.typ G
 | .cat ps => (yfs G ps, false)
 | .rep n ps => (n * yfs G ps, false)
 | .sys sg e => ((e.typ G).1, sg)
 | .cond _ b c => (b.typ G).both (c.typ G)
 | .bin op l r => match op.cls with
  | .ctx => (l.typ G).both (r.typ G)
  | .sh => l.typ G
  | .pw => l.typ G
  | _ => (1, false)
noncomputable def yg7 (G : Gm) (ps : List Leaf) : List Int := ye6 (ps.map (Leaf.alone G))
noncomputable def Src.val (G : Gm) : Src -> Nat -> Bool -> List Int
 | .leaf l, w, s => l.val G w s
 | .index j i, w, s => ycu (selB (G.bs j) 0 1 (yao (i.val G (i.typ G).1 (i.typ G).2) (i.typ G).2)) s w
 | .part j lo n, w, s => ycu (ybq (G.bs j) lo n) s w
 | .upd up j i n, w, s => ycu (selB (G.bs j) (if up then 0 else (n : Int) - 1) n (yao (i.val G (i.typ G).1 (i.typ G).2) (i.typ G).2)) s w
 | .un op e, w, s => match op.cls with
  | .id => e.val G w s
  | .ctx => unC (e.val G w s) op
  | .red => ycu (unC (e.val G (e.typ G).1 (e.typ G).2) op) false w
 | .cat ps, w, s => ycu (yg7 G ps) s w
 | .rep n ps, w, s => ycu (List.replicate n (yg7 G ps)).flatten s w
 | .sys _ e, w, s => ycu (e.val G (e.typ G).1 (e.typ G).2) s w
 | .cond a b c, w, s => yb1 (ydk (a.val G (a.typ G).1 (a.typ G).2)) (b.val G w s) (c.val G w s)
 | .bin op l r, w, s => match op.cls with
  | .ctx => yg8 (l.val G w s) (r.val G w s) s op
  | .sh => yg8 (l.val G w s) (r.val G (r.typ G).1 (r.typ G).2) s op
  | .pw => ygj w (powO w (yao (l.val G w s) s) (yao (r.val G (r.typ G).1 (r.typ G).2) (r.typ G).2))
  | .lo => ycu (yg8 (l.val G (l.typ G).1 (l.typ G).2) (r.val G (r.typ G).1 (r.typ G).2) false op) false w
  | .cm => ycu (yg8 (l.val G ((l.typ G).both (r.typ G)).1 ((l.typ G).both (r.typ G)).2) (r.val G ((l.typ G).both (r.typ G)).1 ((l.typ G).both (r.typ G)).2) ((l.typ G).both (r.typ G)).2 op) false w
theorem yrl {G : Gm} {op : Uop} {e : Src} : (Src.un op e).typ G = match op.cls with
 | .red => (1, false)
 | _ => e.typ G := rfl
theorem ym4 {G : Gm} {op : Bop} {l r : Src} : (Src.bin op l r).typ G = match op.cls with
 | .ctx => (l.typ G).both (r.typ G)
 | .sh => l.typ G
 | .pw => l.typ G
 | _ => (1, false) := rfl
theorem val_un {G : Gm} {op : Uop} {e : Src} {w : Nat} {s : Bool} : (Src.un op e).val G w s = match op.cls with
 | .id => e.val G w s
 | .ctx => unC (e.val G w s) op
 | .red => ycu (unC (e.val G (e.typ G).1 (e.typ G).2) op) false w := rfl
theorem ym2 {G : Gm} {op : Bop} {l r : Src} {w : Nat} {s : Bool} : (Src.bin op l r).val G w s = match op.cls with
 | .ctx => yg8 (l.val G w s) (r.val G w s) s op
 | .sh => yg8 (l.val G w s) (r.val G (r.typ G).1 (r.typ G).2) s op
 | .pw => ygj w (powO w (yao (l.val G w s) s) (yao (r.val G (r.typ G).1 (r.typ G).2) (r.typ G).2))
 | .lo => ycu (yg8 (l.val G (l.typ G).1 (l.typ G).2) (r.val G (r.typ G).1 (r.typ G).2) false op) false w
 | .cm => ycu (yg8 (l.val G ((l.typ G).both (r.typ G)).1 ((l.typ G).both (r.typ G)).2) (r.val G ((l.typ G).both (r.typ G)).1 ((l.typ G).both (r.typ G)).2) ((l.typ G).both (r.typ G)).2 op) false w := rfl
noncomputable def Src.alone (G : Gm) (e : Src) : List Int := e.val G (e.typ G).1 (e.typ G).2
inductive LOk : Leaf -> Prop
 | num {bs sg szd} (hc : yac bs) (hl : 1 <= bs.length /\ bs.length <= 32) : LOk (.num bs sg szd)
 | id {j} (hj : j < 4) : LOk (.id j)
inductive POk : Leaf -> Prop
 | num {bs sg} (hc : yac bs) (hl : 1 <= bs.length /\ bs.length <= 8) : POk (.num bs sg true)
 | id {j} (hj : j < 4) : POk (.id j)
class inductive SOk : Nat -> Src -> Prop
 | leaf {d l} (h : LOk l) : SOk d (.leaf l)
 | index {d j i} (hj : j < 4) (h : SOk d i) : SOk (d + 1) (.index j i)
 | part {d j lo w} (hj : j < 4) (hlo : -1 <= lo /\ lo < 5) (hw : 1 <= w /\ w <= 4) : SOk (d + 1) (.part j lo w)
 | upd {d up j i w} (hj : j < 4) (h : SOk d i) (hw : 1 <= w /\ w <= 4) : SOk (d + 1) (.upd up j i w)
 | un {d op e} (h : SOk d e) : SOk (d + 1) (.un op e)
 | cat {d ps} (h : ∀ p ∈ ps, POk p) (hl : 1 <= ps.length /\ ps.length <= 2) : SOk (d + 1) (.cat ps)
 | rep {d n ps} (h : ∀ p ∈ ps, POk p) (hl : 1 <= ps.length /\ ps.length <= 2) (hn : 1 <= n /\ n <= 2) : SOk (d + 1) (.rep n ps)
 | sys {d sg e} (h : SOk d e) : SOk (d + 1) (.sys sg e)
 | cond {d a b c} (ha : SOk d a) (hb : SOk d b) (hc : SOk d c) : SOk (d + 1) (.cond a b c)
 | bin {d op l r} (hl : SOk d l) (hr : SOk d r) : SOk (d + 1) (.bin op l r)
def GOk (G : Gm) : Prop := ∀ j, j < 4 -> yac (G.bs j) /\ 1 <= (G.bs j).length /\ (G.bs j).length <= 8
section
variable {G : Gm}
theorem POk.l {p : Leaf} (h : POk p) : LOk p := by induction h with | num hc hl => exact .num hc ⟨hl.1, Nat.le_trans hl.2 (by decide)⟩ | id hj => exact .id hj
theorem LOk.typ {l : Leaf} (hG : GOk G) (h : LOk l) : 1 <= (l.typ G).1 /\ (l.typ G).1 <= 32 := by
 induction h with
 | num hc hl => exact hl
 | id hj => exact ⟨(hG _ hj).2.1, Nat.le_trans (hG _ hj).2.2 (by decide)⟩
theorem POk.typ {l : Leaf} (hG : GOk G) (h : POk l) : 1 <= (l.typ G).1 /\ (l.typ G).1 <= 8 := by
 induction h with
 | num hc hl => exact hl
 | id hj => exact (hG _ hj).2
theorem yb6 (hG : GOk G) : ∀ {ps : List Leaf}, (∀ p ∈ ps, POk p) -> ps.length <= yfs G ps /\ yfs G ps <= 8 * ps.length
 | [], _ => ⟨Nat.le_refl _, Nat.le_refl _⟩
 | p :: r, h => by
  have h1 := (h p (.head _)).typ hG
  have h2 := yb6 hG (ps := r) fun q hq => h q (.tail _ hq)
  rw [yfs, List.length_cons]; exact ⟨Nat.le_trans (Nat.le_of_eq (Nat.add_comm ..)) (Nat.add_le_add h1.1 h2.1), Nat.le_trans (Nat.add_le_add h1.2 h2.2) (Nat.le_of_eq (Nat.add_comm ..))⟩
theorem mx {a b c : Nat} (ha : 1 <= a /\ a <= c) (hb : 1 <= b /\ b <= c) : 1 <= max a b /\ max a b <= c := ⟨Nat.le_trans ha.1 (Nat.le_max_left ..), Nat.max_le.mpr ⟨ha.2, hb.2⟩⟩
theorem mul2 {n S : Nat} (hn : 1 <= n /\ n <= 2) (a : 1 <= S) (b : S <= 16) : 1 <= n * S /\ n * S <= 32 := ⟨Nat.mul_le_mul hn.1 a, Nat.mul_le_mul hn.2 b⟩
theorem yoh {a b : Ty} (ha : 1 <= a.1 /\ a.1 <= 32) (hb : 1 <= b.1 /\ b.1 <= 32) : 1 <= (a.both b).1 /\ (a.both b).1 <= 32 := by
 show 1 <= max a.1 b.1 /\ max a.1 b.1 <= 32; exact mx ha hb
theorem SOk.typ {d : Nat} {e : Src} (hG : GOk G) (h : SOk d e) : 1 <= (e.typ G).1 /\ (e.typ G).1 <= 32 := by
 have one : 1 <= 1 /\ 1 <= 32 := by decide
 have four : ∀ {w}, 1 <= w /\ w <= 4 -> 1 <= w /\ w <= 32 := fun h => ⟨h.1, Nat.le_trans h.2 (by decide)⟩
 induction h with
 | leaf h => exact h.typ hG
 | index => exact one
 | part _ _ hw => exact four hw
 | upd _ _ hw => exact four hw
 | @un d op e h ih => rw [yrl]; cases op.cls <;> first | exact one | exact ih
 | cat h hl => have := yb6 hG h; exact ⟨Nat.le_trans hl.1 this.1, Nat.le_trans this.2 (Nat.le_trans (Nat.mul_le_mul_left 8 hl.2) (by decide))⟩
 | @rep d n ps h hl hn =>
  have := yb6 hG h
  exact mul2 hn (Nat.le_trans hl.1 this.1) (Nat.le_trans this.2 (Nat.mul_le_mul_left 8 hl.2))
 | sys h ih => exact ih
 | cond _ _ _ ia ib ic => exact yoh ib ic
 | @bin d op l r hl hr il ir => rw [ym4]; cases op.cls <;> first | exact one | exact il | exact yoh il ir
theorem LOk.val {l : Leaf} (hG : GOk G) (h : LOk l) (w : Nat) (s : Bool) : (l.val G w s).length = w /\ yac (l.val G w s) := by
 induction h with
 | num hc hl => exact ⟨yeg _ _ _, yeh hc _ _⟩
 | id hj => exact ⟨yeg _ _ _, yeh (hG _ hj).1 _ _⟩
theorem yf7 (w : Nat) (x : Option Int) : yac (ygj w x) := by induction x; exact yac.repl (by decide) _; exact ybe _ _
theorem yju {c : Int} {ts fs : List Int} (ht : yac ts) (hf : yac fs) (hl : ts.length = fs.length) : (yb1 c ts fs).length = ts.length /\ yac (yb1 c ts fs) := by
 unfold yb1
 split
 . exact ⟨rfl, ht⟩
 . split
   . exact ⟨hl.symm, hf⟩
   . exact ⟨yc8 hl _, ybr ht hf hl (eL := .or (.and .lu (.xor .m (.or (.or (.xor .lu .lv) .hu) .hv))) (.xor .m (.xor .m (.or (.or (.xor .lu .lv) .hu) .hv)))) (eH := .xor .m (.xor .m (.or (.or (.xor .lu .lv) .hu) .hv))) (by rfl)⟩
theorem yd9 {bs : List Int} (h : yac bs) (b : Int) (w : Nat) (x : Option Int) : yac (selB bs b w x) := by induction x; exact yac.repl (by decide) _; exact ydt h _ _
theorem ycc (b : Int) : 0 <= ygs b /\ ygs b < 4 := by unfold ygs; split; decide; split <;> decide
theorem yqh {us : List Int} (h : yac us) (op : Uop) : 0 <= redC us op /\ redC us op < 4 := by
 induction op <;> first | exact ycc _ | exact yax _ | exact ycf _ | exact yhl h
theorem yle {us : List Int} (h : yac us) (op : Uop) : ((unC us op).length = if op.cls matches .red then 1 else us.length) /\ yac (unC us op) := by
 induction op
 case plus => exact ⟨rfl, h⟩
 case neg => exact ⟨yg5 _ _, yf7 _ _⟩
 case inv => exact ⟨List.length_map _, fun b hb => by obtain ⟨x, _, rfl⟩ := List.mem_map.mp hb; exact ycc _⟩
 all_goals exact ⟨rfl, yar (yqh h _)⟩
theorem yru {us : List Int} (h : yac us) (n : Nat) : (yqf us n).length = us.length /\ yac (yqf us n) := by
 unfold yqf
 refine ⟨by rw [List.length_take, List.length_append]; exact Nat.min_add_left_self, ((yac.repl (by decide) n).app h).take _⟩
theorem yj4 {us : List Int} (h : yac us) (n : Nat) {t : Int} (ht : 0 <= t /\ t < 4) : (ygk us n t).length = us.length /\ yac (ygk us n t) := by
 unfold ygk
 refine ⟨by rw [List.length_drop, List.length_append, List.length_replicate]; exact Nat.add_sub_cancel .., (h.app (yac.repl ht n)).drop _⟩
theorem yll {f : List Int -> Nat -> List Int} {us : List Int} (hf : ∀ n, (f us n).length = us.length /\ yac (f us n)) (x : Option Int) : (shO f us x).length = us.length /\ yac (shO f us x) := by
 induction x
 . exact ⟨List.length_replicate, yac.repl (by decide) _⟩
 . exact hf _
theorem ytn (f : Int -> Int -> Bool) (a b : Option Int) : 0 <= cmO f a b /\ cmO f a b < 4 := by
 have t : (0 : Int) <= 3 /\ (3 : Int) < 4 := by decide
 induction a <;> induction b <;> first | exact t | (unfold cmO; dsimp only; split <;> decide)
theorem ygc (x y : Int) : 0 <= yra x y /\ yra x y < 4 := by unfold yra; split; decide; split <;> decide
theorem yj7 {op : Bop} (h : op.cls = .sh \/ op.cls = .lo) : op.same = false := by induction op <;> first | rfl | exact h.elim (fun h => Cls.noConfusion h) (fun h => Cls.noConfusion h)
noncomputable def Cls.one : Cls -> Bool
 | .cm | .lo => true
 | _ => false
theorem yd5 {us vs : List Int} {s : Bool} {op : Bop} (hu : yac us) (hv : yac vs) (hl : op.same = true -> us.length = vs.length) : ((yg8 us vs s op).length = if op.cls.one then 1 else us.length) /\ yac (yg8 us vs s op) := by
 induction op
 case and => exact ⟨yc8 (hl rfl) _, ybr hu hv (hl rfl) (eL := .and (.or .lu .hu) (.or .lv .hv)) (eH := .and (.and (.or .lu .hu) (.or .lv .hv)) (.or .hu .hv)) (by rfl)⟩
 case or => exact ⟨yc8 (hl rfl) _, ybr hu hv (hl rfl) (eL := .or (.or .lu .hu) (.or .lv .hv)) (eH := .xor (.or (.or .lu .hu) (.or .lv .hv)) (.or (.and (.or .lu .hu) (.xor .hu .m)) (.and (.or .lv .hv) (.xor .hv .m)))) (by rfl)⟩
 case xor => exact ⟨yc8 (hl rfl) _, ybr hu hv (hl rfl) (eL := .or (.xor .lu .lv) (.or .hu .hv)) (eH := .or .hu .hv) (by rfl)⟩
 case xnor => exact ⟨yc8 (hl rfl) _, ybr hu hv (hl rfl) (eL := .or (.xor (.xor .lu .lv) .m) (.or .hu .hv)) (eH := .or .hu .hv) (by rfl)⟩
 case shl => exact yll (yru hu) _
 case sal => exact yll (yru hu) _
 case shr => exact yll (f := fun u n => ygk u n 0) (us := us) (fun n => yj4 hu n (t := 0) (by decide)) _
 case pow => exact yll (f := fun u n => ygk u n 0) (us := us) (fun n => yj4 hu n (t := 0) (by decide)) _
 case sar => exact yll (f := fun u n => if s then shaB u n else ygk u n 0) (us := us) (fun n => by induction s; exact yj4 hu n (t := 0) (by decide); exact yj4 hu n (yfh hu)) _
 case ceq => exact ⟨rfl, yar (by split <;> decide)⟩
 case cne => exact ⟨rfl, yar (by split <;> decide)⟩
 case land => exact ⟨rfl, yar (ygc _ _)⟩
 case lor => exact ⟨rfl, yar (ycc _)⟩
 case eq => exact ⟨rfl, yar (ycf _)⟩
 case ne => exact ⟨rfl, yar (ycc _)⟩
 all_goals first | exact ⟨yg5 _ _, yf7 _ _⟩ | exact ⟨rfl, yar (ytn _ _ _)⟩
theorem yjs {b : List Int} (h : yac b) (n : Nat) : yac (List.replicate n b).flatten := fun x hx => by
 obtain ⟨l, hl, hx⟩ := List.mem_flatten.mp hx
 exact h x (List.eq_of_mem_replicate hl ▸ hx)
theorem ydh (hG : GOk G) {ps : List Leaf} (h : ∀ p ∈ ps, POk p) : (yg7 G ps).length = yfs G ps /\ yac (yg7 G ps) := by
 refine ⟨?_, yga fun p hp => by obtain ⟨q, hq, rfl⟩ := List.mem_map.mp hp; exact ((h q hq).l.val hG _ _).2⟩
 unfold yg7
 induction ps with
 | nil => rfl
 | cons p r ih => rw [List.map_cons, yij, List.length_append, ih fun q hq => h q (.tail _ hq), show (Leaf.alone G p).length = (p.typ G).1 from ((h p (.head _)).l.val hG _ _).1, yfs, Nat.add_comm]
theorem SOk.val {d : Nat} {e : Src} (hG : GOk G) (h : SOk d e) : ∀ (w : Nat) (s : Bool), (e.val G w s).length = w /\ yac (e.val G w s) := by
 have fit : ∀ {bs : List Int}, yac bs -> ∀ (w : Nat) (s : Bool), (ycu bs s w).length = w /\ yac (ycu bs s w) := fun h w s => ⟨yeg _ _ _, yeh h _ _⟩
 induction h with
 | leaf h => exact h.val hG
 | index hj => exact fun w s => fit (yd9 (hG _ hj).1 _ _ _) w s
 | part hj => exact fun w s => fit (ydt (hG _ hj).1 _ _) w s
 | upd hj => exact fun w s => fit (yd9 (hG _ hj).1 _ _ _) w s
 | @un d op e h ih =>
  intro w s
  rw [val_un]
  induction c : op.cls with
  | id => exact ih w s
  | ctx => have := yle (ih w s).2 op; rw [c] at this; exact ⟨this.1.trans (ih w s).1, this.2⟩
  | red => exact fit (yle (ih _ _).2 op).2 w false
 | cat h hl => exact fun w s => fit (ydh hG h).2 w s
 | rep h hl hn => exact fun w s => fit (yjs (ydh hG h).2 _) w s
 | sys h ih => exact fun w s => fit (ih _ _).2 w s
 | cond _ _ _ ia ib ic => exact fun w s => let x := yju (ib w s).2 (ic w s).2 ((ib w s).1.trans (ic w s).1.symm); ⟨x.1.trans (ib w s).1, x.2⟩
 | @bin d op l r hl hr il ir =>
  intro w s
  rw [ym2]
  induction c : op.cls with
  | ctx => have := yd5 (s := s) (op := op) (il w s).2 (ir w s).2 fun O => (il w s).1.trans (ir w s).1.symm; rw [c] at this; exact ⟨this.1.trans (il w s).1, this.2⟩
  | sh =>
   have := yd5 (s := s) (op := op) (il w s).2 (ir (r.typ G).1 (r.typ G).2).2 fun q => by rw [yj7 (.inl c)] at q; cases q
   rw [c] at this
   exact ⟨this.1.trans (il w s).1, this.2⟩
  | pw => exact ⟨yg5 _ _, yf7 _ _⟩
  | lo => exact fit (yd5 (il _ _).2 (ir _ _).2 fun q => by rw [yj7 (.inr c)] at q; cases q).2 w false
  | cm => exact fit (yd5 (il _ _).2 (ir _ _).2 fun O => (il _ _).1.trans (ir _ _).1.symm).2 w false
end
noncomputable def nm (j : Nat) : Str := ⟨#[97 + j]⟩
noncomputable def idV (j : Nat) : V := .tup [.str "id", .int 0, .str (nm j)]
noncomputable def yqe (j : Nat) : V := .tup [.str "sig", .int j]
noncomputable def sgF (key : Int) (p : Str) (w : Int) (sg : Bool) : List (Str × V) := [("key", .int key), ("path", .str p), ("kind", .str "reg"), ("width", .int w), ("signed", .bool sg), ("msb", .int (w - 1)), ("lsb", .int 0), ("first", .none), ("last", .none), ("init", .none), ("at", .int (-1)), ("scalar", .bool false)]
noncomputable def yqu (w : Int) (sg : Bool) : V := .tup [.int w, .bool sg, .int (w - 1), .int 0, .bool false]
structure Ad where
 (T dT eT D dD ls lr : Addr)
 (s d : Nat -> Addr)
noncomputable def Ad.top (A : Ad) : V := .obj A.T 1294 A.dT
noncomputable def entG : List (Str × V) := (List.range 4).map fun j => (nm j, yqe j)
structure Wld (A : Ad) (G : Gm) (S : St) : Prop where
 hT : S A.dT = some (.sd (scF A.D A.dD "top" .none "module" "top" A.eT 0))
 hE : SD S A.eT entG
 hD : ∃ x1 x2 x3 x4 x5 x6 x7 x8, S A.dD = some (.sd (dsF A.ls A.lr x1 x2 x3 x4 x5 x6 x7 x8))
 hl : S A.ls = some (.lst ((List.range 4).map fun j => V.obj (A.s j) 1154 (A.d j)))
 hg : ∀ j, j < 4 -> ∃ p, S (A.d j) = some (.sd (sgF j p (G.bs j).length (G.sg j)))
theorem St.le_some {a b : St} (h : St.le a b) {x : Addr} {m : MO} (e : a x = some m) : b x = some m := (h x).elim (fun q => by rw [q] at e; cases e) fun q => q ▸ e
theorem Wld.up {A : Ad} {G : Gm} {S S' : St} (w : Wld A G S) (h : St.le S S') : Wld A G S' :=
 ⟨St.le_some h w.hT, ⟨St.le_some h w.hE.1, w.hE.2⟩, by obtain ⟨a, b, c, d, e, f, g, i, q⟩ := w.hD; exact ⟨a, b, c, d, e, f, g, i, St.le_some h q⟩, St.le_some h w.hl, fun j hj => (w.hg j hj).imp fun O q => St.le_some h q⟩
theorem ytf : ∀ {j : Nat}, j < 4 -> ygl (nm j) entG = some (yqe j)
 | 0, _ => rfl
 | 1, _ => rfl
 | 2, _ => rfl
 | 3, _ => rfl
 | n + 4, h => absurd h (by right)
section
variable {o : Wo} [WO : WoOk o] [W : W3 o] {k : Kx} {st : St} {Q : V -> St -> Prop} {X : Exc -> St -> Prop} {A : Ad} {G : Gm} {j : Nat}
theorem lookup_ (w : Wld A G st) (hj : j < 4) (hn : 1 <= k.n) (h : Q (yqe j) st) : yak o k st (.ref 1263) [A.top, .str (nm j)] Q X := by
 have : SmOk o := yli W
 refine cf_ yhv fun L => ?_
 delta Ad.top
 have hT := w.hT
 refine' ym0 (fun n loc st' => st' = st /\ loc "scope" = some (.obj A.T 1294 A.dT) /\ loc "name" = some (.str (nm j))) 1 ⟨rfl, by rfl, by rfl⟩ fun n loc st' hj' => ?_
 obtain ⟨rfl, l1, l2⟩ := hj'
 refine ⟨_, yaa l1 (yaa l2 yaj), ?_⟩
 refine' ymm w.hE ?_
 rw [ytf hj]
 refine' yhc w.hE (ytf hj) ?_
 exact ⟨_, St.le_refl _, h⟩
theorem Wld.get (j : Nat) (hj : j < 4) : ((List.range 4).map fun j => V.obj (A.s j) 1154 (A.d j))[((j : Nat) : Int).toNat]? = some (.obj (A.s j) 1154 (A.d j)) := by
 rw [Int.toNat_natCast, List.getElem?_map, List.getElem?_range hj]; rfl
theorem ykv (w : Wld A G st) (hj : j < 4) (hn : 2 <= k.n) (h : Q (.bool false) st) : yak o k st (.ref 829) [A.top, yqe j] Q X := by
 refine cf_ yl2 fun L => ?_
 delta Ad.top yqe
 have hT := w.hT
 obtain ⟨x1, x2, x3, x4, x5, x6, x7, x8, hD⟩ := w.hD
 obtain ⟨p, hg⟩ := w.hg j hj
 refine' ya6 w.hl (by right) (by right) (Wld.get j hj) ?_
 refine' ⟨.ref 1130, yfd hg (by rfl) (fun O O => rfl), yh6 (fun O O => rfl), ?_⟩
 refine' ysu hg (by rfl) (by rfl) (by right) ?_
 symm
 exact h
theorem yrv {at' : V} (w : Wld A G st) (hj : j < 4) (hn : 2 <= k.n) (h : Q (yqu (G.bs j).length (G.sg j)) st) : yak o k st (.ref 836) [A.top, yqe j, at'] Q X := by
 refine cf_ ok_shape fun L => ?_
 delta Ad.top yqe
 have hT := w.hT
 obtain ⟨x1, x2, x3, x4, x5, x6, x7, x8, hD⟩ := w.hD
 obtain ⟨p, hg⟩ := w.hg j hj
 refine' ya6 w.hl (by right) (by right) (Wld.get j hj) ?_
 ac_rfl
noncomputable def sigV (G : Gm) (j : Nat) : V := .tup [.str "sig", .int (G.bs j).length, .int j]
theorem read_ (w : Wld A G st) (hj : j < 4) (hn : 2 <= k.n) (h : Q (sigV G j) st) : yak o k st (.ref 843) [A.top, yqe j, .none] Q X := by
 refine cf_ ykc fun L => ?_
 delta Ad.top yqe
 have hT := w.hT
 obtain ⟨x1, x2, x3, x4, x5, x6, x7, x8, hD⟩ := w.hD
 obtain ⟨p, hg⟩ := w.hg j hj
 refine' ya6 w.hl (by right) (by right) (Wld.get j hj) ?_
 ac_rfl
theorem yfi {t : Str} {vs : List V} (ht : (t == Str.ofString "path") = false) (hn : 1 <= k.n) (h : Q (.tup (.str t :: vs)) st) : yak o k st (.ref 822) [.tup (.str t :: vs)] Q X := by
 refine cf_ yiy fun L => ?_
 refine' ya2 ht ?_
 ac_rfl
theorem yte (w : Wld A G st) (hj : j < 4) (hn : 2 <= k.n) (h : Q (yqe j) st) : yak o k st (.ref 934) [A.top, idV j] Q X := by
 refine cf_ ynq fun L => ?_
 have hT := w.hT
 have e9 : A.top = .obj A.T 1294 A.dT := rfl
 delta idV
 rw [e9]
 refine' ⟨.ref 1263, yfd hT (by rfl) (fun O O => rfl), yh6 (fun O O => rfl), ?_⟩
 refine' lookup_ w hj (by right) ?_
 delta yqe at h ⊢
 ac_rfl
theorem base_ (w : Wld A G st) (hj : j < 4) (hn : 3 <= k.n) (h : Q (.tup [yqe j, .none]) st) : yak o k st (.ref 941) [A.top, idV j] Q X := by
 refine cf_ yki fun L => ?_
 delta idV
 refine' yfi (by rfl) (by right) ?_
 refine' yte w hj (by right) ?_
 ac_rfl
theorem nt_id (w : Wld A G st) (hj : j < 4) (hn : 6 <= k.n) (h : Q (.tup [.int (G.bs j).length, .bool (G.sg j)]) st) : yak o k st (.ref 962) [A.top, idV j] Q X := by
 refine cf_ yfb fun L => ?_
 have e8 : idV j = .tup [.str "id", .int 0, .str (nm j)] := rfl
 rw [e8]
 refine' yfi (by rfl) (by right) ?_
 refine' yte w hj (by right) ?_
 refine' ykv w hj (by right) ?_
 refine' yrv w hj (by right) ?_
 delta yqu
 refine' yqd (a := 0) (b := 2) (by decide) (by show 2 < 5; decide) (by simp only [List.length_cons, List.length_nil]; decide) ?_
 ac_rfl
theorem nv_id (w : Wld A G st) (hj : j < 4) (hn : 6 <= k.n) (h : Q (sigV G j) st) : yak o k st (.ref 969) [A.top, idV j] Q X := by
 refine cf_ yep fun L => ?_
 have e8 : idV j = .tup [.str "id", .int 0, .str (nm j)] := rfl
 rw [e8]
 refine' yfi (by rfl) (by right) ?_
 refine' yte w hj (by right) ?_
 refine' ykv w hj (by right) ?_
 refine' yrv w hj (by right) ?_
 refine' read_ w hj (by right) ?_
 ac_rfl
inductive SelT : Str -> Prop
 | i : SelT "index"
 | p : SelT "part"
 | u : SelT "up"
 | d : SelT "down"
theorem SelT.n1 {t : Str} (h : SelT t) : (t == Str.ofString "path") = false := by induction h <;> rfl
theorem SelT.n2 {t : Str} (h : SelT t) : (t == Str.ofString "id") = false := by induction h <;> rfl
def yq5 (o : Wo) (st : St) (n : Nat) (scp e : V) (wd : Int) : Prop := ∀ (k : Kx) (Q : V -> St -> Prop) (X : Exc -> St -> Prop), n <= k.n -> Q (.int wd) st -> yak o k st (.ref 948) [scp, e] Q X
theorem yo9 {t : Str} {rest : List V} {wd : Int} (w : Wld A G st) (ht : SelT t) (hj : j < 4) (hn : 14 <= k.n) (hw : yq5 o st 12 A.top (.tup (.str t :: .int 0 :: idV j :: rest)) wd) (h : Q (.tup [.int wd, .bool false]) st) : yak o k st (.ref 962) [A.top, .tup (.str t :: .int 0 :: idV j :: rest)] Q X := by
 refine cf_ yfb fun L => ?_
 refine' yfi ht.n1 (by right) ?_
 refine' ya2 ht.n2 ?_
 refine' ya2 ht.n1 ?_
 refine' base_ w hj (by right) ?_
 refine' ykv w hj (by right) ?_
 refine' hw _ _ _ (by right) ?_
 ac_rfl
theorem yj1 {scp base i : V} : yq5 o st 1 scp (.tup [.str "index", .int 0, base, i]) 1 := fun k Q X hn h => by
 refine cf_ ycg fun L => ?_
 ac_rfl
theorem yrh {scp base : V} {lo : Int} {w : Nat} (hlo : -1 <= lo /\ lo < 5) (hw : 1 <= w /\ w <= 4) : yq5 o st 11 scp (.tup [.str "part", .int 0, base, ybb (lo + w - 1), ybb lo]) w := fun k Q X hn h => by
 refine cf_ ycg fun L => ?_
 refine' ybx (by right) (by right) ?_
 refine' ybx (by right) (by right) ?_
 refine' yfr ?_
 left
 rw [show (if lo + w - 1 - lo < 0 then -(lo + w - 1 - lo) else lo + w - 1 - lo) + 1 = (w : Int) by split <;> right]
 refine yg6 (by right) (by right) (by right) ?_
 ac_rfl
noncomputable def updS (up : Bool) : Str := if up then "up" else "down"
theorem updT {up : Bool} : SelT (updS up) := by induction up; exact .d; exact .u
theorem yoq {scp base i : V} {up : Bool} {w : Nat} (hw : 1 <= w /\ w <= 4) : yq5 o st 11 scp (.tup [.str (updS up), .int 0, base, i, ybb w]) w := fun k Q X hn h => by
 refine cf_ ycg fun L => ?_
 induction up
 all_goals
  refine' ybx (by right) (by right) ?_
  refine' yg6 (by right) (by right) (by right) ?_
  ac_rfl
end
noncomputable def Leaf.V : Leaf -> V
 | .num bs sg szd => yqp bs sg szd
 | .id j => idV j
noncomputable def catS (ps : List Leaf) : V := .tup [.str "cat", .int 0, .tup (ps.map Leaf.V)]
noncomputable def yqg (n : Nat) (ps : List Leaf) : V := .tup [.str "rep", .int 0, ybb n, .tup (ps.map Leaf.V)]
noncomputable def sysS (sg : Bool) : Str := if sg then "$signed" else "$unsigned"
noncomputable def Src.V : Src -> V
 | .leaf l => l.V
 | .index j i => .tup [.str "index", .int 0, idV j, i.V]
 | .part j lo w => .tup [.str "part", .int 0, idV j, ybb (lo + w - 1), ybb lo]
 | .upd up j i w => .tup [.str (updS up), .int 0, idV j, i.V, ybb w]
 | .un op e => .tup [.str "un", .int 0, .str op.s, e.V]
 | .cat ps => catS ps
 | .rep n ps => yqg n ps
 | .sys sg e => .tup [.str "sys", .int 0, .str (sysS sg), .tup [e.V]]
 | .cond a b c => .tup [.str "cond", .int 0, a.V, b.V, c.V]
 | .bin op l r => .tup [.str "bin", .int 0, .str op.s, l.V, r.V]
noncomputable def tyV (t : Ty) : V := .tup [.int t.1, .bool t.2]
def yjc (o : Wo) (st : St) (n : Nat) (scp e : V) (t : Ty) : Prop := ∀ (k : Kx) (Q : V -> St -> Prop) (X : Exc -> St -> Prop), n <= k.n -> Q (tyV t) st -> yak o k st (.ref 1039) [scp, e] Q X
section
variable {o : Wo} [WO : WoOk o] [W : W3 o] {k : Kx} {st : St} {Q : V -> St -> Prop} {X : Exc -> St -> Prop} {A : Ad} {G : Gm} {n : Nat} {scp : V}
theorem ym5 (w : Wld A G st) {l : Leaf} (h : LOk l) : yjc o st 7 A.top l.V (l.typ G) := fun k Q X hn hq => by
 induction h with
 | num hc hl => exact yfn (by right) hq
 | id hj =>
  refine cf_ yay fun L => ?_
  refine' nt_id w hj (by right) ?_
  ac_rfl
theorem yrm (w : Wld A G st) {t : Str} {rest : List V} {j wd : Nat} (ht : SelT t) (hj : j < 4) (hw : yq5 o st 12 A.top (.tup (.str t :: .int 0 :: idV j :: rest)) wd) : yjc o st 15 A.top (.tup (.str t :: .int 0 :: idV j :: rest)) (wd, false) := fun k Q X hn h => by
 refine cf_ yay fun L => ?_
 induction ht
 all_goals
  left
  first
  | refine yo9 w .i hj (by right) hw ?_
  | refine yo9 w .p hj (by right) hw ?_
  | refine yo9 w .u hj (by right) hw ?_
  | refine yo9 w .d hj (by right) hw ?_
  ac_rfl
theorem yf1 (a b : Nat) : (if ((b : Nat) : Int) > ((a : Nat) : Int) then ((b : Nat) : Int) else ((a : Nat) : Int)) = ((max a b : Nat) : Int) := by
 split
 . next q => exact (congrArg Nat.cast (Nat.max_eq_right (Nat.le_of_lt (Int.ofNat_lt.mp q)))).symm
 . next q => exact (congrArg Nat.cast (Nat.max_eq_left (Int.ofNat_le.mp (Int.not_lt.mp q)))).symm
theorem both_ {l r : V} {a b : Ty} (hl : yjc o st n scp l a) (hr : yjc o st n scp r b) (hn : n + 1 <= k.n) (h : Q (tyV (a.both b)) st) : yak o k st (.ref 1032) [scp, l, r] Q X := by
 refine cf_ ykh fun L3 => ?_
 refine' hl _ _ _ (by right) ?_
 refine' hr _ _ _ (by right) ?_
 refine' ycq ?_
 rw [yf1]
 left
 unfold tyV Ty.both at h
 generalize a.2 = s at h ⊢
 induction s
 all_goals ac_rfl
noncomputable def ctxS : List Str := ["+", "-", "*", "/", "%", "&", "|", "^", "~^"]
noncomputable def shfS : List Str := ["<<", ">>", "<<<", ">>>", "**"]
noncomputable def Cls.ctx? : Cls -> Bool
 | .ctx => true
 | _ => false
noncomputable def Cls.sh? : Cls -> Bool
 | .sh | .pw => true
 | _ => false
theorem ctx_is (op : Bop) : (ctxS.any fun y => y == op.s) = op.cls.ctx? := by induction op <;> rfl
theorem shf_is (op : Bop) : (shfS.any fun y => y == op.s) = op.cls.sh? := by induction op <;> rfl
theorem ctx_ {op : Bop} (hn : 1 <= k.n) (h : Q (.bool op.cls.ctx?) st) : yak o k st (.ref 892) [.str op.s] Q X := by
 rw [<- ctx_is] at h
 refine cf_ ydq fun L2 => ?_
 ac_rfl
theorem shf_ {op : Bop} (hn : 1 <= k.n) (h : Q (.bool op.cls.sh?) st) : yak o k st (.ref 899) [.str op.s] Q X := by
 rw [<- shf_is] at h
 refine cf_ ynn fun L2 => ?_
 ac_rfl
theorem ty_bin {l r : V} {a b t : Ty} {op : Bop} (hl : yjc o st n scp l a) (hr : yjc o st n scp r b) (ht : t = match op.cls with | .ctx => a.both b | .sh => a | .pw => a | _ => (1, false)) : yjc o st (n + 3) scp (.tup [.str "bin", .int 0, .str op.s, l, r]) t := fun k Q X hn h => by
 refine cf_ yay fun L => ?_
 subst ht
 refine' ctx_ (by right) ?_
 induction c : op.cls with
 | ctx =>
  rw [c] at h
  refine' both_ hl hr (by right) ?_
  ac_rfl
 | sh =>
  rw [c] at h
  refine' shf_ (by right) ?_
  rw [c]
  refine' hl _ _ _ (by right) ?_
  ac_rfl
 | pw =>
  rw [c] at h
  refine' shf_ (by right) ?_
  rw [c]
  refine' hl _ _ _ (by right) ?_
  ac_rfl
 | _ =>
  rw [c] at h
  refine' shf_ (by right) ?_
  rw [c]
  ac_rfl
theorem ty_cond {a b c : V} {tb tc : Ty} (hb : yjc o st n scp b tb) (hc : yjc o st n scp c tc) : yjc o st (n + 2) scp (.tup [.str "cond", .int 0, a, b, c]) (tb.both tc) := fun k Q X hn h => by
 refine cf_ yay fun L => ?_
 refine' both_ hb hc (by right) ?_
 ac_rfl
theorem un_t {op : Uop} {a t : Ty} (ht : t = match op.cls with | .red => (1, false) | _ => a) : (((["+", "-", "~"] : List Str).any fun y => y == op.s) = false /\ t = (1, false)) \/ (((["+", "-", "~"] : List Str).any fun y => y == op.s) = true /\ t = a) := by
 subst ht; induction op <;> first | exact .inl ⟨rfl, rfl⟩ | exact .inr ⟨rfl, rfl⟩
theorem ty_un {e : V} {op : Uop} {a t : Ty} (he : yjc o st n scp e a) (ht : t = match op.cls with | .red => (1, false) | _ => a) : yjc o st (n + 1) scp (.tup [.str "un", .int 0, .str op.s, e]) t := fun k Q X hn h => by
 refine cf_ yay fun L => ?_
 left
 rcases un_t ht with ⟨e1, rfl⟩ | ⟨e1, rfl⟩
 . refine ya2 e1 ?_
   ac_rfl
 . refine Ja.qj e1 ?_
   refine' he _ _ _ (by right) ?_
   ac_rfl
theorem st_sys {e : V} {sg : Bool} {a : Ty} (he : yjc o st n scp e a) (hn : n + 1 <= k.n) (h : Q (tyV (a.1, sg)) st) : yak o k st (.ref 990) [scp, .tup [.str "sys", .int 0, .str (sysS sg), .tup [e]]] Q X := by
 refine cf_ yit fun L => ?_
 induction sg
 all_goals
  refine' ymq (by simp) ?_
  refine' he _ _ _ (by right) ?_
  unfold tyV at h ⊢
  ac_rfl
theorem ty_sys {e : V} {sg : Bool} {a : Ty} (he : yjc o st n scp e a) : yjc o st (n + 2) scp (.tup [.str "sys", .int 0, .str (sysS sg), .tup [e]]) (a.1, sg) := fun k Q X hn h => by
 refine cf_ yay fun L => ?_
 refine' st_sys he (by right) ?_
 ac_rfl
theorem jp_ {ps : List Leaf} {tg : Str} (hps : ∀ p ∈ ps, POk p) (hl : 1 <= ps.length /\ ps.length <= 2) (hn : 1 <= k.n) (h : ∀ a, st a = none -> Q (.ptr a) (st.set a (.lst (ps.map Leaf.V)))) :
 yak o k st (.ref 1004) [scp, .tup [.str tg, .int 0, .tup (ps.map Leaf.V)]] Q X := by
 refine cf_ yhr fun L => ?_
 left
 intro a ha
 refine' ybw (fun O O => rfl) ?_
 refine' yd1 (fun i loc st' => st' = st.set a (.lst ((ps.take i).map Leaf.V)) /\ loc "scope" = some scp /\ loc "e" = some (.tup [.str tg, .int 0, .tup (ps.map Leaf.V)]) /\ loc "parts" = some (.ptr a)) ⟨rfl, by rfl, by rfl, by rfl⟩ (fun i x loc st' Q' hx' hj hq => ?_) (fun loc st' hj => ?_)
 . obtain ⟨rfl, l1, l2, l3⟩ := hj
   obtain ⟨p, hp, rfl⟩ : ∃ p, ps[i]? = some p /\ x = p.V := ycj hx'
   have ok := hps p (List.mem_of_getElem? hp)
   have et : ps.take (i + 1) = ps.take i ++ [p] := by rw [List.take_add_one, hp]; rfl
   have hlt : ((ps.take i).map Leaf.V).length <= sizeLine := by rw [List.length_map, List.length_take]; exact Nat.le_trans (Nat.min_le_right ..) (szA hl rfl)
   refine ybf _ (yaa l1 (yaa l2 (yaa l3 yaj))) ?_
   induction ok with
   | num hc hb =>
    refine' ⟨_, yaw (St.set_same ..), yh6 (fun O O => rfl), ?_⟩
    refine' yaq (St.set_same ..) hlt ?_
    rw [St.set_set]
    refine' hq _ _ _ ?_
    exact ⟨by rw [et, List.map_append]; rfl, by rfl, by rfl, by rfl⟩
   | id hj =>
    refine' ⟨_, yaw (St.set_same ..), yh6 (fun O O => rfl), ?_⟩
    refine' yaq (St.set_same ..) hlt ?_
    rw [St.set_set]
    refine' hq _ _ _ ?_
    exact ⟨by rw [et, List.map_append]; rfl, by rfl, by rfl, by rfl⟩
 . obtain ⟨rfl, l1, l2, l3⟩ := hj
   rw [List.length_map, List.take_length]
   refine yat _ (yaa l1 (yaa l2 (yaa l3 yaj))) ?_
   refine' yan (St.set_same ..) (by rw [List.length_map]; right) ?_
   refine' ya2 (by rw [List.length_map, beq_eq_false_iff_ne]; right) ?_
   left
   exact ⟨_, St.le_refl _, h a ha⟩
theorem yld (G : Gm) (p : Leaf) : ∀ ps : List Leaf, yfs G (ps ++ [p]) = yfs G ps + (p.typ G).1
 | [] => by rw [List.nil_append, yfs, yfs, yfs, Nat.add_comm]
 | q :: r => by rw [List.cons_append, yfs, yfs, yld G p r, Nat.add_assoc]
theorem yst (w : Wld A G st) (hG : GOk G) {ps : List Leaf} (hps : ∀ p ∈ ps, POk p) (hl : 1 <= ps.length /\ ps.length <= 2) (hn : 9 <= k.n) (h : Q (.int (yfs G ps)) st) : yak o k st (.ref 1018) [A.top, catS ps] Q X := by
 refine cf_ ydw fun L => ?_
 have hs := yb6 hG hps
 refine' ybw (fun O O => rfl) ?_
 refine' jp_ hps hl (by right) fun a ha => ?_
 refine yc4 (xs := ps.map Leaf.V) (fun i loc st' => st' = st.set a (.lst (ps.map Leaf.V)) /\ loc "scope" = some A.top /\ loc "e" = some (.tup [.str "cat", .int 0, .tup (ps.map Leaf.V)]) /\ loc "width" = some (.int (yfs G (ps.take i)))) (fun i loc st' hj => by rw [hj.1]; exact St.set_same ..) ⟨rfl, by rfl, by rfl, by rfl⟩ (fun i x loc st' Q' hx' hj hq => ?_) (fun loc st' hj => ?_)
 . obtain ⟨rfl, l1, l2, l3⟩ := hj
   refine ybf _ (yaa l1 (yaa l2 (yaa l3 yaj))) ?_
   obtain ⟨p, hp, rfl⟩ : ∃ p, ps[i]? = some p /\ x = p.V := ycj hx'
   have et : ps.take (i + 1) = ps.take i ++ [p] := by rw [List.take_add_one, hp]; rfl
   refine' ym5 (w.up (St.le_set (St.le_refl _) ha)) (hps p (List.mem_of_getElem? hp)).l _ _ _ (by right) ?_
   refine' hq _ _ _ ?_
   refine ⟨rfl, by rfl, by rfl, ?_⟩
   show some _ = some _
   rw [et, yld]; rfl
 . obtain ⟨rfl, l1, l2, l3⟩ := hj
   rw [List.length_map, List.take_length] at l3
   refine yat _ (yaa l1 (yaa l2 (yaa l3 yaj))) ?_
   refine' yg6 (by right) (by right) (by right) ?_
   left
   exact ⟨_, St.le_set (St.le_refl _) ha, h⟩
theorem inner_ {m : Nat} {ps : List Leaf} (hn : 1 <= k.n) (h : Q (catS ps) st) : yak o k st (.ref 885) [yqg m ps] Q X := by
 refine cf_ yke fun L => ?_
 ac_rfl
theorem ytg {m : Nat} {ps : List Leaf} (hm : 1 <= m /\ m <= 2) (hn : 10 <= k.n) (h : Q (.int m) st) : yak o k st (.ref 1011) [scp, yqg m ps] Q X := by
 refine cf_ ysa fun L => ?_
 refine' ybx (by right) (by right) ?_
 refine' ya2 (by simp; right) ?_
 ac_rfl
theorem yji {m : Nat} (h : m <= 64) : Builtin.Int.intBits (m : Int) <= 64 := intBits_le_iff.mpr (by
 rw [Int.natAbs_natCast]
 exact Nat.lt_of_le_of_lt h (by decide))
theorem jw_rep (w : Wld A G st) (hG : GOk G) {m : Nat} {ps : List Leaf} (hps : ∀ p ∈ ps, POk p) (hl : 1 <= ps.length /\ ps.length <= 2) (hm : 1 <= m /\ m <= 2) (hn : 12 <= k.n) (h : Q (.int ((m * yfs G ps : Nat) : Int)) st) : yak o k st (.ref 1018) [A.top, yqg m ps] Q X := by
 refine cf_ ydw fun L => ?_
 have hs := yb6 hG hps
 have e : yqg m ps = .tup [.str "rep", .int 0, ybb m, .tup (ps.map Leaf.V)] := rfl
 rw [e]
 left
 rw [<- e]
 refine ytg hm (by right) ?_
 refine' inner_ (by right) ?_
 refine' yst w hG hps hl (by right) ?_
 refine' yav (IntMulOk.of_right (yji (by right))) ?_
 rw [e]
 left
 rw [<- Int.natCast_mul]
 have h2 : 1 <= m * yfs G ps /\ m * yfs G ps <= 64 := by
  have q := mul2 hm (Nat.le_trans hl.1 hs.1) (Nat.le_trans hs.2 (Nat.mul_le_mul_left 8 hl.2))
  exact ⟨q.1, Nat.le_trans q.2 (by decide)⟩
 refine yg6 (by right) (by right) (by right) ?_
 ac_rfl
theorem ty_ok (w : Wld A G st) (hG : GOk G) {d : Nat} {e : Src} (h : SOk d e) : yjc o st (8 * d + 15) A.top e.V (e.typ G) := by
 have up : ∀ {a b : Nat} {e : V} {t : Ty}, yjc o st a A.top e t -> a <= b -> yjc o st b A.top e t := fun h q k Q X hn => h k Q X (Nat.le_trans q hn)
 induction h with
 | leaf h => exact up (ym5 w h) (by right)
 | index hj h ih => exact up (yrm w .i hj fun k Q X hn => yj1 k Q X (by right)) (by right)
 | part hj hlo hw => exact up (yrm w .p hj fun k Q X hn => yrh hlo hw k Q X (by right)) (by right)
 | upd hj h hw ih => exact up (yrm w updT hj fun k Q X hn => yoq hw k Q X (by right)) (by right)
 | @un d op e h ih => exact up (ty_un ih (by rw [yrl]; all_goals (cases op.cls <;> rfl))) (by right)
 | cat h hl =>
  intro k Q X hn hq
  refine cf_ yay fun L => ?_
  refine' yst w hG h hl (by right) ?_
  ac_rfl
 | @rep d m ps h hl hm =>
  intro k Q X hn hq
  refine cf_ yay fun L => ?_
  refine' jw_rep w hG h hl hm (by right) ?_
  ac_rfl
 | sys h ih => exact up (ty_sys ih) (by right)
 | cond _ _ _ ia ib ic => exact up (ty_cond ib ic) (by right)
 | @bin d op l r _ _ il ir => exact up (ty_bin il ir (by rw [ym4]; all_goals (cases op.cls <;> rfl))) (by right)
end
def yk8 (o : Wo) (st0 : St) (n m : Nat) (scp cx e : V) (w : Nat) (s : Bool) (bs : List Int) : Prop := ∀ (st : St), St.le st0 st -> ∀ (k : Kx) (Q : V -> St -> Prop) (X : Exc -> St -> Prop), n <= k.n -> (∀ v, Md o st0 m cx bs v -> Q v st) -> yak o k st (.ref 1060) [scp, e, .int w, .bool s] Q X
def SdOk (o : Wo) (st0 : St) (n m : Nat) (scp cx e : V) (s : Bool) (bs : List Int) : Prop := ∀ (st : St), St.le st0 st -> ∀ (k : Kx) (Q : V -> St -> Prop) (X : Exc -> St -> Prop), n <= k.n -> (∀ v, Md o st0 m cx bs v -> Q (.tup [v, .bool s]) st) -> yak o k st (.ref 1067) [scp, e] Q X
def ygd (o : Wo) (st : St) (cx : V) (G : Gm) : Prop := ∀ j, j < 4 -> ∀ st', St.le st st' -> yc7 o st' 5 cx (sigV G j) (yag (G.bs j))
section
variable {o : Wo} [WO : WoOk o] [W : W3 o] {k : Kx} {st st0 : St} {Q : V -> St -> Prop} {X : Exc -> St -> Prop} {A : Ad} {G : Gm} {n m : Nat} {scp cx : V}
theorem ys5 (bs : List Int) (s : Bool) : ycu bs s bs.length = bs := by rw [yf5 (Nat.le_refl _), List.take_length]
inductive Md2 (bs : List Int) (v : V) : Prop
 | mk (t : Str) (vs : List V) (e : v = .tup (.str t :: .int bs.length :: vs))
theorem Md.shp {bs : List Int} {v : V} (h : Md o st0 n cx bs v) : Md2 bs v := by
 induction h with
 | c => exact ⟨_, _, rfl⟩
 | x t vs ht ev => exact ⟨t, vs, rfl⟩
theorem ye7 {bs : List Int} {v : V} {w : Nat} {s : Bool} (hm : Md o st0 m cx bs v) (h1 : 1 <= m) (hc : yac bs) (hl : 1 <= bs.length /\ bs.length <= 64) (hw : w <= 64) (hn : 13 <= k.n) (h : ∀ v', Md o st0 (m + 8) cx (ycu bs s w) v' -> Q v' st) : yak o k st (.ref 906) [v, .int w, .bool s] Q X := by
 refine cf_ ok_widen fun L => ?_
 obtain ⟨t, vs, rfl⟩ := hm.shp
 left
 induction c : ((bs.length : Int) == (w : Int)) with
 | true =>
  have e : bs.length = w := by have := eq_of_beq c; right
  left
  symm
  subst e
  exact h _ (by rw [ys5]; exact hm.mono (by right))
 | false =>
  refine' fo_ext hm h1 hc hl hw _ _ _ _ (by right) fun v' hv => ?_
  left
  symm
  exact h _ hv
theorem sd_ok {e : V} {w : Nat} {s : Bool} {bs : List Int} (ht : ∀ st, St.le st0 st -> yjc o st n scp e (w, s)) (hb : yk8 o st0 n m scp cx e w s bs) : SdOk o st0 (n + 1) m scp cx e s bs := fun st hle k Q X hn h => by
 refine cf_ ycp fun L => ?_
 refine' ht _ hle _ _ _ (by right) ?_
 refine' hb _ hle _ _ _ (by right) fun v hv => ?_
 left
 symm
 exact h _ hv
theorem bd_num {bs : List Int} {sg szd s : Bool} {w : Nat} (hc : yac bs) (hl : 1 <= bs.length /\ bs.length <= 32) (hw : w <= 64) : yk8 o st0 5 m scp cx (yqp bs sg szd) w s (ycu bs (ygi bs s szd) w) := fun st hle k Q X hn h =>
 ymr hc (List.ne_nil_of_length_pos hl.1) (Nat.le_trans hl.2 (by decide)) (Nat.le_trans hw (by decide)) hn (h _ .c)
theorem yox (hs : ygd o st0 cx G) {j : Nat} (hj : j < 4) : Md o st0 5 cx (G.bs j) (sigV G j) := .x "sig" [.int j] (by rfl) (hs j hj)
theorem bd_id (w : Wld A G st0) (hG : GOk G) (hs : ygd o st0 cx G) {j wd : Nat} {s : Bool} (hj : j < 4) (hw : wd <= 64) : yk8 o st0 15 13 A.top cx (idV j) wd s (ycu (G.bs j) s wd) := fun st hle k Q X hn h => by
 refine cf_ yca fun L => ?_
 have e8 : idV j = .tup [.str "id", .int 0, .str (nm j)] := rfl
 rw [e8]
 left
 rw [<- e8]
 refine nv_id (w.up hle) hj (by right) ?_
 rw [e8]
 refine' ye7 (yox hs hj) (by decide) (hG j hj).1 ⟨(hG j hj).2.1, Nat.le_trans (hG j hj).2.2 (by decide)⟩ hw (by right) fun v hv => ?_
 left
 symm
 exact h _ hv
inductive WhR (o : Wo) (st0 : St) (m : Nat) (cx : V) (is : List Int) (sg : Bool) (b : Int) : V -> Prop
 | at (x : Int) (h : yao is sg = some x) : WhR o st0 m cx is sg b (.tup [.str "at", .int (x - b)])
 | pick (i : V) (hi : Md o st0 m cx is i) : WhR o st0 m cx is sg b (.tup [.str "pick", i, .bool sg, .int b, .int 1])
theorem sel_ {bs is : List Int} {e wh : V} {b : Int} {sg : Bool} {w : Nat} (he : Md o st0 m cx bs e) (hw : WhR o st0 m cx is sg b wh) (h1 : 1 <= m) (hc : yac bs) (hl : 1 <= bs.length /\ bs.length <= 64) (hil : 1 <= is.length /\ is.length <= 64) (hwd : 1 <= w /\ w <= 64) (hn : 13 <= k.n) (h : ∀ v, Md o st0 (m + 8) cx (selB bs b w (yao is sg)) v -> Q v st) : yak o k st (.ref 871) [e, .int w, wh] Q X := by
 refine cf_ yhp fun L => ?_
 induction hw with
 | «at» x hx =>
  rw [hx] at h
  refine' yps he h1 hc hl hwd _ _ _ _ (by right) fun v' hv => ?_
  left
  symm
  exact h _ hv
 | pick i hi =>
  refine' fo_pick he hi h1 hc hl hil hwd _ _ _ _ (by right) fun v' hv => ?_
  left
  symm
  exact h _ hv
theorem sel_part {bs : List Int} {e : V} {lo : Int} {w : Nat} (he : Md o st0 m cx bs e) (h1 : 1 <= m) (hc : yac bs) (hl : 1 <= bs.length /\ bs.length <= 64) (hwd : 1 <= w /\ w <= 64) (hn : 13 <= k.n) (h : ∀ v, Md o st0 (m + 8) cx (ybq bs lo w) v -> Q v st) : yak o k st (.ref 871) [e, .int w, .tup [.str "at", .int lo]] Q X := by
 refine cf_ yhp fun L => ?_
 refine' yps he h1 hc hl hwd _ _ _ _ (by right) fun v' hv => ?_
 left
 symm
 exact h _ hv
theorem wh_part {base : V} {wd : Nat} {sg : Bool} {lo : Int} {w : Nat} (hwd : 1 <= wd) (hlo : -1 <= lo /\ lo < 5) (hw : 1 <= w /\ w <= 4) (hn : 11 <= k.n) (h : Q (.tup [.str "at", .int lo]) st) : yak o k st (.ref 955) [scp, .tup [.str "part", .int 0, base, ybb (lo + w - 1), ybb lo], yqu wd sg] Q X := by
 refine cf_ ych fun L => ?_
 refine' Ja.qj (decide_eq_true (by right)) ?_
 refine' ybx (by right) (by right) ?_
 refine' ybx (by right) (by right) ?_
 refine' yav (IntMulOk.of_right (by decide)) ?_
 refine' ya2 (decide_eq_false (by right)) ?_
 refine' yav (IntMulOk.of_right (by decide)) ?_
 rw [Int.mul_one, Int.sub_zero]
 ac_rfl
theorem ymg {is : List Int} {sg : Bool} (h : (yad is == 0) = true) : ∃ x, yao is sg = some x := by
 unfold yao
 rw [bne, h]
 exact ⟨_, rfl⟩
def WhOk (o : Wo) (st0 : St) (n m : Nat) (scp cx e form : V) (is : List Int) (sg : Bool) (b : Int) : Prop := ∀ (st : St), St.le st0 st -> ∀ (k : Kx) (Q : V -> St -> Prop) (X : Exc -> St -> Prop), n <= k.n -> (∀ v, WhR o st0 m cx is sg b v -> Q v st) -> yak o k st (.ref 955) [scp, e, form] Q X
theorem wh_index {base e : V} {wd : Nat} {s sg : Bool} {is : List Int} (hwd : 1 <= wd) (hi : SdOk o st0 n m scp cx e sg is) (hil : 1 <= is.length /\ is.length <= 64) (h3 : 4 <= n) : WhOk o st0 (n + 1) m scp cx (.tup [.str "index", .int 0, base, e]) (yqu wd s) is sg 0 := fun st hle k Q X hn h => by
 refine cf_ ych fun L => ?_
 refine' Ja.qj (decide_eq_true (by right)) ?_
 refine' yj1 _ _ _ (by right) ?_
 refine' hi _ hle _ _ _ (by right) fun v hv => ?_
 induction hv with
 | c =>
  left
  induction c : yad is == 0 with
  | true =>
   obtain ⟨x, hx⟩ := ymg (sg := sg) c
   refine' yb3 (a := 1) (by decide) (by simp) (by simp only [List.length_cons, List.length_nil]; decide) ?_
   refine' ybs (bs := is) hil (by right) ?_
   rw [hx]
   refine' yav (IntMulOk.of_right (by decide)) ?_
   rw [Int.mul_one]
   left
   symm
   exact h _ (.at x hx)
  | false =>
   left
   symm
   exact h _ (.pick _ .c)
 | x t vs ht ev =>
  refine' ya2 ht ?_
  left
  symm
  exact h _ (.pick _ (.x t vs ht ev))
theorem wh_upd {base e : V} {up : Bool} {wd w : Nat} {s sg : Bool} {is : List Int} (hwd : 1 <= wd) (hw : 1 <= w /\ w <= 4) (hi : SdOk o st0 n m scp cx e sg is) (hil : 1 <= is.length /\ is.length <= 64) (h3 : 11 <= n) : WhOk o st0 (n + 1) m scp cx (.tup [.str (updS up), .int 0, base, e, ybb w]) (yqu wd s) is sg (if up then 0 else (w : Int) - 1) := fun st hle k Q X hn h => by
 refine cf_ ych fun L => ?_
 induction up
 all_goals
  refine' Ja.qj (decide_eq_true (by right)) ?_
  left
  first | refine yoq (up := false) hw _ _ _ (by right) ?_ | refine yoq (up := true) hw _ _ _ (by right) ?_
  left
  try rw [Int.zero_add]
  refine hi _ hle _ _ _ (by right) fun v hv => ?_
  induction hv with
  | c =>
   left
   induction c : yad is == 0 with
   | true =>
    obtain ⟨x, hx⟩ := ymg (sg := sg) c
    refine' yb3 (a := 1) (by decide) (by simp) (by simp only [List.length_cons, List.length_nil]; decide) ?_
    refine' ybs (bs := is) hil (by right) ?_
    rw [hx]
    refine' yav (IntMulOk.of_right (by decide)) ?_
    rw [Int.mul_one]
    left
    symm
    exact h _ (.at x hx)
   | false =>
    left
    symm
    exact h _ (.pick _ .c)
  | x t vs ht ev =>
   refine' ya2 ht ?_
   left
   symm
   exact h _ (.pick _ (.x t vs ht ev))
theorem ysf {t : Str} {rest : List V} {j wd : Nat} {K : V -> Prop} (w : Wld A G st) (ht : SelT t) (hj : j < 4) (hn : n + 14 <= k.n)
 (hwh : ∀ (k : Kx) (Q : V -> St -> Prop) (X : Exc -> St -> Prop), n <= k.n -> (∀ v, K v -> Q v st) -> yak o k st (.ref 955) [A.top, .tup (.str t :: .int 0 :: idV j :: rest), yqu (G.bs j).length (G.sg j)] Q X)
 (hw : yq5 o st 12 A.top (.tup (.str t :: .int 0 :: idV j :: rest)) wd)
 (hs : ∀ (k : Kx) wh, 13 <= k.n -> ∀ (Q' : V -> St -> Prop) (X : Exc -> St -> Prop), K wh -> (∀ v, Q v st -> Q' v st) -> yak o k st (.ref 871) [sigV G j, .int wd, wh] Q' X) :
 yak o k st (.ref 969) [A.top, .tup (.str t :: .int 0 :: idV j :: rest)] Q X := by
 refine cf_ yep fun L => ?_
 refine' yfi ht.n1 (by right) ?_
 refine' ya2 ht.n2 ?_
 refine' ya2 ht.n1 ?_
 refine' base_ w hj (by right) ?_
 refine' yrv w hj (by right) ?_
 refine' ykv w hj (by right) ?_
 refine' hwh _ _ _ (by right) fun v hv => ?_
 refine' read_ w hj (by right) ?_
 refine' hw _ _ _ (by right) ?_
 refine' hs _ _ (by right) _ _ hv fun v hq => ?_
 left
 symm
 exact hq
theorem yk6 {t : Str} {rest : List V} {w : Nat} {s : Bool} {bs : List Int} (ht : SelT t) (h1 : 1 <= m) (hc : yac bs) (hl : 1 <= bs.length /\ bs.length <= 64) (hw : w <= 64) (h3 : 13 <= n)
 (hnv : ∀ (st : St), St.le st0 st -> ∀ (k : Kx) (Q : V -> St -> Prop) (X : Exc -> St -> Prop), n <= k.n -> (∀ v, Md o st0 m cx bs v -> Q v st) -> yak o k st (.ref 969) [scp, .tup (.str t :: rest)] Q X) : yk8 o st0 (n + 1) (m + 8) scp cx (.tup (.str t :: rest)) w s (ycu bs s w) := fun st hle k Q X hn h => by
 refine cf_ yca fun L => ?_
 induction ht
 all_goals
  refine' hnv _ hle _ _ _ (by right) fun v hv => ?_
  refine' ye7 hv h1 hc hl hw (by right) fun v hv => ?_
  left
  symm
  exact h _ hv
end
structure SrcOk (o : Wo) (st0 : St) (n m : Nat) (A : Ad) (G : Gm) (cx : V) (e : Src) : Prop where
 ty : ∀ st, St.le st0 st -> yjc o st n A.top e.V (e.typ G)
 bd : ∀ w s, 1 <= w /\ w <= 64 -> yk8 o st0 n m A.top cx e.V w s (e.val G w s)
 tl : 1 <= (e.typ G).1 /\ (e.typ G).1 <= 64
 vl : ∀ w s, (e.val G w s).length = w /\ yac (e.val G w s)
section
variable {o : Wo} [WO : WoOk o] [W : W3 o] {k : Kx} {st st0 : St} {Q : V -> St -> Prop} {X : Exc -> St -> Prop} {A : Ad} {G : Gm} {n m : Nat} {scp cx : V}
theorem SrcOk.sd {e : Src} (h : SrcOk o st0 n m A G cx e) : SdOk o st0 (n + 1) m A.top cx e.V (e.typ G).2 (e.alone G) := sd_ok h.ty (h.bd _ _ h.tl)
theorem SrcOk.al {e : Src} (h : SrcOk o st0 n m A G cx e) : yac (e.alone G) /\ 1 <= (e.alone G).length /\ (e.alone G).length <= 64 := ⟨(h.vl _ _).2, by rw [show (e.alone G).length = (e.typ G).1 from (h.vl _ _).1]; exact h.tl⟩
theorem SrcOk.at {e : Src} (h : SrcOk o st0 n m A G cx e) {w : Nat} {s : Bool} (hw : 1 <= w /\ w <= 64) : yac (e.val G w s) /\ 1 <= (e.val G w s).length /\ (e.val G w s).length <= 64 := ⟨(h.vl _ _).2, by rw [(h.vl w s).1]; exact hw⟩
theorem npow {op : Bop} (h : op.cls = .sh) : (op.s == Str.ofString "**") = false := by induction op <;> first | rfl | exact Cls.noConfusion h
theorem kin3 {op : Bop} (h : op.cls ≠ .pw) : op.kind ≠ 3 := by induction op <;> first | decide | exact absurd rfl h
theorem nlog {op : Bop} (h : op.cls = .cm) : (op.s == Str.ofString "&&") = false /\ (op.s == Str.ofString "||") = false := by induction op <;> first | exact ⟨rfl, rfl⟩ | exact Cls.noConfusion h
theorem both64 {a b : Ty} (ha : 1 <= a.1 /\ a.1 <= 64) (hb : 1 <= b.1 /\ b.1 <= 64) : 1 <= (a.both b).1 /\ (a.both b).1 <= 64 := mx ha hb
theorem o64 : 1 <= 1 /\ 1 <= 64 := by decide
theorem bv_ {l r : Src} {op : Bop} {w : Nat} {s : Bool} (hl : SrcOk o st0 n m A G cx l) (hr : SrcOk o st0 n m A G cx r) (h1 : 1 <= m) (h3 : 15 <= n) (hw : 1 <= w /\ w <= 64) (hle : St.le st0 st) (hn : n + 3 <= k.n) (h : ∀ v, Md o st0 (m + 16) cx ((Src.bin op l r).val G w s) v -> Q v st) : yak o k st (.ref 1053) [A.top, .tup [.str "bin", .int 0, .str op.s, l.V, r.V], .int w, .bool s] Q X := by
 refine cf_ yht fun L2 => ?_
 rw [ym2] at h
 refine' ctx_ (by right) ?_
 induction c : op.cls with
 | ctx =>
  rw [c] at h
  refine' hl.bd w s hw _ hle _ _ _ (by right) fun u hu => ?_
  refine' hr.bd w s hw _ hle _ _ _ (by right) fun v hv => ?_
  left
  have hs : op.same = true -> (l.val G w s).length = (r.val G w s).length := fun O => (hl.vl w s).1.trans (hr.vl w s).1.symm
  have hz := yd5 (s := s) (op := op) (hl.at hw).1 (hr.at (s := s) hw).1 hs
  rw [c] at hz
  refine ypt hu hv h1 ⟨(hl.at hw).1, (hr.at hw).1, (hl.at hw).2, (hr.at hw).2, hs⟩ (kin3 (by rw [c]; exact fun q => by cases q)) (hz.1.trans (hl.vl w s).1) _ _ _ _ (by right) fun x hx => ?_
  left
  symm
  exact h _ (hx.mono (by right))
 | sh =>
  rw [c] at h
  refine' shf_ (by right) ?_
  rw [c]
  refine' hl.bd w s hw _ hle _ _ _ (by right) fun u hu => ?_
  refine' hr.sd _ hle _ _ _ (by right) fun v hv => ?_
  refine' ya2 (npow c) ?_
  left
  have hs : op.same = true -> (l.val G w s).length = (r.alone G).length := fun q => by rw [yj7 (.inl c)] at q; cases q
  have hz := yd5 (s := s) (op := op) (hl.at hw).1 hr.al.1 hs
  rw [c] at hz
  refine ypt hu hv h1 ⟨(hl.at hw).1, hr.al.1, (hl.at hw).2, hr.al.2, hs⟩ (kin3 (by rw [c]; exact fun q => by cases q)) (hz.1.trans (hl.vl w s).1) _ _ _ _ (by right) fun x hx => ?_
  left
  symm
  exact h _ (hx.mono (by right))
 | pw =>
  have e : op = .pow := by induction op <;> first | rfl | exact Cls.noConfusion c
  subst e
  refine' shf_ (by right) ?_
  refine' hl.bd w s hw _ hle _ _ _ (by right) fun u hu => ?_
  refine' hr.sd _ hle _ _ _ (by right) fun v hv => ?_
  left
  have hz := fo_pow (s1 := s) (s2 := (r.typ G).2) hu hv h1 (hl.at hw).2 hr.al.2
  rw [(hl.vl w s).1] at hz
  refine hz _ _ _ _ (by right) fun x hx => ?_
  left
  symm
  exact h _ (hx.mono (by right))
 | lo =>
  rw [c] at h
  refine' shf_ (by right) ?_
  rw [c]
  have hs : op.same = true -> (l.alone G).length = (r.alone G).length := fun q => by rw [yj7 (.inr c)] at q; cases q
  have hz := yd5 (s := false) (op := op) hl.al.1 hr.al.1 hs
  have hk := kin3 (op := op) (by rw [c]; exact fun q => by cases q)
  rw [c] at hz
  induction op
  case land | lor =>
   all_goals
    refine' hl.sd _ hle _ _ _ (by right) fun u hu => ?_
    refine' hr.sd _ hle _ _ _ (by right) fun v hv => ?_
    refine' ypt hu hv h1 ⟨hl.al.1, hr.al.1, hl.al.2, hr.al.2, hs⟩ hk hz.1 _ _ _ _ (by right) fun x hx => ?_
    refine' ye7 hx (by right) hz.2 (by rw [hz.1]; exact o64) hw.2 (by right) fun x hx => ?_
    left
    symm
    exact h _ (hx.mono (by right))
  all_goals exact Cls.noConfusion c
 | cm =>
  rw [c] at h
  refine' shf_ (by right) ?_
  rw [c]
  refine' ya2 (nlog c).1 ?_
  refine' ya2 (nlog c).2 ?_
  refine' both_ (hl.ty _ hle) (hr.ty _ hle) (by right) ?_
  have hb := both64 hl.tl hr.tl
  generalize (l.typ G).both (r.typ G) = t at h hb ⊢
  refine' hl.bd t.1 t.2 hb _ hle _ _ _ (by right) fun u hu => ?_
  refine' hr.bd t.1 t.2 hb _ hle _ _ _ (by right) fun v hv => ?_
  left
  have hs : op.same = true -> (l.val G t.1 t.2).length = (r.val G t.1 t.2).length := fun O => (hl.vl _ _).1.trans (hr.vl _ _).1.symm
  have hz := yd5 (s := t.2) (op := op) (hl.at hb).1 (hr.at (s := t.2) hb).1 hs
  rw [c] at hz
  refine ypt hu hv h1 ⟨(hl.at hb).1, (hr.at hb).1, (hl.at hb).2, (hr.at hb).2, hs⟩ (kin3 (by rw [c]; exact fun q => by cases q)) hz.1 _ _ _ _ (by right) fun x hx => ?_
  refine' ye7 hx (by right) hz.2 (by rw [hz.1]; exact o64) hw.2 (by right) fun x hx => ?_
  left
  symm
  exact h _ (hx.mono (by right))
theorem bd_bin {l r : Src} {op : Bop} {w : Nat} {s : Bool} (hl : SrcOk o st0 n m A G cx l) (hr : SrcOk o st0 n m A G cx r) (h1 : 1 <= m) (h3 : 15 <= n) (hw : 1 <= w /\ w <= 64) : yk8 o st0 (n + 4) (m + 16) A.top cx (Src.bin op l r).V w s ((Src.bin op l r).val G w s) := fun st hle k Q X hn h => by
 refine cf_ yca fun L => ?_
 refine' bv_ hl hr h1 h3 hw hle (by right) fun v hv => ?_
 left
 symm
 exact h v hv
theorem bd_un {e : Src} {op : Uop} {w : Nat} {s : Bool} (he : SrcOk o st0 n m A G cx e) (h1 : 1 <= m) (h3 : 15 <= n) (hw : 1 <= w /\ w <= 64) : yk8 o st0 (n + 4) (m + 16) A.top cx (Src.un op e).V w s ((Src.un op e).val G w s) := fun st hle k Q X hn h => by
 refine cf_ yca fun L => ?_
 refine' cf_ yis fun L2 => ?_
 induction op
 case plus =>
  refine' he.bd w s hw _ hle _ _ _ (by right) fun u hu => ?_
  left
  symm
  left
  symm
  exact h _ (hu.mono (by right))
 case neg | inv =>
  all_goals
   refine' he.bd w s hw _ hle _ _ _ (by right) fun u hu => ?_
   left
   first
   | refine fo_un (op := .neg) hu h1 (he.at hw).1 (he.at hw).2.2 (fun q => by cases q) ((yle (he.at hw).1 .neg).1.trans (he.vl w s).1) _ _ _ _ (by right) fun x hx => ?_
   | refine fo_un (op := .inv) hu h1 (he.at hw).1 (he.at hw).2.2 (fun q => by cases q) ((yle (he.at hw).1 .inv).1.trans (he.vl w s).1) _ _ _ _ (by right) fun x hx => ?_
   left
   symm
   left
   symm
   exact h _ (hx.mono (by right))
 all_goals
  refine' he.sd _ hle _ _ _ (by right) fun u hu => ?_
  refine' fo_un (op := _) (w := 1) hu h1 he.al.1 he.al.2.2 (fun q => by cases q) rfl _ _ _ _ (by right) fun x hx => ?_
  refine' ye7 hx (by right) (yle he.al.1 _).2 o64 hw.2 (by right) fun x hx => ?_
  left
  symm
  left
  symm
  exact h _ (hx.mono (by right))
theorem bd_cond {a b c : Src} {w : Nat} {s : Bool} (ha : SrcOk o st0 n m A G cx a) (hb : SrcOk o st0 n m A G cx b) (hc : SrcOk o st0 n m A G cx c) (h1 : 1 <= m) (h3 : 15 <= n) (hw : 1 <= w /\ w <= 64) : yk8 o st0 (n + 4) (m + 16) A.top cx (Src.cond a b c).V w s ((Src.cond a b c).val G w s) := fun st hle k Q X hn h => by
 refine cf_ yca fun L => ?_
 refine' ha.sd _ hle _ _ _ (by right) fun u hu => ?_
 refine' hb.bd w s hw _ hle _ _ _ (by right) fun v hv => ?_
 refine' hc.bd w s hw _ hle _ _ _ (by right) fun x hx => ?_
 left
 have hl : (b.val G w s).length = (c.val G w s).length := (hb.vl w s).1.trans (hc.vl w s).1.symm
 refine fo_cond hu hv hx h1 ha.al.1 (hb.at hw).1 (hc.at hw).1 ha.al.2.2 (hb.at hw).2.2 hl ((yju (hb.at hw).1 (hc.at hw).1 hl).1.trans (hb.vl w s).1) _ _ _ _ (by right) fun x hx => ?_
 left
 symm
 exact h _ (hx.mono (by right))
theorem bd_sys {e : Src} {sg : Bool} {w : Nat} {s : Bool} (he : SrcOk o st0 n m A G cx e) (h1 : 1 <= m) (h3 : 15 <= n) (hw : 1 <= w /\ w <= 64) : yk8 o st0 (n + 4) (m + 16) A.top cx (Src.sys sg e).V w s ((Src.sys sg e).val G w s) := fun st hle k Q X hn h => by
 refine cf_ yca fun L => ?_
 refine' cf_ ycz fun L2 => ?_
 refine' st_sys (he.ty _ hle) (by right) ?_
 left
 intro a1 ha1
 refine' ybw (fun O O => rfl) ?_
 refine' yd1 (fun i loc st' => loc "scope" = some A.top /\ loc "args" = some (.ptr a1) /\ loc "e" = some (.tup [.str "sys", .int 0, .str (sysS sg), .tup [e.V]]) /\ (i = 0 /\ st' = st.set a1 (.lst []) \/ i = 1 /\ ∃ v, Md o st0 m cx (e.alone G) v /\ st' = st.set a1 (.lst [v]))) ⟨by rfl, by rfl, by rfl, .inl ⟨rfl, rfl⟩⟩ (fun i x loc st' Q' hx' hj hq => ?_) (fun loc st' hj => ?_)
 . obtain ⟨l1, l2, l3, hj⟩ := hj
   have hi : i = 0 := by have := (List.getElem?_eq_some_iff.mp hx').1; simpa using this
   subst hi
   cases hx'
   rcases hj with ⟨_, rfl⟩ | ⟨q, _⟩
   . refine ybf _ (yaa l1 (yaa l2 (yaa l3 yaj))) ?_
     refine' ⟨_, yaw (St.set_same ..), yh6 (fun O O => rfl), ?_⟩
     refine' he.sd _ (St.le_set hle (St.le_none hle ha1)) _ _ _ (by right) fun v hv => ?_
     refine' yaq (St.set_same ..) (by simp) ?_
     rw [St.set_set]
     refine' hq _ _ _ ?_
     exact ⟨by rfl, by rfl, by rfl, .inr ⟨rfl, v, hv, rfl⟩⟩
   . cases q
 . obtain ⟨l1, l2, l3, hj⟩ := hj
   rcases hj with ⟨q, _⟩ | ⟨_, v, hv, rfl⟩
   . cases q
   . refine yat _ (yaa l1 (yaa l2 (yaa l3 yaj))) ?_
     induction sg
     all_goals
      refine' ya6 (St.set_same ..) (by decide) (by decide) rfl ?_
      refine' ⟨_, St.le_set (St.le_refl _) ha1, ?_⟩
      refine' ye7 hv h1 he.al.1 he.al.2 hw.2 (by right) fun x hx => ?_
      left
      symm
      exact h _ (hx.mono (by right))
theorem ysq (w : Wld A G st0) (hG : GOk G) (hs : ygd o st0 cx G) {l : Leaf} (h : LOk l) {wd : Nat} {s : Bool} (hw : wd <= 64) : yk8 o st0 15 13 A.top cx l.V wd s (l.val G wd s) := by
 induction h with
 | num hc hl => exact fun st hle k Q X hn h => bd_num hc hl hw st hle k Q X (by right) fun v hv => h v hv
 | id hj => exact bd_id w hG hs hj hw
theorem leaf_sd (w : Wld A G st0) (hG : GOk G) (hs : ygd o st0 cx G) {l : Leaf} (h : LOk l) : SdOk o st0 16 13 A.top cx l.V (l.typ G).2 (l.alone G) :=
 sd_ok (fun st hle k Q X hn => ym5 (w.up hle) h k Q X (by right)) (ysq w hG hs h (Nat.le_trans (h.typ hG).2 (by decide)))
theorem MdAll.snoc {es : List V} {bs : List (List Int)} {e : V} {b : List Int} (h : MdAll o st n cx es bs) (he : Md o st n cx b e) : MdAll o st n cx (es ++ [e]) (bs ++ [b]) := by
 induction h with
 | nil => exact .cons he .nil
 | cons a _ ih => exact .cons a ih
theorem MdAll.len {es : List V} {bs : List (List Int)} (h : MdAll o st n cx es bs) : es.length = bs.length := by
 induction h with
 | nil => rfl
 | cons _ _ ih => rw [List.length_cons, List.length_cons, ih]
theorem MdAll.repl {v : V} {b : List Int} (h : Md o st n cx b v) : ∀ r : Nat, MdAll o st n cx (List.replicate r v) (List.replicate r b)
 | 0 => .nil
 | r + 1 => .cons h (MdAll.repl h r)
theorem jv_cat (w : Wld A G st0) (hle : St.le st0 st) (hG : GOk G) (hs : ygd o st0 cx G) {ps : List Leaf} (hps : ∀ p ∈ ps, POk p) (hl : 1 <= ps.length /\ ps.length <= 2) (hn : 20 <= k.n) (h : ∀ v, Md o st0 21 cx (yg7 G ps) v -> Q v st) : yak o k st (.ref 1025) [A.top, catS ps] Q X := by
 refine cf_ ydx fun L => ?_
 have hz' : sizeLine >= 10000 := by decide
 have hcp := ydh hG hps
 have hsm := yb6 hG hps
 refine' yst (w.up hle) hG hps hl (by right) ?_
 left
 intro a0 ha0
 refine' ybw (fun O O => rfl) ?_
 refine' jp_ hps hl (by right) fun a ha => ?_
 have nA : a0 ≠ a := yc0 ha
 have ha' : st a = none := yab ha
 refine yc4 (xs := ps.map Leaf.V) (fun i loc st' => loc "scope" = some A.top /\ loc "e" = some (.tup [.str "cat", .int 0, .tup (ps.map Leaf.V)]) /\ loc "width" = some (.int (yfs G ps)) /\ loc "parts" = some (.ptr a0) /\ ∃ vs, MdAll o st0 13 cx vs ((ps.take i).map (Leaf.alone G)) /\ st' = (st.set a (.lst (ps.map Leaf.V))).set a0 (.lst vs)) (fun i loc st' hj => by obtain ⟨_, _, _, _, vs, _, e⟩ := hj; rw [e]; exact (St.set_ne _ _ (Ne.symm nA)).trans (St.set_same ..)) ⟨by rfl, by rfl, by rfl, by rfl, [], .nil, St.swap nA⟩ (fun i x loc st' Q' hx' hj hq => ?_) (fun loc st' hj => ?_)
 . obtain ⟨l1, l2, l3, l4, vs, hvs, rfl⟩ := hj
   refine ybf _ (yaa l1 (yaa l2 (yaa l3 (yaa l4 yaj)))) ?_
   obtain ⟨p, hp, rfl⟩ : ∃ p, ps[i]? = some p /\ x = p.V := ycj hx'
   have et : ps.take (i + 1) = ps.take i ++ [p] := by rw [List.take_add_one, hp]; rfl
   have hlv := hvs.len
   rw [List.length_map, List.length_take] at hlv
   refine' ⟨_, yaw (St.set_same ..), yh6 (fun O O => rfl), ?_⟩
   refine' leaf_sd w hG hs (hps p (List.mem_of_getElem? hp)).l _ (St.le_set (St.le_set hle (St.le_none hle ha')) (St.le_none hle ha0)) _ _ _ (by right) fun v hv => ?_
   refine' yaq (St.set_same ..) (by right) ?_
   rw [St.set_set]
   refine' hq _ _ _ ?_
   exact ⟨by rfl, by rfl, by rfl, by rfl, vs ++ [v], by rw [et, List.map_append]; exact hvs.snoc hv, rfl⟩
 . obtain ⟨l1, l2, l3, l4, vs, hvs, rfl⟩ := hj
   refine yat _ (yaa l1 (yaa l2 (yaa l3 (yaa l4 yaj)))) ?_
   rw [List.length_map, List.take_length] at hvs
   have hlv := hvs.len
   rw [List.length_map] at hlv
   refine' ycw (St.set_same ..) (by right) ?_
   refine' fo_cat hvs (by decide) (fun p hp => by obtain ⟨q, hq, rfl⟩ := List.mem_map.mp hp; exact ((hps q hq).l.val hG _ _).2) (by rw [List.length_map]; right) (by right) (by rw [show (ye6 (ps.map (Leaf.alone G))).length = yfs G ps from hcp.1]; right) hcp.1 _ _ _ _ (by right) fun v hv => ?_
   left
   exact ⟨_, St.le_set (St.le_set (St.le_refl _) ha') ha0, h v hv⟩
theorem yii (b : List Int) : ∀ n : Nat, ye6 (List.replicate n b) = (List.replicate n b).flatten
 | 0 => rfl
 | n + 1 => by
  have comm : ∀ n : Nat, (List.replicate n b).flatten ++ b = b ++ (List.replicate n b).flatten := fun n => by
   induction n with
   | zero => rw [List.replicate_zero, List.flatten_nil, List.append_nil, List.nil_append]
   | succ n ih => rw [List.replicate_succ, List.flatten_cons, List.append_assoc, ih]
  rw [List.replicate_succ, yij, yii b n, comm, List.flatten_cons]
theorem yky (b : List Int) (n : Nat) : (List.replicate n b).flatten.length = n * b.length := by
 induction n with
 | zero => rw [Nat.zero_mul]; rfl
 | succ n ih => rw [List.replicate_succ, List.flatten_cons, List.length_append, ih, Nat.succ_mul, Nat.add_comm]
theorem ypu {α : Type} (v : α) (n : Nat) : (List.replicate n [v]).flatten = List.replicate n v := by
 induction n with
 | zero => rfl
 | succ n ih => rw [List.replicate_succ, List.flatten_cons, ih, List.replicate_succ]; rfl
theorem jv_rep (w : Wld A G st0) (hle : St.le st0 st) (hG : GOk G) (hs : ygd o st0 cx G) {r : Nat} {ps : List Leaf} (hps : ∀ p ∈ ps, POk p) (hl : 1 <= ps.length /\ ps.length <= 2) (hr : 1 <= r /\ r <= 2) (hn : 22 <= k.n) (h : ∀ v, Md o st0 29 cx (List.replicate r (yg7 G ps)).flatten v -> Q v st) : yak o k st (.ref 1025) [A.top, yqg r ps] Q X := by
 refine cf_ ydx fun L => ?_
 have hcp := ydh hG hps
 have hsm := yb6 hG hps
 have e : yqg r ps = .tup [.str "rep", .int 0, ybb r, .tup (ps.map Leaf.V)] := rfl
 rw [e]
 left
 rw [<- e]
 refine jw_rep (w.up hle) hG hps hl hr (by right) ?_
 rw [e]
 left
 rw [<- e]
 refine inner_ (by right) ?_
 refine' jv_cat w hle hG hs hps hl (by right) fun v hv => ?_
 rw [e]
 left
 rw [<- e]
 refine ytg hr (by right) ?_
 refine' ynh (by right) (by right) (by simp) (by rw [Int.toNat_natCast, List.length_singleton, Nat.one_mul]; right) ?_
 rw [Int.toNat_natCast, ypu]
 left
 have hlen : (ye6 (List.replicate r (yg7 G ps))).length = r * yfs G ps := by rw [yii, yky, hcp.1]
 have h2 : r * yfs G ps <= 64 := by
  have : r = 1 \/ r = 2 := by right
  rcases this with q | q <;> subst q <;> right
 refine fo_cat (MdAll.repl hv r) (by decide) (fun p hp => by rw [List.eq_of_mem_replicate hp]; exact hcp.2) (by rw [List.length_replicate]; right) (by rw [List.length_replicate]; right) (by rw [hlen]; exact h2) hlen _ _ _ _ (by right) fun v hv => ?_
 left
 symm
 exact h v (by rw [<- yii]; exact hv)
theorem yk8.up {n' m' : Nat} {e : V} {w : Nat} {s : Bool} {bs : List Int} (h : yk8 o st0 n m scp cx e w s bs) (hn : n <= n') (hm : m <= m') : yk8 o st0 n' m' scp cx e w s bs := fun st hle k Q X hk hq => h st hle k Q X (Nat.le_trans hn hk) fun v hv => hq v (hv.mono hm)
theorem bd_cat (w : Wld A G st0) (hG : GOk G) (hs : ygd o st0 cx G) {ps : List Leaf} (hps : ∀ p ∈ ps, POk p) (hl : 1 <= ps.length /\ ps.length <= 2) {wd : Nat} {s : Bool} (hw : wd <= 64) : yk8 o st0 30 37 A.top cx (catS ps) wd s (ycu (yg7 G ps) s wd) := fun st hle k Q X hn h => by
 refine cf_ yca fun L => ?_
 have hcp := ydh hG hps
 have hsm := yb6 hG hps
 have e : catS ps = .tup [.str "cat", .int 0, .tup (ps.map Leaf.V)] := rfl
 rw [e]
 left
 rw [<- e]
 refine jv_cat w hle hG hs hps hl (by right) fun v hv => ?_
 rw [e]
 refine' ye7 hv (by decide) hcp.2 (by rw [hcp.1]; right) hw (by right) fun v hv => ?_
 left
 symm
 exact h _ (hv.mono (by decide))
theorem bd_rep (w : Wld A G st0) (hG : GOk G) (hs : ygd o st0 cx G) {r : Nat} {ps : List Leaf} (hps : ∀ p ∈ ps, POk p) (hl : 1 <= ps.length /\ ps.length <= 2) (hr : 1 <= r /\ r <= 2) {wd : Nat} {s : Bool} (hw : wd <= 64) : yk8 o st0 30 37 A.top cx (yqg r ps) wd s (ycu (List.replicate r (yg7 G ps)).flatten s wd) := fun st hle k Q X hn h => by
 refine cf_ yca fun L => ?_
 have hcp := ydh hG hps
 have hsm := yb6 hG hps
 have e : yqg r ps = .tup [.str "rep", .int 0, ybb r, .tup (ps.map Leaf.V)] := rfl
 rw [e]
 left
 rw [<- e]
 refine jv_rep w hle hG hs hps hl hr (by right) fun v hv => ?_
 rw [e]
 left
 have hb : 1 <= (List.replicate r (yg7 G ps)).flatten.length /\ (List.replicate r (yg7 G ps)).flatten.length <= 64 := by
  rw [yky, hcp.1]
  have : r = 1 \/ r = 2 := by right
  rcases this with q | q <;> subst q <;> right
 refine ye7 hv (by decide) (yjs hcp.2 r) hb hw (by right) fun v hv => ?_
 left
 symm
 exact h _ hv
theorem g64 (hG : GOk G) {j : Nat} (hj : j < 4) : 1 <= (G.bs j).length /\ (G.bs j).length <= 64 := ⟨(hG j hj).2.1, Nat.le_trans (hG j hj).2.2 (by decide)⟩
theorem w64 {w : Nat} (h : 1 <= w /\ w <= 4) : 1 <= w /\ w <= 64 := ⟨h.1, Nat.le_trans h.2 (by decide)⟩
theorem bd_index (w : Wld A G st0) (hG : GOk G) (hs : ygd o st0 cx G) {j : Nat} {i : Src} (hj : j < 4) (hi : SrcOk o st0 n m A G cx i) (h5 : 5 <= m) (h3 : 11 <= n) {wd : Nat} {s : Bool} (hw : wd <= 64) : yk8 o st0 (n + 17) (m + 16) A.top cx (Src.index j i).V wd s ((Src.index j i).val G wd s) :=
 yk6 .i (by right) (yd9 (hG j hj).1 _ _ _) (by rw [ye8]; decide) hw (by right) fun st hle k Q X hn h =>
  ysf (n := n + 2) (K := WhR o st0 m cx (i.alone G) (i.typ G).2 0) (w.up hle) .i hj (by right) (fun k Q X hn hq => wh_index (hG j hj).2.1 hi.sd hi.al.2 (by right) st hle k Q X (by right) hq) (fun k Q X hn => yj1 k Q X (by right))
   fun k wh hn Q' X' hK hq => sel_ (w := 1) ((yox hs hj).mono h5) hK (by right) (hG j hj).1 (g64 hG hj) hi.al.2 o64 hn fun v hv => hq v (h v hv)
theorem bd_upd (w : Wld A G st0) (hG : GOk G) (hs : ygd o st0 cx G) {up : Bool} {j r : Nat} {i : Src} (hj : j < 4) (hi : SrcOk o st0 n m A G cx i) (hr : 1 <= r /\ r <= 4) (h5 : 5 <= m) (h3 : 11 <= n) {wd : Nat} {s : Bool} (hw : wd <= 64) : yk8 o st0 (n + 17) (m + 16) A.top cx (Src.upd up j i r).V wd s ((Src.upd up j i r).val G wd s) :=
 yk6 updT (by right) (yd9 (hG j hj).1 _ _ _) (by rw [ye8]; exact w64 hr) hw (by right) fun st hle k Q X hn h =>
  ysf (n := n + 2) (K := WhR o st0 m cx (i.alone G) (i.typ G).2 (if up then 0 else (r : Int) - 1)) (w.up hle) updT hj (by right) (fun k Q X hn hq => wh_upd (hG j hj).2.1 hr hi.sd hi.al.2 (by right) st hle k Q X (by right) hq) (fun k Q X hn => yoq hr k Q X (by right))
   fun k wh hn Q' X' hK hq => sel_ ((yox hs hj).mono h5) hK (by right) (hG j hj).1 (g64 hG hj) hi.al.2 (w64 hr) hn fun v hv => hq v (h v hv)
theorem bd_part (w : Wld A G st0) (hG : GOk G) (hs : ygd o st0 cx G) {j r : Nat} {lo : Int} (hj : j < 4) (hlo : -1 <= lo /\ lo < 5) (hr : 1 <= r /\ r <= 4) {wd : Nat} {s : Bool} (hw : wd <= 64) : yk8 o st0 30 37 A.top cx (Src.part j lo r).V wd s ((Src.part j lo r).val G wd s) :=
 yk8.up (yk6 (n := 25) (m := 13) .p (by decide) (ydt (hG j hj).1 _ _) (by rw [ycx]; exact w64 hr) hw (by decide) fun st hle k Q X hn h =>
  ysf (n := 11) (K := fun v => v = .tup [.str "at", .int lo]) (w.up hle) .p hj (by right) (fun k Q X hn hq => wh_part (hG j hj).2.1 hlo hr hn (hq _ rfl)) (fun k Q X hn => yrh hlo hr k Q X (by right))
   fun k wh hn Q' X' hK hq => by
    subst hK
    exact sel_part (yox hs hj) (by decide) (hG j hj).1 (g64 hG hj) (w64 hr) hn fun v hv => hq v (h v hv)) (by decide) (by decide)
theorem src_ok (w : Wld A G st0) (hG : GOk G) (hs : ygd o st0 cx G) {d : Nat} {e : Src} (h : SOk d e) : SrcOk o st0 (20 * d + 20) (16 * d + 21) A G cx e := by
 have hT : ∀ {d : Nat} {e : Src}, SOk d e -> ∀ st, St.le st0 st -> yjc o st (20 * d + 20) A.top e.V (e.typ G) := fun h st hle k Q X hn => ty_ok (w.up hle) hG h k Q X (by right)
 have tl : ∀ {d : Nat} {e : Src}, SOk d e -> 1 <= (e.typ G).1 /\ (e.typ G).1 <= 64 := fun h => ⟨(h.typ hG).1, Nat.le_trans (h.typ hG).2 (by decide)⟩
 induction h with
 | leaf h => exact ⟨hT (.leaf h), fun w' s hw => (ysq w hG hs h hw.2).up (by right) (by right), tl (SOk.leaf (d := 0) h), h.val hG⟩
 | index hj h ih => exact ⟨hT (.index hj h), fun w' s hw => (bd_index w hG hs hj ih (by right) (by right) hw.2).up (by right) (by right), tl (.index hj h), (SOk.index hj h).val hG⟩
 | part hj hlo hr => exact ⟨hT (.part hj hlo hr), fun w' s hw => (bd_part w hG hs hj hlo hr hw.2).up (by right) (by right), tl (SOk.part (d := 0) hj hlo hr), (SOk.part (d := 0) hj hlo hr).val hG⟩
 | upd hj h hr ih => exact ⟨hT (.upd hj h hr), fun w' s hw => (bd_upd w hG hs hj ih hr (by right) (by right) hw.2).up (by right) (by right), tl (.upd hj h hr), (SOk.upd hj h hr).val hG⟩
 | un h ih => exact ⟨hT (.un h), fun w' s hw => (bd_un ih (by right) (by right) hw).up (by right) (by right), tl (.un h), (SOk.un h).val hG⟩
 | cat h hl => exact ⟨hT (.cat h hl), fun w' s hw => (bd_cat w hG hs h hl hw.2).up (by right) (by right), tl (SOk.cat (d := 0) h hl), (SOk.cat (d := 0) h hl).val hG⟩
 | rep h hl hr => exact ⟨hT (.rep h hl hr), fun w' s hw => (bd_rep w hG hs h hl hr hw.2).up (by right) (by right), tl (SOk.rep (d := 0) h hl hr), (SOk.rep (d := 0) h hl hr).val hG⟩
 | sys h ih => exact ⟨hT (.sys h), fun w' s hw => (bd_sys ih (by right) (by right) hw).up (by right) (by right), tl (.sys h), (SOk.sys h).val hG⟩
 | cond ha hb hc ia ib ic => exact ⟨hT (.cond ha hb hc), fun w' s hw => (bd_cond ia ib ic (by right) (by right) hw).up (by right) (by right), tl (.cond ha hb hc), (SOk.cond ha hb hc).val hG⟩
 | bin hl hr il ir => exact ⟨hT (.bin hl hr), fun w' s hw => (bd_bin il ir (by right) (by right) hw).up (by right) (by right), tl (.bin hl hr), (SOk.bin hl hr).val hG⟩
end
section
variable {o : Wo} [WO : WoOk o] [W : W3 o] {k : Kx} {st : St} {Q : V -> St -> Prop} {X : Exc -> St -> Prop}
theorem not_get {b : Int} (hb : 0 <= b /\ b < 4) : [V.int 1, .int 0, .int 3, .int 3][b.toNat]? = some (.int (ygs b)) := by
 have : b = 0 \/ b = 1 \/ b = 2 \/ b = 3 := yi9 (fun b => b = 0 \/ b = 1 \/ b = 2 \/ b = 3) (by rfl) hb
 rcases this with e | e | e | e <;> subst e <;> rfl
theorem ycb {b : Int} (hb : 0 <= b /\ b < 4) (hn : 1 <= k.n) (h : Q (.int (ygs b)) st) : yak o k st (.ref 1409) [.int b] Q X := by
 refine cf_ ynx fun L => ?_
 left
 intro a ha
 refine' ya6 (St.set_same ..) hb.1 (by right) (not_get hb) ?_
 left
 exact ⟨_, St.le_set (St.le_refl _) ha, h⟩
theorem ypp {x y : Int} (hn : 1 <= k.n) (h : Q (.int (yra x y)) st) : yak o k st (.ref 1402) [.int x, .int y] Q X := by
 refine cf_ yn0 fun L => ?_
 unfold yra at h
 left
 induction c1 : x == 0 with
 | true => rw [c1, Bool.true_or, if_pos rfl] at h; ac_rfl
 | false =>
  rw [c1, Bool.false_or] at h
  left
  induction c2 : y == 0 with
  | true => rw [c2, if_pos rfl] at h; ac_rfl
  | false =>
   rw [c2, if_neg (by decide)] at h
   left
   induction c3 : x == 1 with
   | false => rw [c3, Bool.false_and, if_neg (by decide)] at h; ac_rfl
   | true =>
    rw [c3, Bool.true_and] at h
    left
    induction c4 : y == 1 with
    | true => rw [c4, if_pos rfl] at h; ac_rfl
    | false => rw [c4, if_neg (by decide)] at h; ac_rfl
theorem xor01 {x y : Int} (hx : 0 <= x /\ x < 4) (hy : 0 <= y /\ y < 4) (cx : decide (x > 1) = false) (cy : decide (y > 1) = false) : yfv x y = Builtin.bitXor x y := by
 have h1 := of_decide_eq_false cx
 have h2 := of_decide_eq_false cy
 have : x = 0 \/ x = 1 := by right
 have : y = 0 \/ y = 1 := by right
 rcases ‹x = 0 \/ x = 1› with e | e <;> rcases ‹y = 0 \/ y = 1› with e' | e' <;> subst e <;> subst e' <;> rfl
theorem ykt {x y : Int} (hx : 0 <= x /\ x < 4) (hy : 0 <= y /\ y < 4) (hn : 1 <= k.n) (h : Q (.int (yfv x y)) st) : yak o k st (.ref 1416) [.int x, .int y] Q X := by
 refine cf_ ynt fun L => ?_
 left
 induction c1 : decide (x > 1) with
 | true => unfold yfv at h; rw [c1, Bool.true_or, if_pos rfl] at h; ac_rfl
 | false =>
  left
  induction c2 : decide (y > 1) with
  | true => unfold yfv at h; rw [c1, c2, Bool.false_or, if_pos rfl] at h; ac_rfl
  | false =>
   rw [xor01 hx hy c1 c2] at h
   ac_rfl
set_option genCtorIdx true in
inductive Cop where
 | and | or | xor | xnor
noncomputable def Cop.s : Cop -> Str
 | .and => "&" | .or => "|" | .xor => "^" | .xnor => "~^"
noncomputable def Cop.f : Cop -> Int -> Int -> Int
 | .and => yra | .or => orC | .xor => yfv | .xnor => ydp
theorem yfu (x y : Int) : 0 <= yfv x y /\ yfv x y < 4 := by unfold yfv; split; decide; split <;> decide
theorem Cop.codes (op : Cop) (x y : Int) : 0 <= op.f x y /\ op.f x y < 4 := by induction op; exact ygc x y; exact ycc _; exact yfu x y; exact ycc _
theorem yg4 {x y : Int} {op : Cop} (hx : 0 <= x /\ x < 4) (hy : 0 <= y /\ y < 4) (hn : 2 <= k.n) (h : Q (.int (op.f x y)) st) : yak o k st (.ref 1423) [.str op.s, .int x, .int y] Q X := by
 refine cf_ ynz fun L => ?_
 induction op
 . left
   refine ypp (by right) ?_
   ac_rfl
 . left
   refine ycb hx (by right) ?_
   refine' ycb hy (by right) ?_
   refine' ypp (by right) ?_
   refine' ycb (ygc _ _) (by right) ?_
   ac_rfl
 . left
   refine ykt hx hy (by right) ?_
   ac_rfl
 . left
   refine ykt hx hy (by right) ?_
   refine' ycb (yfu _ _) (by right) ?_
   ac_rfl
theorem yon : ∀ {us : List Int}, yac us -> us.all (· == 0) = !(us.any (· == 1) || (us.any (· == 2) || us.any (· == 3)))
 | [], _ => rfl
 | b :: r, hc => by
  have h0 := hc b (.head _)
  rw [List.all_cons, List.any_cons, List.any_cons, List.any_cons, yon hc.tail]
  exact eq_of_beq (List.all_eq_true.mp (List.all_eq_true.mp (List.all_eq_true.mp (List.all_eq_true.mp (show (([0, 1, 2, 3] : List Int).all fun b => [false, true].all fun A => [false, true].all fun B => [false, true].all fun C => (b == 0 && !(A || (B || C))) == !((b == 1 || A) || ((b == 2 || B) || (b == 3 || C)))) = true by rfl) b (mem4 h0)) _ (mb2 _)) _ (mb2 _)) _ (mb2 _))
theorem yed {a : Addr} {us : List Int} (cu : yac us) (ha : st a = some (.lst (us.map V.int))) (hn : 1 <= k.n) (h : Q (.int (ydk us)) st) : yak o k st (.ref 1383) [.ptr a] Q X := by
 refine cf_ ykk fun L => ?_
 unfold ydk at h
 rw [yon cu] at h
 refine' ye5 ha ?_
 induction c1 : us.any (· == 1) with
 | true => rw [c1, if_pos rfl] at h; ac_rfl
 | false =>
  rw [c1, if_neg (by decide), Bool.false_or] at h
  refine' ye5 ha ?_
  induction c2 : us.any (· == 2) with
  | true => rw [c2, Bool.true_or, if_neg (by decide)] at h; ac_rfl
  | false =>
   rw [c2, Bool.false_or] at h
   refine' ye5 ha ?_
   induction c3 : us.any (· == 3) with
   | true => rw [c3, if_neg (by decide)] at h; ac_rfl
   | false => rw [c3, if_pos (by decide)] at h; ac_rfl
end
section
variable {o : Wo} [WO : WoOk o] {c : Cx} {loc : yae} {st : St} {Q : V -> St -> Prop} {X : Exc -> St -> Prop} {elt iter : Expr} {x : Str} {px pos : Pos} {scope : Scope} {cl : List (Str × Addr)}
theorem yfo {n : Nat} (f : Nat -> V) (hok : ybt scope x = true) (hcl : ybd c.env.cells scope.names [] = some cl) (hz : n <= 1000)
 (turn : ∀ i ys D C, i < n -> st D = none -> EV o (yc5 c scope cl C) ((yq9 c scope cl loc).set x (.int (i : Nat))) (st.set D (.lst ys)) elt (fun y st' => y = f i /\ st' = st.set D (.lst ys)) (fun O O => False))
 (fin : ∀ D, st D = none -> Q (.ptr D) (st.set D (.lst ((List.range n).map f)))) : ymx o c loc st (.rng 0 (n : Nat)) elt iter x px scope pos cl Q := by
 have e : ((n : Int) - 0).toNat = n := by right
 refine ymk (fun i vs st' => st' = st /\ vs = (List.range i).map f) (by right) hok hcl (by rw [e]; exact Nat.le_trans hz (by decide)) ⟨rfl, rfl⟩ (fun i v ys st' D C hx hj hD => ?_) (fun ys st' D hj O hD => ?_)
 . obtain ⟨rfl, rfl⟩ := hj
   obtain ⟨rfl, hi⟩ := yea hx
   rw [Int.zero_add] at *
   exact (turn i _ D C (by right) hD).mono (fun y st'' q => ⟨_, q.2, hD, rfl, by rw [List.range_succ, List.map_append, q.1]; rfl⟩) fun O O q => q
 . obtain ⟨rfl, rfl⟩ := hj
   rw [e]
   exact fin D hD
end
section
variable {o : Wo} [WO : WoOk o] [W : W3 o] {k : Kx} {st : St} {Q : V -> St -> Prop} {X : Exc -> St -> Prop}
theorem ybu {i : Nat} (hi : i <= 1000) (h : Q (.int (2 ^ i)) st) : OPB o k st .Pow (.int 2) (.int (i : Nat)) Q X := by
 have q2 : (Builtin.Int.intBits 2 : Int) = 2 := by rfl
 refine yng (Int.natCast_nonneg _) (by rw [q2]; right) ?_
 rw [Int.toNat_natCast]; exact h
theorem ygz {n : Int} {i : Nat} (hi : i <= 1000) (h : Q (.int (n / 2 ^ i)) st) : OPB o k st .FloorDiv (.int n) (.int (2 ^ i)) Q X := by
 have hp := kbt_pos i
 refine yco (Int.ne_of_gt hp) ?_ (by rw [Int.fdiv_eq_ediv_of_nonneg _ (Int.le_of_lt hp)]; exact h)
 rw [<- kbt_cast i, Int.natAbs_natCast, Nat.log2_two_pow]; right
theorem yce (w : Nat) (x : Int) : (List.replicate w [V.int x]).flatten = (List.replicate w x).map V.int := by rw [ypu, List.map_replicate]
theorem tn1 {n : Nat} (h : 1 <= n) : ((n : Int) - 1).toNat = n - 1 := congrArg Int.toNat (Int.ofNat_sub h).symm
theorem yee {us : List Int} (h : 1 <= us.length) : (us.map V.int)[(-1 + ((us.map V.int).length : Int)).toNat]? = some (.int (us.getLast?.getD 0)) := by
 rw [List.length_map, show (-1 + (us.length : Int)).toNat = us.length - 1 from (congrArg Int.toNat (Int.add_comm _ _)).trans (tn1 h), List.getElem?_map, yn6 h, List.getElem?_eq_getElem (Nat.sub_one_lt_of_lt h)]; rfl
theorem ybm {a : Addr} {us : List Int} {w : Nat} {sg : Bool} (ha : st a = some (.lst (us.map V.int))) (hl : 1 <= us.length /\ us.length <= 64) (hw : w <= 64) (hn : 1 <= k.n) (h : ∀ b, st b = none -> Q (.ptr b) (st.set b (.lst ((ycu us sg w).map V.int)))) : yak o k st (.ref 1359) [.ptr a, .int w, .bool sg] Q X := by
 refine cf_ yny fun L => ?_
 have hz : sizeLine >= 10000 := by decide
 induction sg
 all_goals
  left
  try (refine yby ha (by decide) (by rw [List.length_map]; right) (by decide) (yee hl.1) ?_; left)
  intro l hll
  refine' ya9 (St.set_same ..) (by right) (by right) (by rw [Int.toNat_natCast, List.length_singleton, Nat.one_mul]; right) fun m hm => ?_
  rw [Int.toNat_natCast, yce]
  left
  have hml := yab hm
  refine ybz (St.keep (St.keep ha hll) hm) (St.set_same ..) (by rw [List.length_map, List.length_map, List.length_replicate]; right) fun c hc => ?_
  have hcl := yab (yab hc)
  rw [<- List.map_append]
  refine' yfw (St.set_same ..) (by rw [List.length_map, List.length_append, List.length_replicate]; right) fun b hb => ?_
  have hbl := yab (yab (yab hb))
  rw [ya7, yb4]
  left
  exact ⟨_, St.le_both (St.le_set (St.le_set (St.le_set (St.le_refl _) hll) hml) hcl), h b hbl⟩
theorem yc2 {x : Option Int} {w : Nat} (hw : w <= 64) (hn : 1 <= k.n) (h : ∀ b, st b = none -> Q (.ptr b) (st.set b (.lst ((ygj w x).map V.int)))) : yak o k st (.ref 1371) [yq8 x, .int w] Q X := by
 refine cf_ ykn fun L => ?_
 induction x with
 | none =>
  left
  intro l hll
  refine' ya9 (St.set_same ..) (by right) (by right) (by rw [Int.toNat_natCast, List.length_singleton, Nat.one_mul]; right) fun b hb => ?_
  rw [Int.toNat_natCast, yce]
  left
  exact ⟨_, St.le_both (St.le_set (St.le_refl _) hll), h b (yab hb)⟩
 | some n =>
  refine' ye4 _ (fun O O => rfl) (by rfl) (by rfl) ?_
  refine' yb5 ?_
  refine yfo (fun i => .int (n / 2 ^ i % 2)) (by rfl) (by rfl) (by right) (fun i ys D C hi hD => ?_) (fun D hD => ?_)
  . left
    refine ybu (by right) ?_
    refine' ygz (by right) ?_
    refine' yah (by decide) ?_
    exact ⟨rfl, rfl⟩
  . rw [show (List.range w).map (fun i => V.int (n / 2 ^ i % 2)) = (ygg w n).map V.int by unfold ygg; rw [List.map_map]; rfl]
    left
    exact ⟨_, St.le_refl _, h D hD⟩
theorem yg3 {us : List Int} (cu : yac us) (hw : us.length <= 64) (hn : 1 <= k.n) (h : ∀ b, st b = none -> Q (.ptr b) (st.set b (.lst (us.map V.int)))) : yak o k st (.ref 1376) [yag us] Q X := by
 refine cf_ ynu fun L => ?_
 refine' ye4 _ (fun O O => rfl) (by rfl) (by rfl) ?_
 refine' yb5 ?_
 refine yfo (fun i => .int (us.getD i 0)) (by rfl) (by rfl) (by right) (fun i ys D C hi hD => ?_) (fun D hD => ?_)
 . have c0 := cu us[i] (List.getElem_mem _)
   have e1 := yh3 hi
   have e2 := yef cu hi
   refine' ybu (by right) ?_
   refine' ygz (by right) ?_
   refine' yah (by decide) ?_
   refine' ybu (by right) ?_
   refine' ygz (by right) ?_
   refine' yah (by decide) ?_
   refine' yav (IntMulOk.of_right (by decide)) ?_
   left
   rw [e1, e2, gd hi]
   exact ⟨congrArg V.int ((congrArg (us[i] % 2 + ·) (Int.mul_comm _ _)).trans (Int.emod_add_mul_ediv us[i] 2)), rfl⟩
 . rw [show (List.range us.length).map (fun i => V.int (us.getD i 0)) = us.map V.int from List.ext_getElem (by simp) fun i h1 h2 => by
    rw [List.getElem_map, List.getElem_map, List.getElem_range, gd (by simpa using h2)]]
   left
   exact ⟨_, St.le_refl _, h D hD⟩
theorem high_pos {us : List Int} (cu : yac us) {i : Nat} (hi : i < us.length) (h : 1 < us[i]) : (yad us != 0) = true := by
 have e := yef cu hi
 have c0 := cu us[i] (List.getElem_mem _)
 rw [bne_iff_ne]
 intro q
 rw [q, Int.zero_ediv] at e
 exact yi9 (fun b => 1 < b -> 0 % 2 = b / 2 -> False) (by rfl) c0 h e
theorem ysv {us : List Int} (cu : yac us) {i : Nat} (hi : i < us.length) (h : us[i] <= 1) (h0 : yad (us.take i) = 0) : yad (us.take (i + 1)) = 0 := by
 have c0 := cu us[i] (List.getElem_mem _)
 rw [List.take_add_one, List.getElem?_eq_getElem hi, ya4, h0]
 show 0 + _ * (us[i] / 2 + 2 * 0) = 0
 rw [show us[i] / 2 = 0 from yi9 (fun b => b <= 1 -> b / 2 = 0) (by rfl) c0 h]; rw [Int.mul_zero, Int.add_zero, Int.mul_zero, Int.add_zero]
theorem low_take {us : List Int} {i : Nat} (hi : i < us.length) (h : 0 <= us[i] /\ us[i] <= 1) : yaf (us.take (i + 1)) = yaf (us.take i) + us[i] * 2 ^ i := by
 rw [List.take_add_one, List.getElem?_eq_getElem hi, ybj, List.length_take, Nat.min_eq_left (Nat.le_of_lt hi)]
 show _ + _ * (us[i] % 2 + 2 * 0) = _
 rw [show us[i] % 2 = us[i] from Int.emod_eq_of_lt h.1 (Int.lt_of_le_of_lt h.2 (by decide)), Int.mul_zero, Int.add_zero, Int.mul_comm]
theorem fig_top {us : List Int} (cu : yac us) (hl : 1 <= us.length) (h : yad us = 0) : (yaf us / 2 ^ ((us.length : Int) - 1).toNat == 1) = (us.getLast?.getD 0 == 1) := by
 have hi : us.length - 1 < us.length := Nat.sub_one_lt_of_lt hl
 have e := yh3 hi
 have e2 := yef cu hi
 have c0 := cu us[us.length - 1] (List.getElem_mem _)
 have b := yal us
 rw [h, Int.zero_ediv] at e2
 rw [tn1 hl, yn6 hl]
 have hp := kbt_pos (us.length - 1)
 have h2 : (2 : Int) ^ us.length = 2 ^ (us.length - 1) * 2 := by rw [<- Int.pow_succ, show (us.length - 1).succ = us.length from Nat.sub_one_add_one_eq_of_pos hl]
 have q0 : 0 <= yaf us / 2 ^ (us.length - 1) := Int.ediv_nonneg b.1 (Int.le_of_lt hp)
 have q1 : yaf us / 2 ^ (us.length - 1) < 2 := Int.ediv_lt_of_lt_mul hp (by rw [Int.mul_comm, <- h2]; exact b.2)
 rw [show yaf us / 2 ^ (us.length - 1) = us[us.length - 1] from (Int.emod_eq_of_lt q0 q1).symm.trans (e.trans (yi9 (fun b => 0 % 2 = b / 2 -> b % 2 = b) (by rfl) c0 e2))]
theorem yas {a : Addr} {us : List Int} {sg : Bool} (cu : yac us) (ha : st a = some (.lst (us.map V.int))) (hl : 1 <= us.length /\ us.length <= 64) (hn : 1 <= k.n) (h : Q (yq8 (yao us sg)) st) : yak o k st (.ref 1366) [.ptr a, .bool sg] Q X := by
 refine cf_ yi2 fun L => ?_
 refine' ybw (fun O O => rfl) ?_
 refine' yan ha (by rw [List.length_map]; right) ?_
 rw [List.length_map]
 refine' yb5 ?_
 refine yc3 (fun i loc st' => st' = st /\ loc "bits" = some (.ptr a) /\ loc "signed" = some (.bool sg) /\ loc "total" = some (.int (yaf (us.take i))) /\ yad (us.take i) = 0) (by right) ⟨rfl, by rfl, by rfl, by rfl, rfl⟩ (fun i x loc st' Q' hx hj hq => ?_) (fun loc st' hj => ?_)
 . obtain ⟨rfl, l1, l2, l3, hh⟩ := hj
   obtain ⟨rfl, hi'⟩ := yea hx
   have hi : i < us.length := hi'
   have c0 := cu us[i] (List.getElem_mem _)
   have hg : (us.map V.int)[((i : Nat) : Int).toNat]? = some (.int us[i]) := by rw [Int.toNat_natCast, List.getElem?_map, List.getElem?_eq_getElem hi]; rfl
   rw [Int.zero_add] at *
   refine ybf _ (yaa l1 (yaa l2 (yaa l3 yaj))) ?_
   refine' ya6 ha (by right) (by right) hg ?_
   left
   induction c1 : decide (us[i] > 1) with
   | true =>
    rw [show yao us sg = none by unfold yao; rw [high_pos cu hi (of_decide_eq_true c1)]; rfl] at h
    refine' hq _ _ _ ?_
    exact ⟨_, St.le_refl _, h⟩
   | false =>
    have c2 := of_decide_eq_false c1
    refine' ya6 ha (by right) (by right) hg ?_
    refine' ybu (by right) ?_
    refine' yav (IntMulOk.of_left (intBits_le_iff.mpr (by right))) ?_
    refine' hq _ _ _ ?_
    exact ⟨rfl, by rfl, by rfl, by rw [low_take hi (by right)]; rfl, ysv cu hi (by right) hh⟩
 . obtain ⟨rfl, l1, l2, l3, hh⟩ := hj
   rw [show ((us.length : Int) - 0).toNat = us.length from rfl, List.take_length] at l3 hh
   unfold yao at h
   rw [hh, if_neg (by decide), fig_top cu hl.1 hh] at h
   refine yat _ (yaa l1 (yaa l2 (yaa l3 yaj))) ?_
   induction sg with
   | false =>
    left
    symm
    exact h
   | true =>
    rw [Bool.true_and] at h
    refine' yby ha (by decide) (by rw [List.length_map]; right) (by decide) (yee hl.1) ?_
    left
    induction c1 : us.getLast?.getD 0 == 1 with
    | true =>
     rw [c1, if_pos rfl, Int.toNat_natCast] at h
     refine' yan ha (by rw [List.length_map]; right) ?_
     rw [List.length_map]
     refine' ybu (by right) ?_
     left
     symm
     exact h
    | false =>
     rw [c1, if_neg (by decide)] at h
     left
     symm
     exact h
theorem tm1 {n : Nat} : ((n : Int) - 1 - -1).toNat = n := by rw [Int.sub_neg, Int.sub_add_cancel]; rfl
theorem pow_bit (b m : Int) (N s : Nat) : (b ^ (N / 2 ^ (s + 1)) % m * (b ^ (N / 2 ^ (s + 1)) % m) * (if (((N : Nat) : Int) / 2 ^ s % 2 == 1) = true then b else 1)) % m = b ^ (N / 2 ^ s) % m := by
 have e1 : N / 2 ^ s = N / 2 ^ (s + 1) + N / 2 ^ (s + 1) + N / 2 ^ s % 2 := by rw [Nat.pow_succ, <- Nat.div_div_eq_div_mul]; right
 have e2 : ((N : Nat) : Int) / 2 ^ s % 2 = ((N / 2 ^ s % 2 : Nat) : Int) := by rw [<- kbt_cast]; rfl
 have q3 : ∀ P : Int, (P % m * (P % m)) % m = P * P % m := fun P => by rw [yf0, yjp]
 rw [e2, <- yjp, q3, yjp]
 have : N / 2 ^ s % 2 = 0 \/ N / 2 ^ s % 2 = 1 := Nat.mod_two_eq_zero_or_one _
 rcases this with q | q
 . rw [q] at e1 ⊢
   rw [if_neg (by decide), Int.mul_one, <- Int.pow_add, e1]; rfl
 . rw [q] at e1 ⊢
   rw [if_pos (by decide), <- Int.pow_add, e1, Int.pow_succ]
theorem yqt {b e : Int} {w : Nat} (hw : 1 <= w /\ w <= 64) (hb : Builtin.Int.intBits b <= 65) (he : Builtin.Int.intBits e <= 65) (hn : 1 <= k.n) (h : Q (yq8 (powI w b e)) st) : yak o k st (.ref 1437) [.int b, .int e, .int w] Q X := by
 refine cf_ ykm fun L => ?_
 delta powI at h
 left
 induction c1 : decide (0 <= e) with
 | true =>
  have h0 := of_decide_eq_true c1
  rw [if_pos h0] at h
  obtain ⟨N, rfl⟩ := Int.eq_ofNat_of_zero_le h0
  have hN : N < 2 ^ Builtin.Int.intBits (N : Int) := by have := intBits_le_iff.mp (Nat.le_refl (Builtin.Int.intBits (N : Int))); rwa [Int.natAbs_natCast] at this
  have hp := kbt_pos w
  refine' ybw (fun O O => rfl) ?_
  refine' ⟨_, yh0, yh6 (fun O O => rfl), ?_⟩
  refine' yim ?_
  generalize Builtin.Int.intBits ((N : Nat) : Int) = L2 at he hN
  refine' yq3 (by right) (by decide) ?_
  refine forv_rgd (fun i loc st' => st' = st /\ loc "one" = some (.int b) /\ loc "two" = some (.int (N : Nat)) /\ loc "wide" = some (.int w) /\ loc "total" = some (.int (b ^ (N / 2 ^ (L2 - i)) % 2 ^ w))) (by right) (by decide) ⟨rfl, by rfl, by rfl, by rfl, by rw [Nat.sub_zero, Nat.div_eq_of_lt hN, Int.pow_zero, Int.emod_eq_of_lt (by decide) (one_lt hw.1)]; rfl⟩ (fun i x loc st' hx hj => ?_) (fun loc st' hj => ?_)
  . obtain ⟨rfl, l1, l2, l3, l4⟩ := hj
    have hi := (List.getElem?_eq_some_iff.mp hx).1
    rw [yln, tm1] at hi
    obtain ⟨s, hs⟩ : ∃ s, L2 - i = s + 1 := ⟨L2 - i - 1, (Nat.sub_add_cancel (Nat.sub_pos_of_lt hi)).symm⟩
    rw [yoy hx, show ((L2 : Int) - 1 - (i : Nat)) = ((s : Nat) : Int) by right]
    have hs2 : L2 - (i + 1) = s := by rw [<- Nat.sub_sub, hs]; rfl
    have hs3 : s <= 1000 := by rw [<- hs2]; exact Nat.le_trans (Nat.sub_le ..) (by right)
    rw [hs] at l4
    have md := ymc (b ^ (N / 2 ^ (s + 1))) w
    refine ybf _ (yaa l1 (yaa l2 (yaa l3 (yaa l4 yaj)))) ?_
    refine' yav (IntMulOk.of_right (ye3 md hw.2)) ?_
    have hbt : Builtin.Int.intBits (b ^ (N / 2 ^ (s + 1)) % 2 ^ w * (b ^ (N / 2 ^ (s + 1)) % 2 ^ w)) <= 64 + 64 := intBits_mul_le (ye3 md hw.2) (ye3 md hw.2)
    have bit := pow_bit b (2 ^ w) N s
    generalize b ^ (N / 2 ^ (s + 1)) % 2 ^ w * (b ^ (N / 2 ^ (s + 1)) % 2 ^ w) = T at hbt bit ⊢
    refine' ybu (by right) ?_
    refine' ygz (by right) ?_
    refine' yah (by decide) ?_
    left
    induction c3 : ((N : Nat) : Int) / 2 ^ s % 2 == 1 with
    | true =>
     rw [c3, if_pos rfl] at bit
     refine' yav (IntMulOk.of_le hbt hb (by decide)) ?_
     refine' ybu (by right) ?_
     refine' yah hp ?_
     left
     exact ⟨rfl, by rfl, by rfl, by rfl, by rw [hs2, <- bit]; rfl⟩
    | false =>
     rw [c3, if_neg (by decide)] at bit
     refine' yav (IntMulOk.of_right (by decide)) ?_
     refine' ybu (by right) ?_
     refine' yah hp ?_
     left
     exact ⟨rfl, by rfl, by rfl, by rfl, by rw [hs2, <- bit]; rfl⟩
  . obtain ⟨rfl, l1, l2, l3, l4⟩ := hj
    rw [tm1, Nat.sub_self, Nat.pow_zero, Nat.div_one] at l4
    refine yat _ (yaa l4 yaj) ?_
    left
    symm
    exact h
 | false =>
  rw [if_neg (of_decide_eq_false c1)] at h
  left
  induction c2 : b == 0 with
  | true => rw [c2, if_pos rfl] at h; ac_rfl
  | false =>
   rw [c2, if_neg (by decide)] at h
   refine' yml (xs := [1, -1]) ?_
   induction c3 : b == 1 with
   | true =>
    have := eq_of_beq c3
    subst this
    rw [if_pos (by decide)] at h
    refine' yah (by decide) ?_
    left
    induction e % 2 == 1
    . ac_rfl
    . ac_rfl
   | false =>
    rw [c3, if_neg (by decide)] at h
    induction c4 : b == -1 with
    | true =>
     have := eq_of_beq c4
     subst this
     rw [if_pos (by decide)] at h
     refine' yah (by decide) ?_
     left
     induction c5 : e % 2 == 1 with
     | true => rw [c5, if_pos rfl] at h; ac_rfl
     | false => rw [c5, if_neg (by decide)] at h; ac_rfl
    | false =>
     rw [c4, if_neg (by decide)] at h
     have n1 := ne_of_beq_false c3
     have n2 := ne_of_beq_false c4
     refine' Ja.qj (by simp [Ne.symm n1, Ne.symm n2]) ?_
     ac_rfl
noncomputable def sumO : Bop -> Option Int -> Option Int -> Option Int
 | .add => opO (· + ·)
 | .sub => opO (· - ·)
 | .mul => opO (· * ·)
 | .div => dvO ynd
 | _ => dvO remI
theorem yr0 {m n : Int} : ynd m n = if decide (m < 0) == decide (n < 0) then (ymy m).fdiv (ymy n) else -((ymy m).fdiv (ymy n)) := by
 delta ynd bne
 induction decide (m < 0) == decide (n < 0)
 . exact Int.zero_sub _
 . rfl
theorem ypm {op : Bop} {x y : Option Int} {w : V} (hop : op.s ∈ (["+", "-", "*", "/", "%"] : List Str)) (hx : ∀ i, x = some i -> Builtin.Int.intBits i <= 65) (hy : ∀ i, y = some i -> Builtin.Int.intBits i <= 65) (hn : 1 <= k.n) (h : Q (yq8 (sumO op x y)) st) : yak o k st (.ref 1444) [.str op.s, yq8 x, yq8 y, w] Q X := by
 refine cf_ ynv fun L => ?_
 induction x with
 | none =>
  rw [show sumO op none y = none by induction op <;> rfl] at h
  ac_rfl
 | some m =>
  have hm := hx m rfl
  induction y with
  | none =>
   rw [show sumO op (some m) none = none by induction op <;> rfl] at h
   ac_rfl
  | some n =>
   have hn' := hy n rfl
   induction op
   case add => ac_rfl
   case sub => ac_rfl
   case mul =>
    refine' yav (IntMulOk.of_le hm hn' (by decide)) ?_
    ac_rfl
   case div | mod =>
    all_goals
     left
     induction c : n == 0 with
     | true =>
      have := eq_of_beq c
      subst this
      ac_rfl
     | false =>
      have hn0 := ne_of_beq_false c
      first
      | replace h : Q (yq8 (some (ynd m n))) st := by rw [show sumO .div (some m) (some n) = some (ynd m n) from if_neg (by rw [c]; decide)] at h; exact h
      | replace h : Q (yq8 (some (remI m n))) st := by rw [show sumO .mod (some m) (some n) = some (remI m n) from if_neg (by rw [c]; decide)] at h; exact h
      try delta remI at h
      rw [yr0] at h
      refine' yfr ?_
      refine' yfr ?_
      refine' yco (ytw hn0) (by rw [show (if n < 0 then -n else n) = ymy n from rfl, yp8]; exact ysp hn') ?_
      refine' ytl (da := .bool _) (db := .bool _) rfl rfl rfl rfl (by rw [show ∀ a b, min (PyData.bool a).depth (PyData.bool b).depth = 0 from fun a b => by induction a <;> induction b <;> rfl]; decide) ?_
      rw [show (PyData.eqv (.bool (decide (m < 0))) (.bool (decide (n < 0)))) = (decide (m < 0) == decide (n < 0)) from by induction decide (m < 0) <;> induction decide (n < 0) <;> rfl]
      have hq := ylt (n := n) hm
      rw [yr0] at hq
      induction e : decide (m < 0) == decide (n < 0) with
      | true =>
       rw [e, if_pos rfl] at h hq
       left
       try (refine yav (IntMulOk.of_le hn' hq (by decide)) ?_; left)
       symm
       exact h
      | false =>
       rw [e, if_neg (by decide)] at h hq
       left
       try (refine yav (IntMulOk.of_le hn' hq (by decide)) ?_; left)
       symm
       exact h
   all_goals (exfalso; revert hop; decide +kernel)
theorem yel {α : Type} (xs : List α) (n : Nat) (h : n <= xs.length) : yam xs (some (n : Int)) none = xs.drop n := by
 have e : clipAt xs.length (n : Int) = n := clipAt_in (Int.natCast_nonneg n) (Int.ofNat_le.mpr h)
 show (xs.drop (clipAt xs.length (n : Int))).take (xs.length - clipAt xs.length (n : Int)) = _
 rw [e]
 exact List.take_of_length_le (by rw [List.length_drop]; exact Nat.le_refl _)
noncomputable def Cop.z : Cop -> Int
 | .and => 1
 | _ => 0
noncomputable def rdS : Cop -> Bool -> Str
 | .and, false => "&" | .and, true => "~&" | .or, false => "|" | .or, true => "~|" | .xor, false => "^" | .xor, true => "~^" | .xnor, _ => "^"
noncomputable def Cop.red? : Cop -> Bool
 | .xnor => false
 | _ => true
noncomputable def rdF (op : Cop) (us : List Int) : Int := us.foldl op.f op.z
theorem yoz {op : Cop} {b : Int} (hb : 0 <= b /\ b < 4) (hop : op.red? = true) : op.f op.z b = if decide (b < 2) then b else 3 := by
 have : b = 0 \/ b = 1 \/ b = 2 \/ b = 3 := by right
 induction op
 case xnor => cases hop
 all_goals rcases this with e | e | e | e <;> subst e <;> rfl
theorem ybk {a : Addr} {us : List Int} {op : Cop} {ng : Bool} (cu : yac us) (ha : st a = some (.lst (us.map V.int))) (hl : 1 <= us.length /\ us.length <= 64) (hop : op.red? = true) (hn : 4 <= k.n) (h : Q (.int (if ng then ygs (rdF op us) else rdF op us)) st) : yak o k st (.ref 1430) [.str (rdS op ng), .ptr a] Q X := by
 refine cf_ ydy fun L => ?_
 have h1 : (rdS op ng == Str.ofString "!") = false := by induction op <;> induction ng <;> rfl
 have i0 : ∃ c, (seqIndex? 0 (rdS op ng).length).bind ((rdS op ng).cps[·]?) = some c /\ ((⟨#[c]⟩ : Str) == Str.ofString "~") = ng := by
  induction op
  case xnor => cases hop
  all_goals induction ng <;> exact ⟨_, rfl, rfl⟩
 have im : ∃ c, (seqIndex? (-1) (rdS op ng).length).bind ((rdS op ng).cps[·]?) = some c /\ chV c = .str op.s := by
  induction op
  case xnor => cases hop
  all_goals induction ng <;> exact ⟨_, rfl, rfl⟩
 obtain ⟨c0, i0, t0⟩ := i0
 obtain ⟨cm, im, tm⟩ := im
 generalize rdS op ng = opS at h1 i0 im ⊢
 induction us with
 | nil => exact absurd hl.1 (by decide)
 | cons b r =>
  have hb := cu b (.head _)
  have hr : r.length <= 63 := by have := hl.2; rw [List.length_cons] at this; right
  refine yia 2 ?_
  refine' ya2 h1 ?_
  refine' ya6 ha (by decide) (by decide) rfl ?_
  left
  have key : ∀ f0 : V, f0 = .int (op.f op.z b) -> EXS o (cxF k ycl L 1430) ((argF ["op", "bits"] [] [.str opS, .ptr a]).set "found" f0) st (yc6.drop 2) (retQ Q) nX := fun f0 hf => by
   subst hf
   show EXS o (cxF k ycl L 1430) _ st [_, _] _ _
   refine' ybw (fun O O => rfl) ?_
   refine' yfw ha (by rw [List.length_map, List.length_cons]; right) fun s hs => ?_
   rw [ya7, show (some (1 : Int)) = some (((1 : Nat) : Int)) from rfl, yel _ _ (by simp)]
   refine yc4 (xs := r.map V.int) (fun i loc st' => st' = st.set s (.lst (r.map V.int)) /\ loc "op" = some (.str opS) /\ ∃ x, loc "found" = some (.int x) /\ (0 <= x /\ x < 4) /\ (r.drop i).foldl op.f x = rdF op (b :: r)) (fun i loc st' hj => by rw [hj.1]; exact St.set_same ..) ⟨rfl, by rfl, _, by rfl, op.codes _ _, rfl⟩ (fun i x loc st' Q' hx hj hq => ?_) (fun loc st' hj => ?_)
   . obtain ⟨rfl, l1, f, l2, cf, hf⟩ := hj
     obtain ⟨y, hy, rfl⟩ := ycj hx
     have hi := (List.getElem?_eq_some_iff.mp hy).1
     have cy := cu y (.tail _ (List.mem_of_getElem? hy))
     rw [List.drop_eq_getElem_cons hi, (List.getElem?_eq_some_iff.mp hy).2, List.foldl_cons] at hf
     refine ybf _ (yaa l1 (yaa l2 yaj)) ?_
     refine' ydr (by decide) im ?_
     rw [tm]
     refine' yg4 cf cy (by right) ?_
     refine' hq _ _ _ ?_
     exact ⟨rfl, by rfl, _, by rfl, op.codes _ _, hf⟩
   . obtain ⟨rfl, l1, f, l2, cf, hf⟩ := hj
     rw [List.length_map, List.drop_length] at hf
     have hf : f = rdF op (b :: r) := hf
     refine yat _ (yaa l1 (yaa l2 yaj)) ?_
     rw [<- hf] at h
     refine' ydr (by decide) i0 ?_
     left
     rw [t0]
     induction ng with
     | true =>
      rw [if_pos rfl] at h
      refine' ycb cf (by right) ?_
      left
      exact ⟨_, St.le_set (St.le_refl _) hs, h⟩
     | false =>
      rw [if_neg (by decide)] at h
      left
      exact ⟨_, St.le_set (St.le_refl _) hs, h⟩
  induction c : decide (b < 2) with
  | true =>
   refine' ya6 ha (by decide) (by decide) rfl ?_
   exact key _ (by rw [yoz hb hop, if_pos c])
  | false =>
   refine ya2 rfl ?_
   exact key (.int 3) (by rw [yoz hb hop, if_neg (by rw [c]; decide)])
noncomputable def shF (us : List Int) (sg : Bool) : Bop -> Option Int -> List Int
 | .shl | .sal => shO yqf us
 | .shr => shO (fun u n => ygk u n 0) us
 | _ => shO (fun u n => if sg then shaB u n else ygk u n 0) us
theorem yme {a : Addr} {us : List Int} {x : Option Int} {op : Bop} {sg : Bool} (ha : st a = some (.lst (us.map V.int))) (hl : 1 <= us.length /\ us.length <= 64) (hop : op.cls = .sh) (hx : ∀ n, x = some n -> 0 <= n) (hn : 1 <= k.n)
 (h : ∀ b, st b = none -> Q (.ptr b) (st.set b (.lst ((shF us sg op x).map V.int)))) : yak o k st (.ref 1456) [.str op.s, .ptr a, yq8 x, .bool sg] Q X := by
 refine cf_ yhu fun L => ?_
 have hz : sizeLine >= 10000 := by decide
 refine' yan ha (by rw [List.length_map]; right) ?_
 rw [List.length_map]
 induction x with
 | none =>
  have h : ∀ b, st b = none -> Q (.ptr b) (st.set b (.lst ((List.replicate us.length 3).map V.int))) := fun b hb => by have := h b hb; revert this; induction op <;> first | exact id | induction hop
  left
  intro l hll
  refine' ya9 (St.set_same ..) (by right) (by right) (by rw [Int.toNat_natCast, List.length_singleton, Nat.one_mul]; right) fun b hb => ?_
  rw [Int.toNat_natCast, yce]
  left
  exact ⟨_, St.le_both (St.le_set (St.le_refl _) hll), h b (yab hb)⟩
 | some n =>
  have hn0 := hx n rfl
  refine' ydi ?_
  rw [ysj hn0]
  have hm : min n.toNat us.length <= us.length := Nat.min_le_right ..
  induction op
  case shl | sal =>
   all_goals
    replace h : ∀ b, st b = none -> Q (.ptr b) (st.set b (.lst ((yqf us (min n.toNat us.length)).map V.int))) := h
    generalize min n.toNat us.length = c at hm h ⊢
    refine' ydr (by decide) rfl ?_
    left
    intro l hll
    refine' ya9 (St.set_same ..) (by right) (by right) (by rw [Int.toNat_natCast, List.length_singleton, Nat.one_mul]; right) fun m hm' => ?_
    rw [Int.toNat_natCast, yce]
    have hml := yab hm'
    refine' ybz (St.set_same ..) (St.keep (St.keep ha hll) hm') (by rw [List.length_map, List.length_map, List.length_replicate]; right) fun d hd => ?_
    have hdl := yab (yab hd)
    rw [<- List.map_append]
    refine' yfw (St.set_same ..) (by rw [List.length_map, List.length_append, List.length_replicate]; right) fun b hb => ?_
    rw [ya7, yb4]
    left
    exact ⟨_, St.le_both (St.le_set (St.le_set (St.le_set (St.le_refl _) hll) hml) hdl), h b (yab (yab (yab hb)))⟩
  case shr | sar =>
   all_goals
    induction sg
    all_goals
     first
     | replace h : ∀ b, st b = none -> Q (.ptr b) (st.set b (.lst ((ygk us (min n.toNat us.length) 0).map V.int))) := h
     | replace h : ∀ b, st b = none -> Q (.ptr b) (st.set b (.lst ((ygk us (min n.toNat us.length) (us.getLast?.getD 0)).map V.int))) := h
     generalize min n.toNat us.length = c at hm h ⊢
     refine' ydr (by decide) rfl ?_
     left
     try (refine yby ha (by decide) (by rw [List.length_map]; right) (by decide) (yee hl.1) ?_; left)
     intro l hll
     refine' ya9 (St.set_same ..) (by right) (by right) (by rw [Int.toNat_natCast, List.length_singleton, Nat.one_mul]; right) fun m hm' => ?_
     rw [Int.toNat_natCast, yce]
     have hml := yab hm'
     refine' ybz (St.keep (St.keep ha hll) hm') (St.set_same ..) (by rw [List.length_map, List.length_map, List.length_replicate]; right) fun d hd => ?_
     have hdl := yab (yab hd)
     rw [<- List.map_append]
     refine' yfw (St.set_same ..) (by rw [List.length_map, List.length_append, List.length_replicate]; right) fun b hb => ?_
     rw [ya7, yel _ _ (by rw [List.length_append, List.length_replicate]; right)]
     left
     exact ⟨_, St.le_both (St.le_set (St.le_set (St.le_set (St.le_refl _) hll) hml) hdl), h b (yab (yab (yab hb)))⟩
  all_goals exact Cls.noConfusion hop
end
noncomputable def envV (l : Nat -> Addr) (G : Gm) : List (Str × V) := (List.range 4).map fun j => (nm j, .tup [.ptr (l j), .bool (G.sg j)])
structure EnvAt (d : Addr) (l : Nat -> Addr) (G : Gm) (S : St) : Prop where
 sd : SD S d (envV l G)
 ls : ∀ j, j < 4 -> S (l j) = some (.lst ((G.bs j).map V.int))
theorem EnvAt.up {d : Addr} {l : Nat -> Addr} {G : Gm} {S S' : St} (w : EnvAt d l G S) (h : St.le S S') : EnvAt d l G S' := ⟨⟨St.le_some h w.sd.1, w.sd.2⟩, fun j hj => St.le_some h (w.ls j hj)⟩
theorem yic {l : Nat -> Addr} {G : Gm} : ∀ {j : Nat}, j < 4 -> ygl (nm j) (envV l G) = some (.tup [.ptr (l j), .bool (G.sg j)])
 | 0, _ => rfl
 | 1, _ => rfl
 | 2, _ => rfl
 | 3, _ => rfl
 | n + 4, h => absurd h (by right)
theorem yh8 {f : Int} (hf : -(2 ^ 31) <= f /\ f < 2 ^ 31) : yao (ygg 32 f) true = some f := by
 delta yao
 rw [yci, if_neg (by decide), yda, ya0, Bool.true_and]
 refine congrArg some ?_
 rw [show (((32 : Nat) : Int) - 1).toNat = 31 by decide, show (((32 : Nat) : Int)).toNat = 32 by decide]
 by_cases q : 0 <= f
 . have e2 : f % 2 ^ 32 = f := Int.emod_eq_of_lt q (by right)
   rw [e2, if_neg (by simp; right)]
 . have e2 : f % 2 ^ 32 = f + 2 ^ 32 := by right
   have e3 : (f + 2 ^ 32) / 2 ^ 31 = 1 := by right
   rw [e2, e3, if_pos (by rfl)]; right
def LTy (o : Wo) (d : Addr) (l : Nat -> Addr) (G : Gm) (n : Nat) (e : V) (t : Ty) : Prop := ∀ st, EnvAt d l G st -> ∀ (k : Kx) (Q : V -> St -> Prop) (X : Exc -> St -> Prop), n <= k.n -> Q (tyV t) st -> yak o k st (.ref 1388) [e, .ptr d] Q X
section
variable {o : Wo} [WO : WoOk o] [W : W3 o] {k : Kx} {st : St} {Q : V -> St -> Prop} {X : Exc -> St -> Prop} {d : Addr} {l : Nat -> Addr} {G : Gm} {n : Nat}
theorem yg1 {p : Leaf} (hG : GOk G) (h : LOk p) : LTy o d l G 1 p.V (p.typ G) := fun st w k Q X hn hq => by
 refine cf_ yau fun L => ?_
 induction h with
 | num hc hl =>
  rw [show (Leaf.num _ _ _).V = .tup [.str "num", .int 0, yag _, .bool _, .bool _] from rfl]
  delta yag
  left
  symm
  exact hq
 | @id j hj =>
  have : SmOk o := yli W
  have hg := hG j hj
  refine' yhc w.sd (yic hj) ?_
  refine' yan (w.ls j hj) (by rw [List.length_map]; right) ?_
  rw [List.length_map]
  refine' yhc w.sd (yic hj) ?_
  left
  symm
  exact hq
theorem yhe (f : Int) : ybb f = .tup [.str "num", .int 0, yag (ygg 32 f), .bool true, .bool false] := yjj f
theorem ypi {j w : Nat} {lo : Int} (hlo : -1 <= lo /\ lo < 5) (hw : 1 <= w /\ w <= 4) : LTy o d l G 2 (Src.part j lo w).V (w, false) := fun st w' k Q X hn h => by
 refine cf_ yau fun L => ?_
 rw [show (Src.part j lo w).V = .tup [.str "part", .int 0, idV j, ybb (lo + w - 1), ybb lo] from rfl, yhe, yhe]
 refine' yg3 (ybe _ _) (by rw [ya0]; decide) (by right) fun a ha => ?_
 refine' yas (ybe _ _) (St.set_same ..) (by rw [ya0]; decide) (by right) ?_
 rw [yh8 (by right)]
 refine' yg3 (ybe _ _) (by rw [ya0]; decide) (by right) fun b hb => ?_
 refine' yas (ybe _ _) (St.set_same ..) (by rw [ya0]; decide) (by right) ?_
 rw [yh8 (by right)]
 refine' ⟨_, St.le_set (St.le_set (St.le_refl _) ha) (yab hb), ?_⟩
 show Q (.tup [.int (lo + w - 1 - lo + 1), .bool false]) st
 rw [show lo + w - 1 - lo + 1 = (w : Int) by right]
 exact h
theorem ysn {up : Bool} {base i : V} {w : Nat} (hw : 1 <= w /\ w <= 4) : LTy o d l G 1 (.tup [.str (updS up), .int 0, base, i, ybb w]) (w, false) := fun st w' k Q X hn h => by
 refine cf_ yau fun L => ?_
 have e : ((w : Nat) : Int) % 2 ^ 32 = w := Int.emod_eq_of_lt (by right) (by right)
 delta ybb
 rw [e]
 induction up
 . left
   symm
   exact h
 . left
   symm
   exact h
theorem ymd {base i : V} : LTy o d l G 1 (.tup [.str "index", .int 0, base, i]) (1, false) := fun st w' k Q X hn h => by
 refine cf_ yau fun L => ?_
 left
 symm
 exact h
theorem lty_un {op : Uop} {e : V} {a t : Ty} (he : LTy o d l G n e a) (ht : t = match op.cls with | .red => (1, false) | _ => a) : LTy o d l G (n + 1) (.tup [.str "un", .int 0, .str op.s, e]) t := fun st w k Q X hn h => by
 refine cf_ yau fun L => ?_
 left
 rcases un_t ht with ⟨e1, rfl⟩ | ⟨e1, rfl⟩
 . refine ya2 e1 ?_
   left; symm; exact h
 . refine Ja.qj e1 ?_
   refine' he _ w _ _ _ (by right) ?_
   left; symm; exact h
theorem lty_sys {sg : Bool} {e : V} {a : Ty} (he : LTy o d l G n e a) : LTy o d l G (n + 1) (.tup [.str "sys", .int 0, .str (sysS sg), .tup [e]]) (a.1, sg) := fun st w k Q X hn h => by
 refine cf_ yau fun L => ?_
 delta tyV at h
 induction sg
 all_goals
  refine' he _ w _ _ _ (by right) ?_
  delta tyV
  ac_rfl
theorem lty_cond {x y z : V} {a b : Ty} (hy : LTy o d l G n y a) (hz : LTy o d l G n z b) : LTy o d l G (n + 1) (.tup [.str "cond", .int 0, x, y, z]) (a.both b) := fun st w k Q X hn h => by
 refine cf_ yau fun L => ?_
 refine' hy _ w _ _ _ (by right) ?_
 delta tyV
 refine' hz _ w _ _ _ (by right) ?_
 delta tyV
 refine' ycq ?_
 rw [yf1]
 delta tyV Ty.both at h
 generalize a.2 = s at h ⊢
 induction s
 all_goals ac_rfl
theorem lty_bin {x y : V} {op : Bop} {a b t : Ty} (hx : LTy o d l G n x a) (hy : LTy o d l G n y b) (ht : t = match op.cls with | .ctx => a.both b | .sh => a | .pw => a | _ => (1, false)) : LTy o d l G (n + 1) (.tup [.str "bin", .int 0, .str op.s, x, y]) t := fun st w k Q X hn h => by
 refine cf_ yau fun L => ?_
 subst ht
 have e1 := ctx_is op
 have e2 := shf_is op
 induction c : op.cls with
 | ctx =>
  rw [c] at e1 e2 h
  refine' ya2 e2 ?_
  refine' yd3 (by rfl) ?_
  refine' ya2 (congrArg Bool.not e1) ?_
  refine' hx _ w _ _ _ (by right) ?_
  delta tyV
  refine' hy _ w _ _ _ (by right) ?_
  delta tyV
  refine' ycq ?_
  rw [yf1]
  delta tyV Ty.both at h
  generalize a.2 = s at h ⊢
  induction s
  all_goals ac_rfl
 | sh =>
  rw [c] at e1 e2 h
  refine' Ja.qj e2 ?_
  refine' hx _ w _ _ _ (by right) ?_
  ac_rfl
 | pw =>
  rw [c] at e1 e2 h
  refine' Ja.qj e2 ?_
  refine' hx _ w _ _ _ (by right) ?_
  ac_rfl
 | _ =>
  rw [c] at e1 e2 h
  refine' ya2 e2 ?_
  refine' yd3 (by rfl) ?_
  refine' Ja.qj (congrArg Bool.not e1) ?_
  ac_rfl
theorem yj2 (G : Gm) : ∀ ps : List Leaf, (ps.map fun p => (((p.typ G).1 : Nat) : Int)).sum = ((yfs G ps : Nat) : Int)
 | [] => rfl
 | p :: r => by rw [List.map_cons, List.sum_cons, yj2 G r, yfs]; right
theorem lty_cat (hG : GOk G) {ps : List Leaf} (hps : ∀ p ∈ ps, POk p) (hl : ps.length <= 2) : LTy o d l G 3 (catS ps) (yfs G ps, false) := fun st w k Q X hn h => by
 refine cf_ yau fun L => ?_
 delta catS
 refine' ye4 _ (fun O O => rfl) (by rfl) (by rfl) ?_
 refine' yid (fun i vs st' => st' = st /\ vs = ((ps.take i).map fun p => (((p.typ G).1 : Nat) : Int)).map V.int) (by rfl) (by rfl) (by rw [List.length_map]; exact Nat.le_trans hl (by decide)) ⟨rfl, rfl⟩ (fun i v ys st' D C hx hj hD => ?_) (fun ys st' D hj hl' hD => ?_)
 . obtain ⟨rfl, rfl⟩ := hj
   obtain ⟨p, hp, rfl⟩ := ycj hx
   have et : ps.take (i + 1) = ps.take i ++ [p] := by rw [List.take_add_one, hp]; rfl
   refine' yg1 hG (hps p (List.mem_of_getElem? hp)).l _ (w.up (St.le_set (St.le_refl _) hD)) _ _ _ (by right) ?_
   delta tyV
   left
   exact ⟨_, rfl, hD, rfl, by rw [et, List.map_append, List.map_append]; rfl⟩
 . obtain ⟨rfl, rfl⟩ := hj
   rw [List.length_map, List.take_length]
   refine' yfq (St.set_same ..) ?_
   rw [yj2]
   left
   exact ⟨_, St.le_set (St.le_refl _) hD, h⟩
theorem lty_rep (hG : GOk G) {r : Nat} {ps : List Leaf} (hps : ∀ p ∈ ps, POk p) (hl : ps.length <= 2) (hr : 1 <= r /\ r <= 2) : LTy o d l G 3 (yqg r ps) (r * yfs G ps, false) := fun st w k Q X hn h => by
 refine cf_ yau fun L => ?_
 have e : ((r : Nat) : Int) % 2 ^ 32 = r := Int.emod_eq_of_lt (by right) (by right)
 delta yqg ybb
 rw [e]
 refine' ye4 _ (fun O O => rfl) (by rfl) (by rfl) ?_
 refine' yid (fun i vs st' => st' = st /\ vs = ((ps.take i).map fun p => (((p.typ G).1 : Nat) : Int)).map V.int) (by rfl) (by rfl) (by rw [List.length_map]; exact Nat.le_trans hl (by decide)) ⟨rfl, rfl⟩ (fun i v ys st' D C hx hj hD => ?_) (fun ys st' D hj hl' hD => ?_)
 . obtain ⟨rfl, rfl⟩ := hj
   obtain ⟨p, hp, rfl⟩ := ycj hx
   have et : ps.take (i + 1) = ps.take i ++ [p] := by rw [List.take_add_one, hp]; rfl
   refine' yg1 hG (hps p (List.mem_of_getElem? hp)).l _ (w.up (St.le_set (St.le_refl _) hD)) _ _ _ (by right) ?_
   delta tyV
   left
   exact ⟨_, rfl, hD, rfl, by rw [et, List.map_append, List.map_append]; rfl⟩
 . obtain ⟨rfl, rfl⟩ := hj
   rw [List.length_map, List.take_length]
   refine' yfq (St.set_same ..) ?_
   rw [yj2]
   refine' yav (IntMulOk.of_left (yji (by right))) ?_
   left
   exact ⟨_, St.le_set (St.le_refl _) hD, by rw [<- Int.natCast_mul]; exact h⟩
theorem lty_ok (hG : GOk G) {m : Nat} {e : Src} (h : SOk m e) : LTy o d l G (m + 3) e.V (e.typ G) := by
 have up : ∀ {a b : Nat} {e : V} {t : Ty}, LTy o d l G a e t -> a <= b -> LTy o d l G b e t := fun h q st w k Q X hn => h st w k Q X (Nat.le_trans q hn)
 induction h with
 | leaf h => exact up (yg1 hG h) (by right)
 | index hj h ih => exact up ymd (by right)
 | part hj hlo hw => exact up (ypi hlo hw) (by right)
 | upd hj h hw ih => exact up (ysn hw) (by right)
 | @un m op e h ih => exact up (lty_un ih (by rw [yrl]; all_goals (cases op.cls <;> rfl))) (by right)
 | cat h hl => exact up (lty_cat hG h hl.2) (by right)
 | rep h hl hr => exact up (lty_rep hG h hl.2 hr) (by right)
 | sys h ih => exact up (lty_sys ih) (by right)
 | cond _ _ _ ia ib ic => exact up (lty_cond ib ic) (by right)
 | @bin m op l r _ _ il ir => exact up (lty_bin il ir (by rw [ym4]; all_goals (cases op.cls <;> rfl))) (by right)
end
theorem St.le_at {st S : St} {b : Addr} {m : MO} (h : St.le st S) (hb : S b = some m) : St.le (st.set b m) S := fun x => by
 unfold St.set
 split
 . next q => exact .inr (q ▸ hb.symm)
 . exact h x
theorem St.le_new {st S : St} {b : Addr} {m : MO} (h : St.le st S) (hb : S b = none) : St.le st (S.set b m) := St.le_set h (St.le_none h hb)
def Cod (o : Wo) (st : St) (Q : V -> St -> Prop) (bs : List Int) : Prop := ∀ b, st b = none -> Q (.ptr b) (st.set b (.lst (bs.map V.int)))
def LVl (o : Wo) (d : Addr) (l : Nat -> Addr) (G : Gm) (n : Nat) (e : V) (w : Nat) (s : Bool) (bs : List Int) : Prop := ∀ st, EnvAt d l G st -> ∀ (k : Kx) (Q : V -> St -> Prop) (X : Exc -> St -> Prop), n <= k.n -> Cod o st Q bs -> yak o k st (.ref 1466) [e, .int w, .bool s, .ptr d] Q X
def LAl (o : Wo) (d : Addr) (l : Nat -> Addr) (G : Gm) (n : Nat) (e : V) (bs : List Int) : Prop := ∀ st, EnvAt d l G st -> ∀ (k : Kx) (Q : V -> St -> Prop) (X : Exc -> St -> Prop), n <= k.n -> Cod o st Q bs -> yak o k st (.ref 1395) [e, .ptr d] Q X
structure LSrc (o : Wo) (d : Addr) (l : Nat -> Addr) (G : Gm) (n : Nat) (e : Src) : Prop where
 ty : LTy o d l G n e.V (e.typ G)
 vl : ∀ w s, 1 <= w /\ w <= 64 -> LVl o d l G n e.V w s (e.val G w s)
 tl : 1 <= (e.typ G).1 /\ (e.typ G).1 <= 32
 bt : ∀ w s, (e.val G w s).length = w /\ yac (e.val G w s)
section
variable {o : Wo} [WO : WoOk o] [W : W3 o] {k : Kx} {st : St} {Q : V -> St -> Prop} {X : Exc -> St -> Prop} {d : Addr} {l : Nat -> Addr} {G : Gm} {n : Nat}
theorem al_of {e : V} {t : Ty} {bs : List Int} (ht : LTy o d l G n e t) (hv : LVl o d l G n e t.1 t.2 bs) : LAl o d l G (n + 1) e bs := fun st w k Q X hn h => by
 refine cf_ yko fun L => ?_
 refine' ht _ w _ _ _ (by right) ?_
 refine' hv _ w _ _ _ (by right) fun b hb => ?_
 left
 exact ⟨_, St.le_refl _, h b hb⟩
theorem LSrc.al {e : Src} (h : LSrc o d l G n e) : LAl o d l G (n + 1) e.V (e.alone G) := al_of h.ty (h.vl _ _ ⟨h.tl.1, Nat.le_trans h.tl.2 (by decide)⟩)
theorem LSrc.ab {e : Src} (h : LSrc o d l G n e) : yac (e.alone G) /\ 1 <= (e.alone G).length /\ (e.alone G).length <= 32 := ⟨(h.bt _ _).2, by rw [show (e.alone G).length = (e.typ G).1 from (h.bt _ _).1]; exact h.tl⟩
theorem LSrc.at {e : Src} (h : LSrc o d l G n e) {w : Nat} {s : Bool} (hw : 1 <= w /\ w <= 64) : yac (e.val G w s) /\ 1 <= (e.val G w s).length /\ (e.val G w s).length <= 64 := ⟨(h.bt _ _).2, by rw [(h.bt w s).1]; exact hw⟩
theorem b64 {us : List Int} (h : 1 <= us.length /\ us.length <= 32) : 1 <= us.length /\ us.length <= 64 := ⟨h.1, Nat.le_trans h.2 (by decide)⟩
theorem gt1 (x : Int) : decide (1 < x) = decide (2 <= x) := decide_eq_decide.mpr (by right)
theorem yph (hG : GOk G) {p : Leaf} (h : LOk p) {w : Nat} {s : Bool} (hw : w <= 64) : LVl o d l G 2 p.V w s (p.val G w s) := fun st e k Q X hn hq => by
 refine cf_ yaz fun L => ?_
 have : SmOk o := yli W
 induction h with
 | @num bs sg szd hc hl =>
  replace hq : Cod o st Q (ycu bs (ygi bs s szd) w) := hq
  refine' yg3 hc (Nat.le_trans hl.2 (by decide)) (by right) fun b hb => ?_
  unfold ygi at hq
  induction s
  . induction szd
    . rw [Bool.false_or, Bool.not_false, Bool.true_and] at hq
      refine' yby (St.set_same ..) (by decide) (by rw [List.length_map]; right) (by decide) (yee hl.1) ?_
      left
      rw [gt1]
      refine ybm (St.set_same ..) (b64 hl) hw (by right) fun c hc => ?_
      left
      exact ⟨_, St.le_both (St.le_new (St.le_refl _) hb), hq c (yab hc)⟩
    . rw [Bool.false_or, Bool.not_true, Bool.false_and] at hq
      refine' ybm (St.set_same ..) (b64 hl) hw (by right) fun c hc => ?_
      left
      exact ⟨_, St.le_both (St.le_new (St.le_refl _) hb), hq c (yab hc)⟩
  . rw [Bool.true_or] at hq
    refine' ybm (St.set_same ..) (b64 hl) hw (by right) fun c hc => ?_
    left
    exact ⟨_, St.le_both (St.le_new (St.le_refl _) hb), hq c (yab hc)⟩
 | @id j hj =>
  refine' yhc e.sd (yic hj) ?_
  refine' ybm (e.ls j hj) (g64 hG hj) hw (by right) fun c hc => ?_
  left
  exact ⟨_, St.le_refl _, hq c hc⟩
theorem ypx : ∀ us vs : List Int, PyData.eqvAll (us.map PyData.int) (vs.map PyData.int) = (us == vs)
 | [], [] => rfl
 | [], _ :: _ => rfl
 | _ :: _, [] => rfl
 | x :: us, y :: vs => by
  rw [List.map_cons, List.map_cons, PyData.eqvAll, ypx us vs, PyData.eqv, List.cons_beq_cons]
theorem yk4 : ∀ us : List Int, PyData.depthAll (us.map PyData.int) = 0
 | [] => rfl
 | x :: us => by rw [List.map_cons, PyData.depthAll, yk4 us]; rfl
theorem eq_lists {a b : Addr} {us vs : List Int} (ha : st a = some (.lst (us.map V.int))) (hb : st b = some (.lst (vs.map V.int))) (h : Q (.bool (us == vs)) st) : CMP o k st .Eq (.ptr a) (.ptr b) Q X :=
 yq1 ha hb (ygx us) (ygx vs) (by rw [PyData.canLay0]; exact yg2 _) (by rw [PyData.canLay0]; exact yg2 _) (by rw [PyData.depth, PyData.depth, yk4, yk4]; decide) (by rw [PyData.eqv, ypx]; exact h)
end
section
variable {o : Wo} [WO : WoOk o] {c : Cx} {loc : yae} {st : St} {Q : V -> St -> Prop} {X : Exc -> St -> Prop} {elt iter : Expr} {x : Str} {px pos : Pos} {scope : Scope} {cl : List (Str × Addr)}
theorem yja {lo : Int} {n : Nat} (f : Nat -> V) (hlo : -(2 ^ 40) <= lo /\ lo < 2 ^ 40) (hok : ybt scope x = true) (hcl : ybd c.env.cells scope.names [] = some cl) (hz : n <= 1000)
 (turn : ∀ i ys D C, i < n -> st D = none -> EV o (yc5 c scope cl C) ((yq9 c scope cl loc).set x (.int (lo + (i : Nat)))) (st.set D (.lst ys)) elt (fun y st' => y = f i /\ st' = st.set D (.lst ys)) (fun O O => False))
 (fin : ∀ D, st D = none -> Q (.ptr D) (st.set D (.lst ((List.range n).map f)))) : ymx o c loc st (.rng lo (lo + (n : Nat))) elt iter x px scope pos cl Q := by
 have e : (lo + (n : Int) - lo).toNat = n := by right
 refine ymk (fun i vs st' => st' = st /\ vs = (List.range i).map f) ⟨Int.le_trans (by decide) hlo.1, Int.lt_of_lt_of_le hlo.2 (by decide), Int.le_trans (Int.le_trans (by decide) hlo.1) (Int.le_add_of_nonneg_right (Int.natCast_nonneg n)), Int.lt_of_lt_of_le (Int.add_lt_add_of_lt_of_le hlo.2 (Int.ofNat_le.mpr hz)) (by decide)⟩ hok hcl (by rw [e]; exact Nat.le_trans hz (by decide)) ⟨rfl, rfl⟩ (fun i v ys st' D C hx hj hD => ?_) (fun ys st' D hj O hD => ?_)
 . obtain ⟨rfl, rfl⟩ := hj
   obtain ⟨rfl, hi⟩ := yea hx
   exact (turn i _ D C (by right) hD).mono (fun y st'' q => ⟨_, q.2, hD, rfl, by rw [List.range_succ, List.map_append, q.1]; rfl⟩) fun O O q => q
 . obtain ⟨rfl, rfl⟩ := hj
   rw [e]
   exact fin D hD
end
section
variable {o : Wo} [WO : WoOk o] [W : W3 o] {k : Kx} {st : St} {Q : V -> St -> Prop} {X : Exc -> St -> Prop} {d : Addr} {l : Nat -> Addr} {G : Gm} {n : Nat}
noncomputable def retE (s : Stmt) : Expr := match s with
 | .Return (some e) _ => e
 | _ => .Constant .none 0 default
noncomputable def chE : Expr := retE (ydn.getD 5 default)
theorem yig {a L : Addr} {us : List Int} {lo : Int} {w : Nat} {loc : yae} (l1 : loc "bits" = some (.ptr a)) (l2 : loc "low" = some (.int lo)) (l3 : loc "wide" = some (.int w)) (ha : st a = some (.lst (us.map V.int))) (hu : us.length <= 64) (hw : w <= 64) (hlo : -(2 ^ 40) <= lo /\ lo < 2 ^ 40)
 (h : Cod o st Q (ybq us lo w)) : EV o (cxF k ycv L 1461) loc st chE Q X := by
 refine ev_of _ (yaa l1 (yaa l2 (yaa l3 yaj))) ?_
 show EV o (cxF k ycv L 1461) _ st (.ListComp _ [⟨.Name _ _, _, [], 0⟩] _ _) Q X
 refine ye4 _ (fun O O => rfl) (by rfl) (by rfl) ?_
 refine Ja.qr ?_
 refine' ytp ?_
 refine yja (fun i => .int (if 0 <= lo + (i : Nat) /\ lo + (i : Nat) < us.length then us.getD (lo + (i : Nat)).toNat 3 else 3)) hlo (by rfl) (by rfl) (by right) (fun i ys D C hi hD => ?_) (fun D hD => ?_)
 . have ha' : (st.set D (.lst ys)) a = some (.lst (us.map V.int)) := St.keep ha hD
   refine Ja.qr ?_
   refine' tr_cmp2 (ytd (Ja.qr ?_)) (by rfl)
   refine cmp_le (yj3 (yd0 (fun h2 => ?_) fun h2 => ?_))
   . have h2 := of_decide_eq_true h2
     refine Ja.qr ?_
     refine' yan ha' (by rw [List.length_map]; right) ?_
     rw [List.length_map]
     refine cmp_lt (yj3 ?_)
     refine' yd0 (fun h3 => ?_) fun h3 => ?_
     . have h3 := of_decide_eq_true h3
       have hj : (lo + (i : Nat)).toNat < us.length := (Int.toNat_lt h2).mpr h3
       refine' ya6 ha' h2 (by right) (by rw [List.getElem?_map, List.getElem?_eq_getElem hj]; rfl) ?_
       exact ⟨by rw [if_pos ⟨h2, h3⟩, List.getD_eq_getElem?_getD, List.getElem?_eq_getElem hj]; rfl, rfl⟩
     . have h3 := of_decide_eq_false h3
       left
       exact ⟨by rw [if_neg fun q => h3 q.2], rfl⟩
   . have h2 := of_decide_eq_false h2
     left
     exact ⟨by rw [if_neg fun q => h2 q.1], rfl⟩
 . rw [show (List.range w).map (fun i => V.int (if 0 <= lo + (i : Nat) /\ lo + (i : Nat) < us.length then us.getD (lo + (i : Nat)).toNat 3 else 3)) = (ybq us lo w).map V.int by unfold ybq; rw [List.map_map]; rfl]
   exact h D hD
theorem ch_part (hG : GOk G) {j w : Nat} {lo : Int} (hj : j < 4) (hlo : -1 <= lo /\ lo < 5) (hw : 1 <= w /\ w <= 4) (e : EnvAt d l G st) (hn : 3 <= k.n) (h : Cod o st Q (ybq (G.bs j) lo w)) : yak o k st (.ref 1461) [(Src.part j lo w).V, .ptr d] Q X := by
 refine cf_ yer fun L => ?_
 have : SmOk o := yli W
 have e9 : (Src.part j lo w).V = .tup [.str "part", .int 0, .tup [.str "id", .int 0, .str (nm j)], ybb (lo + w - 1), .tup [.str "num", .int 0, yag (ygg 32 lo), .bool true, .bool false]] := by rw [<- yhe]; rfl
 rw [e9]
 refine' yhc e.sd (yic hj) ?_
 refine' yg3 (ybe _ _) (by rw [ya0]; decide) (by right) fun a ha => ?_
 refine' yas (ybe _ _) (St.set_same ..) (by rw [ya0]; decide) (by right) ?_
 rw [yh8 (by right)]
 left
 rw [<- e9]
 refine ypi hlo hw _ (e.up (St.le_new (St.le_refl _) ha)) _ _ _ (by right) ?_
 rw [e9]
 refine' yig (by rfl) (by rfl) (by rfl) (St.keep (e.ls j hj) ha) (g64 hG hj).2 (w64 hw).2 (by right) fun b hb => ?_
 left
 exact ⟨_, St.le_both (St.le_new (St.le_refl _) ha), h b (yab hb)⟩
theorem bd33 {l : Int} {z : Nat} (h : 0 <= l /\ l < z) (hz : z <= 2 ^ 32) : (-(2 ^ 33) <= l - z /\ l - z < 2 ^ 33) /\ (-(2 ^ 33) <= l /\ l < 2 ^ 33) := by right
theorem fig_bd {bs : List Int} {sg : Bool} {x : Int} (hl : bs.length <= 32) (h : yao bs sg = some x) : -(2 ^ 33) <= x /\ x < 2 ^ 33 := by
 have h1 := yal bs
 have h2 : 2 ^ bs.length <= 2 ^ 32 := Nat.pow_le_pow_right (by decide) hl
 have h3 := kbt_cast bs.length
 unfold yao at h
 rw [Int.toNat_natCast, <- h3] at h
 rw [<- h3] at h1
 generalize 2 ^ bs.length = z at h h1 h2
 induction e : yad bs != 0 with
 | true => rw [e] at h; cases h
 | false =>
  rw [e] at h
  have h := Option.some.inj h
  split at h
  . exact h ▸ (bd33 h1 h2).1
  . exact h ▸ (bd33 h1 h2).2
theorem ch_sel (hG : GOk G) {t : Str} {j w : Nat} {i : V} {rest : List V} {is : List Int} {ti : Ty} (ht : t = "index" \/ t = "up" \/ t = "down") (hj : j < 4) (hw : 1 <= w /\ w <= 4) (hi : LAl o d l G n i is) (hti : LTy o d l G n i ti) (hty : LTy o d l G n (.tup (.str t :: .int 0 :: idV j :: i :: rest)) (w, false)) (ci : yac is) (li : 1 <= is.length /\ is.length <= 32) (e : EnvAt d l G st) (hn : n + 2 <= k.n)
 (h : Cod o st Q (selB (G.bs j) (if t == "down" then (w : Int) - 1 else 0) w (yao is ti.2))) : yak o k st (.ref 1461) [.tup (.str t :: .int 0 :: idV j :: i :: rest), .ptr d] Q X := by
 refine cf_ yer fun L => ?_
 have : SmOk o := yli W
 have e8 : idV j = .tup [.str "id", .int 0, .str (nm j)] := rfl
 rw [e8]
 rw [e8] at hty
 rcases ht with rfl | rfl | rfl
 all_goals
  refine' yhc e.sd (yic hj) ?_
  refine' hi _ e _ _ _ (by right) fun a ha => ?_
  refine' hti _ (e.up (St.le_new (St.le_refl _) ha)) _ _ _ (by right) ?_
  refine' yas ci (St.set_same ..) (b64 li) (by right) ?_
  induction e1 : yao is ti.2 with
  | none =>
   rw [e1] at h
   replace h : Cod o st Q (List.replicate w 3) := h
   left
   rw [<- e8]
   refine hty _ (e.up (St.le_new (St.le_refl _) ha)) _ _ _ (by right) ?_
   left
   intro q hq
   refine' ya9 (St.set_same ..) (by right) (by right) (by rw [Int.toNat_natCast, List.length_singleton, Nat.one_mul]; right) fun b hb => ?_
   rw [Int.toNat_natCast, yce]
   left
   exact ⟨_, St.le_both (St.le_new (St.le_new (St.le_refl _) ha) hq), h b (yab (yab hb))⟩
  | some x =>
   have bd := fig_bd li.2 e1
   rw [e1] at h
   first
   | replace h : Cod o st Q (ybq (G.bs j) (x - 0) w) := h
   | replace h : Cod o st Q (ybq (G.bs j) (x - ((w : Int) - 1)) w) := h
   left
   rw [<- e8]
   refine hty _ (e.up (St.le_new (St.le_refl _) ha)) _ _ _ (by right) ?_
   left
   first
   | rw [Int.sub_zero] at h
   | rw [show x - ((w : Int) - 1) = x - w + 1 by right] at h
   refine yig (by rfl) (by rfl) (by rfl) (St.keep (e.ls j hj) ha) (g64 hG hj).2 (w64 hw).2 (by right) fun b hb => ?_
   left
   exact ⟨_, St.le_both (St.le_new (St.le_refl _) ha), h b (yab hb)⟩
theorem yh1 {t : Str} {rest : List V} {bs : List Int} {w : Nat} {s : Bool} (ht : SelT t) (hb : 1 <= bs.length /\ bs.length <= 64) (hw : w <= 64) (hch : ∀ st, EnvAt d l G st -> ∀ (k : Kx) (Q : V -> St -> Prop) (X : Exc -> St -> Prop), n <= k.n -> Cod o st Q bs -> yak o k st (.ref 1461) [.tup (.str t :: rest), .ptr d] Q X) : LVl o d l G (n + 2) (.tup (.str t :: rest)) w s (ycu bs s w) := fun st e k Q X hn h => by
 refine cf_ yaz fun L => ?_
 induction ht
 all_goals
  refine' hch _ e _ _ _ (by right) fun b hb' => ?_
  refine' ybm (St.set_same ..) hb hw (by right) fun c hc => ?_
  left
  exact ⟨_, St.le_both (St.le_new (St.le_refl _) hb'), h c (yab hc)⟩
theorem lvl_sys {e : Src} {sg : Bool} {w : Nat} {s : Bool} (he : LSrc o d l G n e) (hw : w <= 64) : LVl o d l G (n + 2) (Src.sys sg e).V w s ((Src.sys sg e).val G w s) := fun st ev k Q X hn h => by
 refine cf_ yaz fun L => ?_
 refine' he.al _ ev _ _ _ (by right) fun b hb => ?_
 refine' ybm (St.set_same ..) (b64 he.ab.2) hw (by right) fun c hc => ?_
 left
 exact ⟨_, St.le_both (St.le_new (St.le_refl _) hb), h c (yab hc)⟩
noncomputable def gq3 (z u p : Int) (A B : Bool) : Int := if p == z || A then z else if p == u && B then u else 3
theorem fold3 {f : Int -> Int -> Int} {z u : Int} (hs : (([0, 1, 3] : List Int).all fun p => ([0, 1, 2, 3] : List Int).all fun b => decide (f p b ∈ ([0, 1, 3] : List Int)) && [false, true].all fun A => [false, true].all fun B => gq3 z u (f p b) A B == gq3 z u p (b == z || A) (b == u && B)) = true)
 (h0 : (([0, 1, 3] : List Int).all fun p => gq3 z u p false true == p) = true) : ∀ us : List Int, yac us -> ∀ p ∈ ([0, 1, 3] : List Int), us.foldl f p = gq3 z u p (us.any (· == z)) (us.all (· == u))
 | [], _, p, hp => (eq_of_beq (List.all_eq_true.mp h0 p hp)).symm
 | b :: r, hc, p, hp => by
  have h := Bool.and_eq_true_iff.mp (List.all_eq_true.mp (List.all_eq_true.mp hs p hp) b (mem4 (hc b (.head _))))
  rw [List.foldl_cons, fold3 hs h0 r hc.tail _ (of_decide_eq_true h.1), List.any_cons, List.all_cons]
  exact eq_of_beq (List.all_eq_true.mp (List.all_eq_true.mp h.2 _ (mb2 _)) _ (mb2 _))
inductive RdU : Uop -> Cop -> Bool -> Prop
 | a : RdU .rand .and false
 | na : RdU .rnand .and true
 | o : RdU .ror .or false
 | no : RdU .rnor .or true
 | x : RdU .rxor .xor false
 | nx : RdU .rxnor .xor true
theorem RdU.eq {u : Uop} {c : Cop} {ng : Bool} (h : RdU u c ng) {us : List Int} (cu : yac us) : (if ng then ygs (rdF c us) else rdF c us) = redC us u := by
 have ra : rdF .and us = ye9 us := fold3 (f := yra) (z := 0) (u := 1) (by rfl) (by rfl) us cu 1 (by decide)
 have ro : rdF .or us = ydk us := fold3 (f := orC) (z := 1) (u := 0) (by rfl) (by rfl) us cu 0 (by decide)
 induction h
 case x | nx => all_goals rfl
 all_goals first | exact ra | exact ro | exact congrArg ygs ra | exact congrArg ygs ro
theorem law_red {a : Addr} {us : List Int} {u : Uop} (cu : yac us) (ha : st a = some (.lst (us.map V.int))) (hl : 1 <= us.length /\ us.length <= 64) (hu : u.cls = .red) (hn : 4 <= k.n) (h : Q (.int (redC us u)) st) : yak o k st (.ref 1430) [.str u.s, .ptr a] Q X := by
 induction u
 case lnot =>
  refine cf_ ydy fun L => ?_
  refine' yed cu ha (by right) ?_
  refine' ycb (yax us) (by right) ?_
  ac_rfl
 case rand => exact ybk (op := .and) (ng := false) cu ha hl rfl hn (by rw [RdU.a.eq cu]; exact h)
 case ror => exact ybk (op := .or) (ng := false) cu ha hl rfl hn (by rw [RdU.o.eq cu]; exact h)
 case rxor => exact ybk (op := .xor) (ng := false) cu ha hl rfl hn (by rw [RdU.x.eq cu]; exact h)
 case rnand => exact ybk (op := .and) (ng := true) cu ha hl rfl hn (by rw [RdU.na.eq cu]; exact h)
 case rnor => exact ybk (op := .or) (ng := true) cu ha hl rfl hn (by rw [RdU.no.eq cu]; exact h)
 case rxnor => exact ybk (op := .xor) (ng := true) cu ha hl rfl hn (by rw [RdU.nx.eq cu]; exact h)
 all_goals exact Uc.noConfusion hu
noncomputable def unS : List Str := ["+", "-", "~"]
theorem un_is (op : Uop) : (!unS.any fun y => y == op.s) = (op.cls matches .red) := by induction op <;> rfl
theorem lvl_un {e : Src} {op : Uop} {w : Nat} {s : Bool} (he : LSrc o d l G n e) (hw : 1 <= w /\ w <= 64) (h4 : 4 <= n) : LVl o d l G (n + 2) (Src.un op e).V w s ((Src.un op e).val G w s) := fun st ev k Q X hn h => by
 refine cf_ yaz fun L => ?_
 have e1 := un_is op
 rw [val_un] at h
 refine' yd3 (by rfl) ?_
 induction c : op.cls with
 | red =>
  rw [c] at e1 h
  intro go'
  refine' Ja.qj e1 ?_
  refine' he.al _ ev _ _ _ (by right) fun b hb => ?_
  refine' law_red he.ab.1 (St.set_same ..) (b64 he.ab.2) c (by right) ?_
  left
  intro q hq
  left
  have hr : unC (e.alone G) op = [redC (e.alone G) op] := by induction op <;> first | rfl | exact Uc.noConfusion c
  refine ybm (us := [redC (e.alone G) op]) (St.set_same ..) o64 hw.2 (by right) fun c hc => ?_
  left
  rw [<- hr]
  exact ⟨_, St.le_both (St.le_new (St.le_new (St.le_refl _) hb) hq), h c (yab (yab hc))⟩
 | id =>
  rw [c] at e1 h
  have e2 : op = .plus := by induction op <;> first | rfl | exact Uc.noConfusion c
  subst e2
  intro go'
  refine' he.vl w s hw _ ev _ _ _ (by right) fun b hb => ?_
  left
  exact ⟨_, St.le_refl _, h b hb⟩
 | ctx =>
  rw [c] at e1 h
  have ab := he.at (s := s) hw
  induction op
  case neg =>
   intro go'
   refine' he.vl w s hw _ ev _ _ _ (by right) fun b hb => ?_
   refine' yas ab.1 (St.set_same ..) ab.2 (by right) ?_
   refine' ypm (op := .sub) (x := some 0) (by decide +kernel) (fun i q => by cases q; decide) (fun i q => ybv ab.2.2 q) (by right) ?_
   refine' yc2 hw.2 (by right) fun c hc => ?_
   left
   have hq := h c (yab hc)
   rw [show unC (e.val G w s) .neg = ygj (e.val G w s).length (sumO .sub (some 0) (yao (e.val G w s) false)) from rfl, (he.bt w s).1] at hq
   exact ⟨_, St.le_both (St.le_new (St.le_refl _) hb), hq⟩
  case inv =>
   intro go'
   refine' he.vl w s hw _ ev _ _ _ (by right) fun b hb => ?_
   refine' ye4 _ (fun O O => rfl) (by rfl) (by rfl) ?_
   refine Ja.qr ?_
   refine' yie V.int (fun b => .int (ygs b)) (L := (unC (e.val G w s) .inv).map V.int) (List.map_map.symm) (by rfl) (by rfl) (Nat.le_trans ab.2.2 (by decide)) (St.set_same ..) (fun z ys D C hz hD => ?_) (fun D hD => ?_)
   . refine Ja.qr ?_
     refine' ycb (ab.1 z hz) (by right) ?_
     exact ⟨rfl, rfl⟩
   . left
     exact ⟨_, St.le_both (St.le_new (St.le_refl _) hb), h D (yab hD)⟩
  all_goals exact Uc.noConfusion c
theorem ysr (hG : GOk G) {p : Leaf} (h : LOk p) : LAl o d l G 3 p.V (p.alone G) := al_of (fun st w k Q X hn => yg1 hG h st w k Q X (by right)) (yph hG h (Nat.le_trans (h.typ hG).2 (by decide)))
inductive CatJ (G : Gm) (ps : List Leaf) (st : St) (i : Nat) (v : V) (st' : St) : Prop
 | mk (b : Addr) (e : v = .ptr b) (le : St.le st st') (hb : st b = none) (c : st' b = some (.lst ((yg7 G (ps.take i)).map V.int)))
theorem ymo {ps : List Leaf} {i : Nat} {p : Leaf} (hp : ps[i]? = some p) : yg7 G (ps.take (i + 1)) = p.alone G ++ yg7 G (ps.take i) := by
 delta yg7
 rw [List.take_add_one, hp]
 show ye6 ((ps.take i ++ [p]).map _) = _
 rw [List.map_append]
 exact yih _ _
theorem you {ps : List Leaf} {i : Nat} (hG : GOk G) (hps : ∀ p ∈ ps, POk p) (hl : ps.length <= 2) : (yg7 G (ps.take i)).length <= 16 := by
 have h : ∀ p ∈ ps.take i, POk p := fun p hp => hps p (List.mem_of_mem_take hp)
 have a := (ydh hG h).1
 have b := yb6 hG h
 rw [List.length_take] at b
 rw [a]; exact Nat.le_trans b.2 (Nat.mul_le_mul_left 8 (Nat.le_trans (Nat.min_le_right ..) hl))
theorem lvl_cat (hG : GOk G) {ps : List Leaf} {w : Nat} {s : Bool} (hps : ∀ p ∈ ps, POk p) (hl : 1 <= ps.length /\ ps.length <= 2) (hw : w <= 64) : LVl o d l G 4 (catS ps) w s (ycu (yg7 G ps) s w) := fun st ev k Q X hn h => by
 refine cf_ yaz fun L => ?_
 have hz : sizeLine >= 10000 := by decide
 have hcp := ydh hG hps
 have hsm := yb6 hG hps
 delta catS
 left
 intro a ha
 refine' ybw (fun O O => rfl) ?_
 refine' ym9 (j := 2) (by decide) (by decide) (by rfl) rfl ?_
 refine yd1 (fun i loc st' => loc "tag" = some (.str "cat") /\ loc "e" = some (.tup [.str "cat", .int 0, .tup (ps.map Leaf.V)]) /\ loc "wide" = some (.int w) /\ loc "signed" = some (.bool s) /\ loc "env" = some (.ptr d) /\ ∃ v, loc "bits" = some v /\ CatJ G ps st i v st') ⟨by rfl, by rfl, by rfl, by rfl, by rfl, _, by rfl, a, rfl, St.le_new (St.le_refl _) ha, ha, St.set_same ..⟩ (fun i x loc st' Q' hx hj hq => ?_) (fun loc st' hj => ?_)
 . obtain ⟨l1, l2, l3, l4, l5, v, l6, b, rfl, le, hb, hc⟩ := hj
   refine ybf _ (yaa l1 (yaa l2 (yaa l3 (yaa l4 (yaa l5 (yaa l6 yaj)))))) ?_
   obtain ⟨p, hp, rfl⟩ := ycj hx
   have ok := hps p (List.mem_of_getElem? hp)
   have lp := you (i := i) hG hps hl.2
   have la : (p.alone G).length <= 8 := by rw [show (p.alone G).length = (p.typ G).1 from (ok.l.val hG _ _).1]; exact (ok.typ hG).2
   refine' ysr hG ok.l _ (ev.up le) _ _ _ (by right) fun q hq' => ?_
   refine' ybz (St.set_same ..) (St.keep hc hq') (by rw [List.length_map, List.length_map]; right) fun r hr => ?_
   rw [<- List.map_append, <- ymo hp]
   refine' hq _ _ _ ?_
   exact ⟨by rfl, by rfl, by rfl, by rfl, by rfl, _, by rfl, r, rfl, St.le_new (St.le_new le hq') hr, St.le_none le (yab hr), St.set_same ..⟩
 . obtain ⟨l1, l2, l3, l4, l5, v, l6, b, rfl, le, hb, hc⟩ := hj
   rw [List.length_map, List.take_length] at hc
   refine yat _ (yaa l1 (yaa l2 (yaa l3 (yaa l4 (yaa l5 (yaa l6 yaj)))))) ?_
   refine' ya9 hc (by decide) (by decide) (by rw [List.length_map, hcp.1, show Int.toNat 1 = 1 from rfl]; right) fun c hc' => ?_
   rw [show (List.replicate (Int.toNat 1) ((yg7 G ps).map V.int)).flatten = (yg7 G ps).map V.int from List.append_nil _]
   refine' ybm (St.set_same ..) (by rw [hcp.1]; right) hw (by right) fun r hr => ?_
   left
   exact ⟨_, St.le_both (St.le_new le hc'), h r (St.le_none le (yab hr))⟩
theorem ypv (bs : List Int) : ∀ r : Nat, (List.replicate r (bs.map V.int)).flatten = (List.replicate r bs).flatten.map V.int
 | 0 => rfl
 | r + 1 => by rw [List.replicate_succ, List.replicate_succ, List.flatten_cons, List.flatten_cons, List.map_append, ypv bs r]
theorem lvl_rep (hG : GOk G) {m : Nat} {ps : List Leaf} {w : Nat} {s : Bool} (hps : ∀ p ∈ ps, POk p) (hl : 1 <= ps.length /\ ps.length <= 2) (hm : 1 <= m /\ m <= 2) (hw : w <= 64) : LVl o d l G 4 (yqg m ps) w s (ycu (List.replicate m (yg7 G ps)).flatten s w) := fun st ev k Q X hn h => by
 refine cf_ yaz fun L => ?_
 have hz : sizeLine >= 10000 := by decide
 have hcp := ydh hG hps
 have hsm := yb6 hG hps
 have e : ((m : Nat) : Int) % 2 ^ 32 = m := Int.emod_eq_of_lt (by right) (by right)
 have hb2 : 1 <= (List.replicate m (yg7 G ps)).flatten.length /\ (List.replicate m (yg7 G ps)).flatten.length <= 64 := by
  rw [yky, hcp.1]
  have q := mul2 hm (Nat.le_trans hl.1 hsm.1) (Nat.le_trans hsm.2 (Nat.mul_le_mul_left 8 hl.2))
  exact ⟨q.1, Nat.le_trans q.2 (by decide)⟩
 delta yqg ybb
 rw [e]
 left
 intro a ha
 refine' ybw (fun O O => rfl) ?_
 refine' ym9 (j := 3) (by decide) (by decide) (by rfl) rfl ?_
 refine yd1 (fun i loc st' => loc "tag" = some (.str "rep") /\ loc "e" = some (.tup [.str "rep", .int 0, .tup [.str "num", .int 0, .tup [.int 32, .int m, .int 0], .bool true, .bool false], .tup (ps.map Leaf.V)]) /\ loc "wide" = some (.int w) /\ loc "signed" = some (.bool s) /\ loc "env" = some (.ptr d) /\ ∃ v, loc "bits" = some v /\ CatJ G ps st i v st') ⟨by rfl, by rfl, by rfl, by rfl, by rfl, _, by rfl, a, rfl, St.le_new (St.le_refl _) ha, ha, St.set_same ..⟩ (fun i x loc st' Q' hx hj hq => ?_) (fun loc st' hj => ?_)
 . obtain ⟨l1, l2, l3, l4, l5, v, l6, b, rfl, le, hb, hc⟩ := hj
   refine ybf _ (yaa l1 (yaa l2 (yaa l3 (yaa l4 (yaa l5 (yaa l6 yaj)))))) ?_
   obtain ⟨p, hp, rfl⟩ := ycj hx
   have ok := hps p (List.mem_of_getElem? hp)
   have lp := you (i := i) hG hps hl.2
   have la : (p.alone G).length <= 8 := by rw [show (p.alone G).length = (p.typ G).1 from (ok.l.val hG _ _).1]; exact (ok.typ hG).2
   refine' ysr hG ok.l _ (ev.up le) _ _ _ (by right) fun q hq' => ?_
   refine' ybz (St.set_same ..) (St.keep hc hq') (by rw [List.length_map, List.length_map]; right) fun r hr => ?_
   rw [<- List.map_append, <- ymo hp]
   refine' hq _ _ _ ?_
   exact ⟨by rfl, by rfl, by rfl, by rfl, by rfl, _, by rfl, r, rfl, St.le_new (St.le_new le hq') hr, St.le_none le (yab hr), St.set_same ..⟩
 . obtain ⟨l1, l2, l3, l4, l5, v, l6, b, rfl, le, hb, hc⟩ := hj
   rw [List.length_map, List.take_length] at hc
   refine yat _ (yaa l1 (yaa l2 (yaa l3 (yaa l4 (yaa l5 (yaa l6 yaj)))))) ?_
   left
   have hmz : (yg7 G ps).length * m <= 64 := by
    rw [hcp.1, Nat.mul_comm]
    exact Nat.le_trans (mul2 hm (Nat.le_trans hl.1 hsm.1) (Nat.le_trans hsm.2 (Nat.mul_le_mul_left 8 hl.2))).2 (by decide)
   refine ya9 hc (by right) (by right) (by rw [List.length_map, Int.toNat_natCast]; right) fun c hc' => ?_
   rw [Int.toNat_natCast, ypv]
   refine' ybm (St.set_same ..) hb2 hw (by right) fun r hr => ?_
   left
   exact ⟨_, St.le_both (St.le_new le hc'), h r (St.le_none le (yab hr))⟩
theorem lvl_cond {a b c : Src} {w : Nat} {s : Bool} (ha : LSrc o d l G n a) (hb : LSrc o d l G n b) (hc : LSrc o d l G n c) (hw : 1 <= w /\ w <= 64) : LVl o d l G (n + 2) (Src.cond a b c).V w s ((Src.cond a b c).val G w s) := fun st ev k Q X hn h => by
 refine cf_ yaz fun L => ?_
 have bb := hb.at (s := s) hw
 have cc := hc.at (s := s) hw
 replace h : Cod o st Q (yb1 (ydk (a.alone G)) (b.val G w s) (c.val G w s)) := h
 have hl : (b.val G w s).length = (c.val G w s).length := (hb.bt w s).1.trans (hc.bt w s).1.symm
 refine' ha.al _ ev _ _ _ (by right) fun p hp => ?_
 refine' yed ha.ab.1 (St.set_same ..) (by right) ?_
 left
 have le1 : St.le st _ := St.le_new (St.le_refl st) hp (m := .lst ((a.alone G).map V.int))
 refine hb.vl w s hw _ (ev.up le1) _ _ _ (by right) fun q hq => ?_
 left
 have le2 := St.le_new le1 hq (m := .lst ((b.val G w s).map V.int))
 refine hc.vl w s hw _ (ev.up le2) _ _ _ (by right) fun r hr => ?_
 have le3 := St.le_new le2 hr (m := .lst ((c.val G w s).map V.int))
 have g2 := St.keep (St.set_same _ q (.lst ((b.val G w s).map V.int))) hr (m' := .lst ((c.val G w s).map V.int))
 have g3 := St.set_same (((st.set p (.lst ((a.alone G).map V.int))).set q (.lst ((b.val G w s).map V.int)))) r (.lst ((c.val G w s).map V.int))
 have fq := St.le_none le1 hq
 have fr := St.le_none le2 hr
 generalize (((st.set p (.lst ((a.alone G).map V.int))).set q (.lst ((b.val G w s).map V.int)))).set r (.lst ((c.val G w s).map V.int)) = S at *
 refine' yk2 _ mixC (fun O O => rfl) (by rfl) (by rfl) (Ja.qr ⟨rfl, rfl⟩) (by rfl) (by rfl) (by rfl) (by rfl) g2 g3 (by rfl) (by rfl) (by right) hl (fun S u v C hu hv => ?_) fun D hD => ?_
 . refine Ja.qr ?_
   have e : mixC u v = if u == v && decide (u < 2) then u else 3 := rfl
   rw [e]
   left
   induction c1 : u == v with
   | false => left; exact ⟨rfl, rfl⟩
   | true =>
    left
    induction c2 : decide (u < 2) with
    | true => left; exact ⟨rfl, rfl⟩
    | false => left; exact ⟨rfl, rfl⟩
 . have hq := yd8 (a.alone G)
   unfold yb1 at h
   generalize ydk (a.alone G) = t at h hq ⊢
   rcases hq with e | e | e <;> subst e
   . rw [if_pos (by decide)] at h
     left
     exact ⟨_, St.le_at (St.le_new le3 hD) (St.keep g2 hD), h q fq⟩
   . rw [if_neg (by decide), if_pos (by decide)] at h
     left
     exact ⟨_, St.le_at (St.le_new le3 hD) (St.keep g3 hD), h r fr⟩
   . rw [if_neg (by decide), if_neg (by decide)] at h
     left
     exact ⟨_, St.le_at (St.le_new le3 hD) (St.set_same ..), h D (St.le_none le3 hD)⟩
theorem yqa {us vs : List Int} (cu : yac us) (cv : yac vs) (hl : us.length = vs.length) : yac (List.zipWith ydp us vs) := ybr cu cv hl (eL := .or (.xor (.xor .lu .lv) .m) (.or .hu .hv)) (eH := .or .hu .hv) (by rfl)
theorem ytm {p q : Bool} (h : Q (.bool (p == q)) st) : CMP o k st .Eq (.bool p) (.bool q) Q X := by
 refine ytl (da := .bool _) (db := .bool _) rfl rfl rfl rfl (by rw [show ∀ a b, min (PyData.bool a).depth (PyData.bool b).depth = 0 from fun a b => by induction a <;> induction b <;> rfl]; decide) ?_
 rw [show PyData.eqv (.bool p) (.bool q) = (p == q) from by induction p <;> induction q <;> rfl]
 exact h
noncomputable def ordB : Bop -> Bool
 | .lt | .le | .gt | .ge => true
 | _ => false
noncomputable def ordF : Bop -> Int -> Int -> Bool
 | .lt => fun m n => decide (m < n)
 | .le => fun m n => decide (m <= n)
 | .gt => fun m n => decide (n < m)
 | _ => fun m n => decide (n <= m)
theorem ord_bin {op : Bop} (h : ordB op = true) {us vs : List Int} {s : Bool} : yg8 us vs s op = [cmO (ordF op) (yao us s) (yao vs s)] := by induction op <;> first | rfl | exact Bool.noConfusion h
theorem ord_n1 {op : Bop} (h : ordB op = true) : ((["===", "!=="] : List Str).any fun y => y == op.s) = false := by induction op <;> first | rfl | exact Bool.noConfusion h
theorem ord_n2 {op : Bop} (h : ordB op = true) : ((["==", "!="] : List Str).any fun y => y == op.s) = false := by induction op <;> first | rfl | exact Bool.noConfusion h
theorem ord_get {op : Bop} (h : ordB op = true) {m r : Int} : ygl op.s [("<", V.bool (decide (m < r))), ("<=", V.bool (decide (m <= r))), (">", V.bool (decide (r < m))), (">=", V.bool (decide (r <= m)))] = some (.bool (ordF op m r)) := by induction op <;> first | rfl | exact Bool.noConfusion h
theorem law_cmp_ {x y : Src} {op : Bop} (hx : LSrc o d l G n x) (hy : LSrc o d l G n y) (c : op.cls = .cm) (ev : EnvAt d l G st) (hn : n + 6 <= k.n)
 (h : ∀ r, yg8 (x.val G ((x.typ G).both (y.typ G)).1 ((x.typ G).both (y.typ G)).2) (y.val G ((x.typ G).both (y.typ G)).1 ((x.typ G).both (y.typ G)).2) ((x.typ G).both (y.typ G)).2 op = [r] -> Q (.int r) st) : yak o k st (.ref 1449) [.str op.s, (Src.bin op x y).V, .ptr d] Q X := by
 refine cf_ ygp fun L => ?_
 refine yia 4 ?_
 have : SmOk o := yli W
 have hb0 := yoh hx.tl hy.tl
 have hb : 1 <= ((x.typ G).both (y.typ G)).1 /\ ((x.typ G).both (y.typ G)).1 <= 64 := ⟨hb0.1, Nat.le_trans hb0.2 (by decide)⟩
 refine' hx.ty _ ev _ _ _ (by right) ?_
 refine' hy.ty _ ev _ _ _ (by right) ?_
 unfold tyV
 refine' ycq ?_
 rw [yf1]
 have key : ∀ {loc : yae}, loc "op" = some (.str op.s) -> loc "e" = some (.tup [.str "bin", .int 0, .str op.s, x.V, y.V]) -> loc "env" = some (.ptr d) -> loc "wide" = some (.int (max (x.typ G).1 (y.typ G).1 : Nat)) -> loc "signed" = some (.bool ((x.typ G).2 && (y.typ G).2)) -> EXS o (cxF k ydl L 1449) loc st (ycr.drop 4) (retQ Q) nX := fun {loc} l1 l2 l3 l4 l5 => by
  refine yat _ (yaa l1 (yaa l2 (yaa l3 (yaa l4 (yaa l5 yaj))))) ?_
  replace hb : 1 <= max (x.typ G).1 (y.typ G).1 /\ max (x.typ G).1 (y.typ G).1 <= 64 := hb
  rw [show (x.typ G).both (y.typ G) = (max (x.typ G).1 (y.typ G).1, (x.typ G).2 && (y.typ G).2) from rfl] at h
  generalize max (x.typ G).1 (y.typ G).1 = w at hb h ⊢
  generalize ((x.typ G).2 && (y.typ G).2) = s at h ⊢
  have bx := hx.at (s := s) hb
  have bly := hy.at (s := s) hb
  have hl : (x.val G w s).length = (y.val G w s).length := (hx.bt w s).1.trans (hy.bt w s).1.symm
  show EXS o _ _ st [_, _, _, _, _, _, _, _] _ _
  refine' hx.vl w s hb _ ev _ _ _ (by right) fun p hp => ?_
  left
  have le1 : St.le st _ := St.le_new (St.le_refl st) hp (m := .lst ((x.val G w s).map V.int))
  refine hy.vl w s hb _ (ev.up le1) _ _ _ (by right) fun q hq => ?_
  have le2 := St.le_new le1 hq (m := .lst ((y.val G w s).map V.int))
  have g1 := St.keep (St.set_same _ p (.lst ((x.val G w s).map V.int))) hq (m' := .lst ((y.val G w s).map V.int))
  have g2 := St.set_same (st.set p (.lst ((x.val G w s).map V.int))) q (.lst ((y.val G w s).map V.int))
  generalize (st.set p (.lst ((x.val G w s).map V.int))).set q (.lst ((y.val G w s).map V.int)) = S at *
  generalize x.val G w s = us at *
  generalize y.val G w s = vs at *
  induction ho : ordB op with
  | true =>
   replace h := h _ (ord_bin ho)
   have e3 := ord_n1 ho
   have e4 := ord_n2 ho
   refine' ya2 e3 ?_
   refine' ya2 e4 ?_
   refine' yas bx.1 g1 bx.2 (by right) ?_
   refine' yas bly.1 g2 bly.2 (by right) ?_
   induction e1 : yao us s with
   | none =>
    rw [e1] at h
    left
    exact ⟨_, le2, h⟩
   | some m =>
    induction e2 : yao vs s with
    | none =>
     rw [e1, e2] at h
     left
     exact ⟨_, le2, h⟩
    | some r =>
     rw [e1, e2] at h
     replace h : Q (.int (if ordF op m r then 1 else 0)) st := h
     refine' ev_dict4 (b1 := decide (m < r)) (b2 := decide (m <= r)) (b3 := decide (r < m)) (b4 := decide (r <= m)) (Ja.qr ⟨rfl, rfl⟩) (Ja.qr ⟨rfl, rfl⟩) (Ja.qr ⟨rfl, rfl⟩) (Ja.qr ⟨rfl, rfl⟩) (fun O O O O => by rfl) fun a ha => ?_
     have le3 : ∀ M, St.le st (S.set a M) := fun M => St.le_new le2 ha
     have nd : (["<", "<=", ">", ">="] : List Str).Nodup := by decide +kernel
     refine' yhc ⟨St.set_same .., nd⟩ (ord_get ho) ?_
     left
     generalize ordF op m r = bq at h ⊢
     induction bq
     . left
       exact ⟨_, le3 _, h⟩
     . left
       exact ⟨_, le3 _, h⟩
  | false =>
  induction op
  case ceq | cne =>
   all_goals
    replace h := h _ rfl
    refine' eq_lists g1 g2 ?_
    refine' ytm ?_
    revert h
    induction us == vs
    all_goals
     intro h
     left
     exact ⟨_, le2, h⟩
  case eq | ne =>
   all_goals
    replace h := h _ rfl
    have cz := yqa bx.1 bly.1 hl
    have lz : 1 <= (List.zipWith ydp us vs).length /\ (List.zipWith ydp us vs).length <= 64 := by rw [yc8 hl]; exact bx.2
    refine' ev_zip _ ydp (fun O O => rfl) (Ja.qr ⟨rfl, rfl⟩) (by rfl) (by rfl) (by rfl) (by rfl) g1 g2 (by rfl) (by rfl) (by right) hl (fun S u v C hu hv => ?_) fun D hD => ?_
    . refine Ja.qr ?_
      refine' ykt (bx.1 u hu) (bly.1 v hv) (by right) ?_
      refine' ycb (yfu _ _) (by right) ?_
      exact ⟨rfl, rfl⟩
    . left
      refine ybk (op := .and) (ng := false) cz (St.set_same ..) lz rfl (by right) ?_
      rw [RdU.a.eq cz]
      left
      try (refine ycb (ycf _) (by right) ?_; left)
      exact ⟨_, St.le_new le2 hD, h⟩
  all_goals first | exact Bool.noConfusion ho | exact Cls.noConfusion c
 generalize (x.typ G).2 = s1 at key ⊢
 induction s1 with
 | false =>
  intro go'
  refine ya2 rfl ?_
  exact key (by rfl) (by rfl) (by rfl) (by rfl) (by rfl)
 | true =>
  intro go'
  refine Ja.qj rfl ?_
  exact key (by rfl) (by rfl) (by rfl) (by rfl) (by rfl)
noncomputable def Cls.lo? : Cls -> Bool
 | .lo => true
 | _ => false
noncomputable def Cls.cm? : Cls -> Bool
 | .cm => true
 | _ => false
noncomputable def Cls.s4? : Cls -> Bool
 | .sh => true
 | _ => false
noncomputable def bitB : Bop -> Bool
 | .and | .or | .xor | .xnor => true
 | _ => false
noncomputable def Bop.cop : Bop -> Cop
 | .and => .and | .or => .or | .xor => .xor | _ => .xnor
theorem lo_is (op : Bop) : ((["&&", "||"] : List Str).any fun y => y == op.s) = op.cls.lo? := by induction op <;> rfl
theorem cm_is (op : Bop) : ((["<", "<=", ">", ">=", "==", "!=", "===", "!=="] : List Str).any fun y => y == op.s) = op.cls.cm? := by induction op <;> rfl
theorem s4_is (op : Bop) : ((["<<", ">>", "<<<", ">>>"] : List Str).any fun y => y == op.s) = op.cls.s4? := by induction op <;> rfl
theorem bit_is (op : Bop) : ((["&", "|", "^", "~^"] : List Str).any fun y => y == op.s) = bitB op := by induction op <;> rfl
theorem npow2 {op : Bop} (h : op.cls ≠ .pw) : (op.s == Str.ofString "**") = false := by induction op <;> first | rfl | exact absurd rfl h
theorem yts {op : Bop} (h : bitB op = true) {us vs : List Int} {s : Bool} : op.s = op.cop.s /\ yg8 us vs s op = List.zipWith op.cop.f us vs := by induction op <;> first | exact ⟨rfl, rfl⟩ | exact Bool.noConfusion h
theorem sum_bin {op : Bop} (h : bitB op = false) (c : op.cls = .ctx) {us vs : List Int} {s : Bool} : op.s ∈ (["+", "-", "*", "/", "%"] : List Str) /\ yg8 us vs s op = ygj us.length (sumO op (yao us s) (yao vs s)) := by
 induction op <;> first | exact ⟨by decide +kernel, rfl⟩ | exact Bool.noConfusion h | exact Cls.noConfusion c
theorem sh_bin {op : Bop} (c : op.cls = .sh) {us vs : List Int} {s : Bool} : yg8 us vs s op = shF us s op (yao vs false) := by induction op <;> first | rfl | exact Cls.noConfusion c
theorem fig_pos {us : List Int} : ∀ n, yao us false = some n -> 0 <= n := fun n h => by
 rw [ys8] at h
 split at h
 . cases h
 . cases h; exact (yal us).1
theorem lvl_bin {x y : Src} {op : Bop} {w : Nat} {s : Bool} (hx : LSrc o d l G n x) (hy : LSrc o d l G n y) (hw : 1 <= w /\ w <= 64) : LVl o d l G (n + 7) (Src.bin op x y).V w s ((Src.bin op x y).val G w s) := fun st ev k Q X hn h => by
 refine cf_ yaz fun L => ?_
 rw [ym2] at h
 have t1 := lo_is op
 have t2 := cm_is op
 have t4 := s4_is op
 have t5 := bit_is op
 have bx := hx.at (s := s) hw
 have bly := hy.at (s := s) hw
 left
 induction c : op.cls with
 | lo =>
  rw [c] at h t1
  refine Ja.qj t1 ?_
  induction op
  case land | lor =>
   all_goals
    refine' ydr (by decide) rfl ?_
    refine' hx.al _ ev _ _ _ (by right) fun p hp => ?_
    refine' yed hx.ab.1 (St.set_same ..) (by right) ?_
    refine' hy.al _ (ev.up (St.le_new (St.le_refl _) hp)) _ _ _ (by right) fun q hq => ?_
    refine' yed hy.ab.1 (St.set_same ..) (by right) ?_
    left
    first
    | refine yg4 (op := .and) (yax _) (yax _) (by right) ?_
    | refine yg4 (op := .or) (yax _) (yax _) (by right) ?_
    left
    intro f hf
    left
    first
    | refine ybm (us := [Cop.and.f (ydk (x.alone G)) (ydk (y.alone G))]) (St.set_same ..) o64 hw.2 (by right) fun c hc => ?_
    | refine ybm (us := [Cop.or.f (ydk (x.alone G)) (ydk (y.alone G))]) (St.set_same ..) o64 hw.2 (by right) fun c hc => ?_
    left
    exact ⟨_, St.le_both (St.le_new (St.le_new (St.le_new (St.le_refl _) hp) hq) hf), h c (yab (yab (yab hc)))⟩
  all_goals exact Cls.noConfusion c
 | cm =>
  rw [c] at h t1 t2
  refine ya2 t1 ?_
  refine' Ja.qj t2 ?_
  refine' law_cmp_ hx hy c ev (by right) fun r hr => ?_
  rw [hr] at h
  left
  intro f hf
  refine' ybm (us := [r]) (St.set_same ..) o64 hw.2 (by right) fun c hc => ?_
  left
  exact ⟨_, St.le_both (St.le_new (St.le_refl _) hf), h c (yab hc)⟩
 | pw =>
  have e : op = .pow := by induction op <;> first | rfl | exact Cls.noConfusion c
  subst e
  refine' hx.vl w s hw _ ev _ _ _ (by right) fun p hp => ?_
  refine' yas bx.1 (St.set_same ..) bx.2 (by right) ?_
  left
  have le1 : St.le st _ := St.le_new (St.le_refl st) hp (m := .lst ((x.val G w s).map V.int))
  refine hy.al _ (ev.up le1) _ _ _ (by right) fun q hq => ?_
  left
  have le2 := St.le_new le1 hq (m := .lst ((y.alone G).map V.int))
  refine hy.ty _ (ev.up le2) _ _ _ (by right) ?_
  refine' yas hy.ab.1 (St.set_same ..) (b64 hy.ab.2) (by right) ?_
  replace h : Cod o st Q (ygj w (powO w (yao (x.val G w s) s) (yao (y.alone G) (y.typ G).2))) := h
  induction e1 : yao (x.val G w s) s with
  | none =>
   rw [e1] at h
   refine' yc2 (x := none) hw.2 (by right) fun c hc => ?_
   left
   exact ⟨_, St.le_both le2, h c (St.le_none le2 hc)⟩
  | some m =>
   induction e2 : yao (y.alone G) (y.typ G).2 with
   | none =>
    rw [e1, e2] at h
    refine' yc2 (x := none) hw.2 (by right) fun c hc => ?_
    left
    exact ⟨_, St.le_both le2, h c (St.le_none le2 hc)⟩
   | some r =>
    rw [e1, e2] at h
    refine' yqt hw (ybv bx.2.2 e1) (ybv (b64 hy.ab.2).2 e2) (by right) ?_
    refine' yc2 hw.2 (by right) fun c hc => ?_
    left
    exact ⟨_, St.le_both le2, h c (St.le_none le2 hc)⟩
 | sh =>
  rw [c] at h t1 t2 t4
  replace h : Cod o st Q (yg8 (x.val G w s) (y.alone G) s op) := h
  rw [sh_bin c] at h
  refine ya2 t1 ?_
  refine' ya2 t2 ?_
  refine' hx.vl w s hw _ ev _ _ _ (by right) fun p hp => ?_
  refine' ya2 (npow2 (by rw [c]; exact fun q => by cases q)) ?_
  refine' Ja.qj t4 ?_
  left
  have le1 : St.le st _ := St.le_new (St.le_refl st) hp (m := .lst ((x.val G w s).map V.int))
  refine hy.al _ (ev.up le1) _ _ _ (by right) fun q hq => ?_
  left
  have le2 := St.le_new le1 hq (m := .lst ((y.alone G).map V.int))
  refine yas hy.ab.1 (St.set_same ..) (b64 hy.ab.2) (by right) ?_
  refine' yme (St.keep (St.set_same ..) hq) bx.2 c fig_pos (by right) fun c hc => ?_
  left
  exact ⟨_, St.le_both le2, h c (St.le_none le2 hc)⟩
 | ctx =>
  rw [c] at h t1 t2 t4
  replace h : Cod o st Q (yg8 (x.val G w s) (y.val G w s) s op) := h
  have hl : (x.val G w s).length = (y.val G w s).length := (hx.bt w s).1.trans (hy.bt w s).1.symm
  refine ya2 t1 ?_
  refine' ya2 t2 ?_
  refine' hx.vl w s hw _ ev _ _ _ (by right) fun p hp => ?_
  refine' ya2 (npow2 (by rw [c]; exact fun q => by cases q)) ?_
  refine' ya2 t4 ?_
  left
  have le1 : St.le st _ := St.le_new (St.le_refl st) hp (m := .lst ((x.val G w s).map V.int))
  refine hy.vl w s hw _ (ev.up le1) _ _ _ (by right) fun q hq => ?_
  left
  have le2 := St.le_new le1 hq (m := .lst ((y.val G w s).map V.int))
  have g1 := St.keep (St.set_same _ p (.lst ((x.val G w s).map V.int))) hq (m' := .lst ((y.val G w s).map V.int))
  have g2 := St.set_same (st.set p (.lst ((x.val G w s).map V.int))) q (.lst ((y.val G w s).map V.int))
  induction hb : bitB op with
  | true =>
   rw [hb] at t5
   rw [(yts hb).2] at h
   have e9 := (yts hb (us := []) (vs := []) (s := false)).1
   rw [e9] at t5 ⊢
   refine Ja.qj t5 ?_
   refine' ev_zip _ op.cop.f (fun O O => rfl) (Ja.qr ⟨rfl, rfl⟩) (by rfl) (by rfl) (by rfl) (by rfl) g1 g2 (by rfl) (by rfl) (Nat.le_trans bx.2.2 (by decide)) hl (fun S u v C hu hv => ?_) fun D hD => ?_
   . refine Ja.qr ?_
     refine' yg4 (bx.1 u hu) (bly.1 v hv) (by right) ?_
     exact ⟨rfl, rfl⟩
   . left
     exact ⟨_, St.le_both le2, h D (St.le_none le2 hD)⟩
  | false =>
   rw [hb] at t5
   have sb := sum_bin hb c (us := x.val G w s) (vs := y.val G w s) (s := s)
   rw [sb.2, (hx.bt w s).1] at h
   refine ya2 t5 ?_
   refine' yas bx.1 g1 bx.2 (by right) ?_
   refine' yas bly.1 g2 bly.2 (by right) ?_
   refine' ypm sb.1 (fun i q => ybv bx.2.2 q) (fun i q => ybv bly.2.2 q) (by right) ?_
   refine' yc2 hw.2 (by right) fun c hc => ?_
   left
   exact ⟨_, St.le_both le2, h c (St.le_none le2 hc)⟩
end
section
variable {o : Wo} [WO : WoOk o] [W : W3 o] {d : Addr} {l : Nat -> Addr} {G : Gm} {n : Nat}
theorem LVl.up {m : Nat} {e : V} {w : Nat} {s : Bool} {bs : List Int} (h : LVl o d l G n e w s bs) (hm : n <= m) : LVl o d l G m e w s bs := fun st ev k Q X hn => h st ev k Q X (Nat.le_trans hm hn)
theorem ysm (hG : GOk G) {j : Nat} {i : Src} {w : Nat} {s : Bool} (hj : j < 4) (hi : LSrc o d l G n i) (h1 : 1 <= n) (hw : w <= 64) : LVl o d l G (n + 5) (Src.index j i).V w s ((Src.index j i).val G w s) :=
 yh1 .i (by rw [ye8]; decide) hw fun st ev k Q X hn h => ch_sel (n := n + 1) hG (.inl rfl) hj (by decide) hi.al (fun st e k Q X hn => hi.ty st e k Q X (by right)) (fun st e k Q X hn => ymd st e k Q X (by right)) hi.ab.1 hi.ab.2 ev (by right) h
theorem lvl_upd (hG : GOk G) {up : Bool} {j r : Nat} {i : Src} {w : Nat} {s : Bool} (hj : j < 4) (hr : 1 <= r /\ r <= 4) (hi : LSrc o d l G n i) (h1 : 1 <= n) (hw : w <= 64) : LVl o d l G (n + 5) (Src.upd up j i r).V w s ((Src.upd up j i r).val G w s) :=
 yh1 updT (by rw [ye8]; exact w64 hr) hw fun st ev k Q X hn h => ch_sel (n := n + 1) hG (.inr (by induction up; exact .inr rfl; exact .inl rfl)) hj hr hi.al (fun st e k Q X hn => hi.ty st e k Q X (by right)) (fun st e k Q X hn => ysn hr st e k Q X (by right)) hi.ab.1 hi.ab.2 ev (by right) (by induction up <;> exact h)
theorem lvl_part (hG : GOk G) {j r : Nat} {lo : Int} {w : Nat} {s : Bool} (hj : j < 4) (hlo : -1 <= lo /\ lo < 5) (hr : 1 <= r /\ r <= 4) (hw : w <= 64) : LVl o d l G 5 (Src.part j lo r).V w s ((Src.part j lo r).val G w s) :=
 yh1 (n := 3) .p (by rw [ycx]; exact w64 hr) hw fun st ev k Q X hn h => ch_part hG hj hlo hr ev hn h
theorem up8c {a d : Nat} (e : Nat.ble a 6 = true) : a <= 8 * d + 6 := Nat.le_trans (Nat.le_of_ble_eq_true e) (Nat.le_add_left ..)
theorem up8 {a d : Nat} (e : Nat.ble a 8 = true) : 8 * d + 6 + a <= 8 * (d + 1) + 6 := Nat.le_trans (Nat.add_le_add_left (Nat.le_of_ble_eq_true e) _) (Nat.le_of_eq (Nat.add_right_comm (8 * d) 6 8))
theorem lsrc_ok (hG : GOk G) {m : Nat} {e : Src} (h : SOk m e) : LSrc o d l G (8 * m + 6) e := by
 have hT : ∀ {m : Nat} {e : Src}, SOk m e -> LTy o d l G (8 * m + 6) e.V (e.typ G) := fun h st w k Q X hn => lty_ok hG h st w k Q X (by right)
 induction h with
 | leaf h => exact ⟨hT (.leaf h), fun w s hw => (yph hG h hw.2).up (up8c rfl), h.typ hG, h.val hG⟩
 | index hj h ih => exact ⟨hT (.index hj h), fun w s hw => (ysm hG hj ih (up8c rfl) hw.2).up (up8 rfl), (SOk.index hj h).typ hG, (SOk.index hj h).val hG⟩
 | part hj hlo hr => exact ⟨hT (.part hj hlo hr), fun w s hw => (lvl_part hG hj hlo hr hw.2).up (up8c rfl), (SOk.part (d := 0) hj hlo hr).typ hG, (SOk.part (d := 0) hj hlo hr).val hG⟩
 | upd hj h hr ih => exact ⟨hT (.upd hj h hr), fun w s hw => (lvl_upd hG hj hr ih (up8c rfl) hw.2).up (up8 rfl), (SOk.upd hj h hr).typ hG, (SOk.upd hj h hr).val hG⟩
 | un h ih => exact ⟨hT (.un h), fun w s hw => (lvl_un ih hw (up8c rfl)).up (up8 rfl), (SOk.un h).typ hG, (SOk.un h).val hG⟩
 | cat h hl => exact ⟨hT (.cat h hl), fun w s hw => (lvl_cat hG h hl hw.2).up (up8c rfl), (SOk.cat (d := 0) h hl).typ hG, (SOk.cat (d := 0) h hl).val hG⟩
 | rep h hl hr => exact ⟨hT (.rep h hl hr), fun w s hw => (lvl_rep hG h hl hr hw.2).up (up8c rfl), (SOk.rep (d := 0) h hl hr).typ hG, (SOk.rep (d := 0) h hl hr).val hG⟩
 | sys h ih => exact ⟨hT (.sys h), fun w s hw => (lvl_sys ih hw.2).up (up8 rfl), (SOk.sys h).typ hG, (SOk.sys h).val hG⟩
 | cond ha hb hc ia ib ic => exact ⟨hT (.cond ha hb hc), fun w s hw => (lvl_cond ia ib ic hw).up (up8 rfl), (SOk.cond ha hb hc).typ hG, (SOk.cond ha hb hc).val hG⟩
 | bin hl hr il ir => exact ⟨hT (.bin hl hr), fun w s hw => (lvl_bin il ir hw).up (up8 rfl), (SOk.bin hl hr).typ hG, (SOk.bin hl hr).val hG⟩
end
theorem yfx (n : Int) (m : Nat) (p : 0 < m) : ∃ w : Nat, 1 + n % (m : Int) = w /\ 1 <= w /\ w <= m := by
 have a := Int.emod_nonneg n (b := m) (by right)
 have b := Int.emod_lt_of_pos n (b := m) (by right)
 have c := Int.add_nonneg (a := 1) (by decide) a
 exact ⟨(1 + n % m).toNat, (Int.toNat_of_nonneg c).symm, (Int.le_toNat c).mpr (Int.le_add_of_nonneg_right a), Int.toNat_le.mpr (by rw [Int.add_comm]; exact b)⟩
theorem yff {α : Type} {f : α -> Str} {as : List α} {c : Int} (n : Int) (h : c = as.length) (p : 0 < c) (q : c < 2 ^ 63) : ∃ a, (as.map fun a => V.str (f a))[(n % c).toNat]? = some (.str (f a)) /\ 0 <= n % c /\ n % c < 2 ^ 63 := by
 have a := Int.emod_nonneg n (b := c) (by right)
 have b := Int.emod_lt_of_pos n p
 have hi : (n % c).toNat < as.length := (Int.toNat_lt a).mpr (h ▸ b)
 exact ⟨as[(n % c).toNat], by rw [List.getElem?_map, List.getElem?_eq_getElem hi]; rfl, a, Int.lt_trans b q⟩
theorem mod63 {n c : Int} (p : 0 < c) (q : c < 2 ^ 63) : n % c < 2 ^ 63 := Int.lt_trans (Int.emod_lt_of_pos n p) q
theorem mods {n c : Int} (p : 0 < c) (q : c < 2 ^ 63) : -(2 ^ 63) <= n % c /\ n % c < 2 ^ 63 := ⟨by have := Int.emod_nonneg n (b := c) (by right); omega, mod63 p q⟩
def RG (r : Addr) (st S : St) : Prop := ∀ x, x ≠ r -> st x = none \/ st x = S x
theorem RG.refl (r : Addr) (st : St) : RG r st st := fun O O => .inr rfl
theorem RG.row {r : Addr} {st S : St} {m : MO} (h : RG r st S) : RG r st (S.set r m) := fun x q => by rw [St.set_ne _ _ q]; exact h x q
theorem RG.new {r a : Addr} {st S : St} {m : MO} (h : RG r st S) (ha : S a = none) : RG r st (S.set a m) := fun x q => by
 by_cases p : x = a
 . subst p
   rcases h x q with e | e
   . exact .inl e
   . exact .inl (e.trans ha)
 . rw [St.set_ne _ _ p]; exact h x q
theorem row_keep {r a : Addr} {S : St} {m m' : MO} (hr : S r = some m) (ha : S a = none) : (S.set a m') r = some m := St.keep hr ha
inductive Rw (r : Addr) (st S : St) : Prop
 | mk (xs : List Int) (g : RG r st S) (e : S r = some (.lst (xs.map V.int))) (ok : yjd xs)
section
variable {o : Wo} [WO : WoOk o] [W : W3 o] {k : Kx} {st S : St} {Q : V -> St -> Prop} {X : Exc -> St -> Prop} {r : Addr}
theorem Rw.new {a : Addr} {m : MO} (h : Rw r st S) (ha : S a = none) : Rw r st (S.set a m) := by
 obtain ⟨xs, g, e, ok⟩ := h
 exact ⟨xs, g.new ha, St.keep e ha, ok⟩
theorem wE_int {g : Str -> Option Value} {kb : Value -> Bool} {c : Cx} {n : Nat} {loc : yae} {i : Int} {j : Nat} {p : Pos} (h : Q (.int i) st) : wE g kb o c X (n + 1) loc (.Constant (.int i) j p) Q st := h
theorem ite_kv {b : Bool} {A B : Prop} {K : V -> St -> Prop} {S : St} (C : V -> Prop) (hC : ∀ v, C v -> K v S) (x : b = true -> (∀ v, C v -> K v S) -> A) (y : b = false -> (∀ v, C v -> K v S) -> B) : if b then A else B := by
 induction b
 . exact y rfl hC
 . exact x rfl hC
theorem ycm (h : Rw r st S) (hn : 1 <= k.n) (hq : ∀ n S', 0 <= n -> n < 1024 -> Rw r st S' -> RG r S S' -> Q (.int n) S') : yak o k S (.ref 1312) [.ptr r] Q X := by
 obtain ⟨xs, g, e, ok⟩ := h
 exact yfg hn e ok fun n ys n0 n1 hy => hq n _ n0 n1 ⟨ys, g.row, St.set_same .., hy⟩ (RG.row (RG.refl _ _))
theorem bits_ {w : Nat} (h : Rw r st S) (hw : w <= 100) (hn : 2 <= k.n) (hq : ∀ a (bs : List Int) S', S' a = some (.lst (bs.map V.int)) -> a ≠ r -> bs.length = w -> yac bs -> Rw r st S' -> RG r S S' -> S a = none -> Q (.ptr a) S') : yak o k S (.ref 1319) [.ptr r, .int w] Q X := by
 obtain ⟨xs, g, e, ok⟩ := h
 refine ypo hn e ok hw fun a bs ys ha hy hl hc => ?_
 have hra : a ≠ r := fun q => by rw [q, e] at ha; cases ha
 have ha2 : (S.set r (.lst (ys.map V.int))) a = none := (St.set_ne _ _ hra).trans ha
 exact hq a bs _ (St.set_same ..) hra hl hc ⟨ys, g.row.new ha2, row_keep (St.set_same ..) ha2, hy⟩ ((RG.row (RG.refl _ _)).new ha2) ha
theorem RG.at {S' : St} {a : Addr} {m : MO} (h : RG r S S') (e : S a = some m) (ha : a ≠ r) : S' a = some m := by
 rcases h a ha with q | q
 . rw [q] at e; cases e
 . exact q.symm.trans e
theorem yjq {bs : List Int} : yac (bs.map fun b => b % 2) := fun b hb => by
 obtain ⟨x, _, rfl⟩ := List.mem_map.mp hb
 exact mjk x (by decide) (by decide)
theorem Rw.self (h : Rw r st S) : Rw r S S := by
 obtain ⟨xs, g, e, ok⟩ := h
 exact ⟨xs, RG.refl _ _, e, ok⟩
theorem RG.trans {S' : St} (h : RG r st S) (h' : RG r S S') : RG r st S' := fun x q => by
 rcases h x q with e | e
 . exact .inl e
 . rcases h' x q with f | f
   . exact .inl (e.trans f)
   . exact .inr (e.trans f)
theorem Rw.g (h : Rw r st S) : RG r st S := by obtain ⟨_, g, _, _⟩ := h; exact g
theorem Rw.trans {S' : St} (h : Rw r st S) (h' : Rw r S S') : Rw r st S' := by
 obtain ⟨xs, g, e, ok⟩ := h'
 exact ⟨xs, h.g.trans g, e, ok⟩
theorem made_ {a : Addr} {bs : List Int} (ha : S a = some (.lst (bs.map V.int))) (hl : bs.length <= 64) (hb : yac bs) (hn : 1 <= k.n) (h : Q (yag bs) S) : yak o k S (.ref 1326) [.ptr a] Q X := ypn hn ha (by right) hb h
theorem yh5 (h : Rw r S S) (hn : 3 <= k.n) (hq : ∀ p S', LOk p -> Rw r S S' -> Q p.V S') : yak o k S (.ref 1331) [.ptr r] Q X := by
 refine cf_ yi1 fun L => ?_
 refine yia 2 ?_
 have key : ∀ {loc : yae} {S1 : St} {a : Addr} {bs : List Int}, loc "row" = some (.ptr r) -> loc "bits" = some (.ptr a) -> S1 a = some (.lst (bs.map V.int)) -> a ≠ r -> yac bs -> 1 <= bs.length /\ bs.length <= 6 -> Rw r S S1 -> EXS o (cxF k yeu L 1331) loc S1 (ydm.drop 2) (retQ Q) nX := fun {loc S1 a bs} l1 l2 ha hr hc hl hw => by
  refine yat _ (yaa l1 (yaa l2 yaj)) ?_
  show EXS o _ _ S1 [_, _] _ _
  refine' ycm hw (by right) fun n1 S2 O O hw2 g2 => ?_
  have ha2 := g2.at ha hr
  refine' yah (by decide) ?_
  left
  induction c1 : n1 % 4 == 3 with
  | false =>
   refine' made_ ha2 (by right) hc (by right) ?_
   refine' ycm hw2 (by right) fun n2 S3 O O hw3 g3 => ?_
   refine' yah (by decide) ?_
   left
   exact ⟨_, St.le_refl _, hq (.num bs (n2 % 2 == 1) true) S3 (.num hc ⟨hl.1, by right⟩) hw3⟩
  | true =>
   have hlast := yfh hc
   refine' yby ha2 (by decide) (by rw [List.length_map]; right) (by decide) (yee hl.1) ?_
   left
   apply ite_kv (S := S2) (fun v => ∃ f : Int, v = .int f /\ 0 <= f /\ f < 4)
   case x =>
    intro _ hC
    intro go'
    refine yby ha2 (by decide) (by rw [List.length_map]; right) (by decide) (yee hl.1) ?_
    exact hC _ ⟨_, rfl, hlast⟩
   case y => intro _ hC; exact wE_int (hC _ ⟨0, rfl, by decide⟩)
   rintro _ ⟨f, rfl, hf⟩
   left
   intro q hq'
   refine' yan (St.keep ha2 hq') (by rw [List.length_map]; right) ?_
   rw [List.length_map]
   refine' ya9 (St.set_same ..) (by right) (by right) (by rw [List.length_singleton, Nat.one_mul]; right) fun m hm => ?_
   have h32 : bs.length <= 32 := Nat.le_trans hl.2 (by decide)
   rw [show ((32 : Int) - (bs.length : Int)).toNat = 32 - bs.length from (congrArg Int.toNat (Int.ofNat_sub h32)).symm, yce]
   refine' ybz (St.keep (St.keep ha2 hq') hm) (St.set_same ..) (by rw [List.length_map, List.length_map, List.length_replicate, Nat.add_sub_of_le h32]; decide) fun c hc' => ?_
   rw [<- List.map_append]
   left
   have hlen : (bs ++ List.replicate (32 - bs.length) f).length = 32 := by rw [List.length_append, List.length_replicate]; exact Nat.add_sub_of_le h32
   have hcc : yac (bs ++ List.replicate (32 - bs.length) f) := hc.app (yac.repl hf _)
   refine made_ (St.set_same ..) (by rw [hlen]; decide) hcc (by right) ?_
   refine' ycm (((hw2.new hq').new hm).new hc') (by right) fun n2 S3 O O hw3 g3 => ?_
   refine' yah (by decide) ?_
   left
   exact ⟨_, St.le_refl _, hq (.num _ (n2 % 2 == 1) false) S3 (.num hcc (by rw [hlen]; decide)) hw3⟩
 refine' ycm h (by right) fun n1 S1 h0 h1 hw1 g1 => ?_
 refine' yah (by decide) ?_
 left
 obtain ⟨w, ew, h6⟩ : ∃ w : Nat, 1 + n1 % 6 = (w : Int) /\ 1 <= w /\ w <= 6 := yfx n1 6 (by decide)
 rw [ew]
 refine bits_ hw1 (by right) (by right) fun a bs S2 ha hr hl hc hw2 g2 hn2 => ?_
 refine' ycm hw2 (by right) fun n3 S3 O O hw3 g3 => ?_
 have ha3 := g3.at ha hr
 refine' yah (by decide) ?_
 refine' yd0 (fun c => ?_) fun c => ?_
 . left
   refine yev _ (fun O O => rfl) (by rfl) (by rfl) (by rfl) (by rfl) ?_
   refine yib (by rfl) (by rfl) ?_
   refine yie V.int (fun b => .int (b % 2)) (L := (bs.map fun b => b % 2).map V.int) (by rw [List.map_map]; rfl) (by rfl) (by rfl) (by rw [hl]; exact szA h6 rfl) ha3 (fun z ys D C hz hD => ?_) (fun D hD => ?_)
   . refine Ja.qr ?_
     refine' yah (by decide) ?_
     exact ⟨rfl, rfl⟩
   . exact key (bs := bs.map fun b => b % 2) (by rfl) (by rfl) (St.set_same ..) (fun q => by obtain ⟨_, _, e, _⟩ := hw3; rw [q, e] at hD; cases hD) yjq (by rw [List.length_map, hl]; exact h6) (hw3.new hD)
 . exact key (by rfl) (by rfl) ha3 hr hc (by rw [hl]; exact h6) hw3
end
def SrcS (o : Wo) (r : Addr) (n m : Nat) : Prop := ∀ S, Rw r S S -> ∀ (k : Kx) (Q : V -> St -> Prop) (X : Exc -> St -> Prop), n <= k.n -> (∀ e S', SOk m e -> Rw r S S' -> Q e.V S') -> yak o k S (.ref 1352) [.ptr r, .int (m : Nat)] Q X
section
variable {o : Wo} [WO : WoOk o] [W : W3 o] {k : Kx} {st S : St} {Q : V -> St -> Prop} {X : Exc -> St -> Prop} {r : Addr}
theorem Rw.ne {a : Addr} (h : Rw r st S) (ha : S a = none) : a ≠ r := fun q => by obtain ⟨_, _, e, _⟩ := h; rw [q, e] at ha; cases ha
theorem abcd (n : Int) : ∃ j, j < 4 /\ (seqIndex? (n % 4) (Str.ofString "abcd").length).bind ((Str.ofString "abcd").cps[·]?) = some (97 + j) := by
 have : n % 4 = 0 \/ n % 4 = 1 \/ n % 4 = 2 \/ n % 4 = 3 := yi9 (fun x => x = 0 \/ x = 1 \/ x = 2 \/ x = 3) (by rfl) (mdk n (by decide))
 rcases this with e | e | e | e <;> rw [e]
 . exact ⟨0, by decide, rfl⟩
 . exact ⟨1, by decide, rfl⟩
 . exact ⟨2, by decide, rfl⟩
 . exact ⟨3, by decide, rfl⟩
theorem leaf0 (hk : 5 <= k.n) (h : Rw r S S) (hq : ∀ p S', LOk p -> Rw r S S' -> Q p.V S') : yak o k S (.ref 1352) [.ptr r, .int ((0 : Nat) : Int)] Q X := by
 refine cf_ yeq fun L => ?_
 refine' ycm h (by right) fun n1 S1 h0 h1 hw1 g1 => ?_
 refine' yah (by decide) ?_
 left
 induction c0 : n1 % 2 == 0 with
 | true =>
  refine' ycm hw1 (by right) fun n2 S2 O O hw2 g2 => ?_
  refine' yah (by decide) ?_
  obtain ⟨j, hj, ej⟩ := abcd n2
  refine' ydr (mods (c := 4) (by decide) (by decide)) ej ?_
  left
  exact ⟨_, St.le_refl _, hq (.id j) S2 (.id hj) hw2⟩
 | false =>
  have c1 : (n1 % 2 == 1) = true := by rw [beq_iff_eq]; exact (Int.emod_two_eq n1).resolve_left (ne_of_beq_false c0)
  refine' Ja.qj c1 ?_
  refine' yh5 hw1.self (by right) fun p S2 hp hw2 => ?_
  left
  exact ⟨_, St.le_refl _, hq p S2 hp (hw1.trans hw2)⟩
theorem src0 : SrcS o r 5 0 := fun S h k Q X hn hq => leaf0 hn h fun p S' hp hw => hq (.leaf p) S' (.leaf hp) hw
theorem yow {f : Int} (hn : 1 <= k.n) (h : Q (ybb f) S) : yak o k S (.ref 1338) [.int f] Q X := by
 refine cf_ ykl fun L => ?_
 refine' ybu (i := 32) (by decide) ?_
 refine' yah (by decide) ?_
 ac_rfl
theorem select_ {n m : Nat} (ih : SrcS o r n m) (h : Rw r S S) (hn : n + 2 <= k.n) (h3 : 3 <= n) (hq : ∀ e S', SOk (m + 1) e -> Rw r S S' -> Q e.V S') : yak o k S (.ref 1345) [.ptr r, .int ((m + 1 : Nat) : Int)] Q X := by
 refine cf_ yi0 fun L => ?_
 have em : ((m + 1 : Nat) : Int) - 1 = (m : Nat) := by right
 refine' ycm h (by right) fun n1 S1 O O hw1 g1 => ?_
 refine' yah (by decide) ?_
 obtain ⟨j, hj, ej⟩ := abcd n1
 refine' ydr (mods (c := 4) (by decide) (by decide)) ej ?_
 refine' ycm hw1 (by right) fun n2 S2 O O hw2 g2 => ?_
 refine' yah (by decide) ?_
 left
 induction c0 : n2 % 4 == 0 with
 | true =>
  left
  rw [em]
  refine ih S2 hw2.self _ _ _ (by right) fun e S3 he hw3 => ?_
  left
  exact ⟨_, St.le_refl _, hq (.index j e) S3 (.index hj he) (hw2.trans hw3)⟩
 | false =>
  refine' ycm hw2 (by right) fun n3 S3 O O hw3 g3 => ?_
  refine' yah (by decide) ?_
  refine' ycm hw3 (by right) fun n4 S4 O O hw4 g4 => ?_
  refine' yah (by decide) ?_
  left
  obtain ⟨w, ew, hw⟩ : ∃ w : Nat, 1 + n4 % 4 = (w : Int) /\ 1 <= w /\ w <= 4 := yfx n4 4 (by decide)
  rw [ew]
  induction c1 : n2 % 4 == 1 with
  | true =>
   refine' yow (by right) ?_
   refine' yow (by right) ?_
   left
   exact ⟨_, St.le_refl _, hq (.part j (n3 % 6 - 1) w) S4 (.part hj ⟨Int.sub_le_sub_right (mdk n3 (by decide)).1 1, Int.sub_lt_sub_right (mdk n3 (by decide)).2 1⟩ hw) hw4⟩
  | false =>
   have n0 := ne_of_beq_false c0
   have n1' := ne_of_beq_false c1
   obtain ⟨up, hup⟩ : ∃ up : Bool, [V.str "up", V.str "down"][(n2 % 4 - 2).toNat]? = some (.str (updS up)) := by
    have : n2 % 4 = 2 \/ n2 % 4 = 3 := yi9 (fun x => x ≠ 0 -> x ≠ 1 -> x = 2 \/ x = 3) (by rfl) (mdk n2 (by decide)) n0 n1'
    rcases this with e | e <;> rw [e]
    . exact ⟨true, rfl⟩
    . exact ⟨false, rfl⟩
   left
   intro a ha
   refine' ya6 (St.set_same ..) (by right) (by right) hup ?_
   left
   rw [em]
   refine ih _ (hw4.new ha).self _ _ _ (by right) fun e S5 he hw5 => ?_
   refine' yow (by right) ?_
   left
   exact ⟨_, St.le_refl _, hq (.upd up j e w) S5 (.upd hj he hw) ((hw4.new ha).trans hw5)⟩
end
noncomputable def unL : List Uop := [.plus, .neg, .inv, .lnot, .rand, .ror, .rxor, .rnand, .rnor, .rxnor]
noncomputable def shL : List Bop := [.shl, .shr, .sal, .sar, .pow]
noncomputable def cmL : List Bop := [.lt, .le, .gt, .ge, .eq, .ne, .ceq, .cne, .land, .lor]
noncomputable def arL : List Bop := [.add, .sub, .mul, .div, .mod, .and, .or, .xor, .xnor]
section
variable {o : Wo} [WO : WoOk o] [W : W3 o] {k : Kx} {st S : St} {Q : V -> St -> Prop} {X : Exc -> St -> Prop} {r : Addr}
theorem take_min {bs : List Int} (hc : yac bs) (hl : 1 <= bs.length) : yag (bs.take (min bs.length 6)) = .tup [.int ((min bs.length 6 : Nat) : Int), .int (yaf bs % 2 ^ (min bs.length 6)), .int (yad bs % 2 ^ (min bs.length 6))] := by
 have h : min bs.length 6 <= bs.length := Nat.min_le_left ..
 unfold yag
 rw [yeb h, ydc hc h, List.length_take, Nat.min_eq_left h]
theorem min6 (n : Nat) : (if (6 : Int) < (n : Int) then (6 : Int) else (n : Int)) = ((min n 6 : Nat) : Int) := by
 split
 . next q => exact (congrArg Nat.cast (Nat.min_eq_right (Nat.le_of_lt (Int.ofNat_lt.mp q)))).symm
 . next q => exact (congrArg Nat.cast (Nat.min_eq_left (Int.ofNat_le.mp (Int.not_lt.mp q)))).symm
inductive PtJ (r : Addr) (S : St) (i : Nat) (v : V) (S' : St) : Prop
 | mk (a : Addr) (ps : List Leaf) (e : v = .ptr a) (hl : ps.length = i) (ok : ∀ p ∈ ps, POk p) (c : S' a = some (.lst (ps.map Leaf.V))) (ne : a ≠ r) (f : S a = none) (w : Rw r S S')
theorem PtJ.push {i : Nat} {a : Addr} {ps : List Leaf} {S' S3 : St} {p : Leaf} (hl : ps.length = i) (ok : ∀ p ∈ ps, POk p) (ne : a ≠ r) (f : S a = none) (w : Rw r S S') (w3 : Rw r S' S3) (hp : POk p) : PtJ r S (i + 1) (.ptr a) (S3.set a (.lst (ps.map Leaf.V ++ [p.V]))) := by
 refine ⟨a, ps ++ [p], rfl, by rw [List.length_append, hl]; rfl, fun q hq => ?_, by rw [List.map_append]; exact St.set_same .., ne, f, ?_⟩
 . rcases List.mem_append.mp hq with q' | q'
   . exact ok q q'
   . rw [List.mem_singleton.mp q']; exact hp
 . obtain ⟨ys, g, e, okr⟩ := w.trans w3
   refine ⟨ys, fun x q => ?_, (St.set_ne _ _ ne.symm).trans e, okr⟩
   by_cases c : x = a
   . exact .inl (c ▸ f)
   . rw [St.set_ne _ _ c]; exact g x q
theorem srcS {n m : Nat} (ih : SrcS o r n m) (h3 : 5 <= n) : SrcS o r (n + 3) (m + 1) := fun S h k Q X hn hq => by
 have em : ((m + 1 : Nat) : Int) - 1 = (m : Nat) := by right
 refine cf_ yeq fun L => ?_
 refine' ycm h (by right) fun n0 S0 O O hw g0 => ?_
 refine' Ja.qj (decide_eq_true (by right)) ?_
 refine' yah (by decide) ?_
 have r0 : 0 <= n0 % 12 /\ n0 % 12 < 12 := mdk n0 (by decide)
 generalize n0 % 12 = kd at r0 ⊢
 left
 induction c0 : kd == 0 with
 | true =>
  refine' ycm hw (by right) fun n2 S2 O O hw2 g2 => ?_
  refine' yah (by decide) ?_
  obtain ⟨j, hj, ej⟩ := abcd n2
  refine' ydr (mods (c := 4) (by decide) (by decide)) ej ?_
  left
  exact ⟨_, St.le_refl _, hq (.leaf (.id j)) S2 (.leaf (.id hj)) hw2⟩
 | false =>
 left
 induction c1 : kd == 1 with
 | true =>
  refine' yh5 hw.self (by right) fun p S2 hp hw2 => ?_
  left
  exact ⟨_, St.le_refl _, hq (.leaf p) S2 (.leaf hp) (hw.trans hw2)⟩
 | false =>
 left
 induction c2 : kd == 2 with
 | true =>
  left
  intro a ha
  refine' ycm (hw.new ha) (by right) fun n2 S2 O O hw2 g2 => ?_
  refine' yah (by decide) ?_
  obtain ⟨op, eop, b0, b1⟩ := yff (f := Uop.s) (as := unL) (c := 10) n2 (by rfl) (by decide) (by decide)
  refine' ya6 (g2.at (St.set_same ..) (hw.ne ha)) b0 b1 eop ?_
  left
  rw [em]
  refine ih _ hw2.self _ _ _ (by right) fun e S3 he hw3 => ?_
  left
  exact ⟨_, St.le_refl _, hq (.un op e) S3 (.un he) (hw2.trans hw3)⟩
 | false =>
 left
 induction c3 : kd == 3 with
 | true =>
  refine' select_ ih hw.self (by right) (by right) fun e S3 he hw3 => ?_
  left
  exact ⟨_, St.le_refl _, hq e S3 he (hw.trans hw3)⟩
 | false =>
 left
 induction c4 : kd == 4 with
 | true =>
  left
  intro a ha
  refine' ybw (fun O O => rfl) ?_
  left
  have hw0 := hw.new ha (m := .lst [])
  have hne := hw.ne ha
  have ca := St.set_same S0 a (.lst [])
  have fa : S a = none := by
   rcases hw.g a hne with q | q
   . exact q
   . exact q.trans ha
  generalize S0.set a (.lst []) = S00 at hw0 ca ⊢
  refine ycm hw0 (by right) fun n1 S1 O O hw1 g1 => ?_
  have ca1 := g1.at ca hne
  refine' yah (by decide) ?_
  refine' yb5 ?_
  obtain ⟨c, ec, hcc⟩ : ∃ c : Nat, 1 + n1 % 2 = (c : Int) /\ 1 <= c /\ c <= 2 := yfx n1 2 (by decide)
  rw [ec]
  refine yc3 (fun i loc st' => loc "row" = some (.ptr r) /\ ∃ v, loc "parts" = some v /\ PtJ r S i v st') (rg hcc.2 rfl) ⟨by rfl, _, by rfl, ⟨a, [], rfl, rfl, (fun O h => nomatch h), ca1, hne, fa, hw1⟩⟩ (fun i x loc S2 Q' hx hj hq' => ?_) (fun loc S2 hj => ?_)
  . obtain ⟨l1, v, l2, a, ps, rfl, hl, ok, ca, ne, fa, hw⟩ := hj
    have hi := (List.getElem?_eq_some_iff.mp hx).1
    rw [ya8] at hi
    refine ybf _ (yaa l1 (yaa l2 yaj)) ?_
    refine' leaf0 (by right) hw.self fun p S3 hp hw3 => ?_
    have ca3 := hw3.g.at ca ne
    induction hp with
    | @num bs sg szd hc hb =>
     rw [show (Leaf.num bs sg szd).V = .tup [.str "num", .int 0, yag bs, .bool sg, .bool szd] from rfl]
     have pk : POk (.num (bs.take (min bs.length 6)) sg true) := .num (hc.take _) (by rw [List.length_take]; exact ⟨Nat.le_min.mpr ⟨Nat.le_min.mpr ⟨hb.1, by decide⟩, hb.1⟩, Nat.le_trans (Nat.min_le_left ..) (Nat.le_trans (Nat.min_le_right ..) (by decide))⟩)
     have pj := PtJ.push hl ok ne fa hw hw3 pk
     rw [show (Leaf.num (bs.take (min bs.length 6)) sg true).V = .tup [.str "num", .int 0, yag (bs.take (min bs.length 6)), .bool sg, .bool true] from rfl, take_min hc hb.1] at pj
     refine' ydi ?_
     rw [min6]
     refine' ydi ?_
     rw [min6]
     refine' ybu (by right) ?_
     refine' yah (kbt_pos _) ?_
     refine' ydi ?_
     rw [min6]
     refine' ybu (by right) ?_
     refine' yah (kbt_pos _) ?_
     refine' ⟨_, yaw ca3, yh6 (fun O O => rfl), ?_⟩
     refine' yaq ca3 (by rw [List.length_map, hl]; exact szl (Nat.le_trans (Nat.le_of_lt (show i < c from hi)) hcc.2) rfl) ?_
     refine' hq' _ _ _ ?_
     exact ⟨by rfl, _, by rfl, pj⟩
    | @id j hj =>
     refine' ⟨_, yaw ca3, yh6 (fun O O => rfl), ?_⟩
     refine' yaq ca3 (by rw [List.length_map, hl]; exact szl (Nat.le_trans (Nat.le_of_lt (show i < c from hi)) hcc.2) rfl) ?_
     refine' hq' _ _ _ ?_
     exact ⟨by rfl, _, by rfl, PtJ.push hl ok ne fa hw hw3 (.id hj)⟩
  . obtain ⟨l1, v, l2, a, ps, rfl, hl, ok, ca, ne, fa, hw⟩ := hj
    have hlp : 1 <= ps.length /\ ps.length <= 2 := by rw [show ps.length = c from hl]; exact hcc
    refine yat _ (yaa l1 (yaa l2 yaj)) ?_
    refine' ycw ca (by rw [List.length_map]; right) ?_
    refine' ycm hw (by right) fun n3 S3 O O hw3 g3 => ?_
    refine' yah (by decide) ?_
    refine' yd0 (fun O => ?_) fun O => ?_
    . left
      exact ⟨_, St.le_refl _, hq (.cat ps) S3 (.cat ok hlp) hw3⟩
    . left
      refine ycm hw3 (by right) fun n4 S4 O O hw4 g4 => ?_
      refine' yah (by decide) ?_
      left
      obtain ⟨c, ec, hc⟩ : ∃ c : Nat, 1 + n4 % 2 = (c : Int) /\ 1 <= c /\ c <= 2 := yfx n4 2 (by decide)
      rw [ec]
      refine yow (by right) ?_
      refine' ycw (g4.at (g3.at ca ne) ne) (by rw [List.length_map]; right) ?_
      left
      exact ⟨_, St.le_refl _, hq (.rep c ps) S4 (.rep ok hlp hc) hw4⟩
 | false =>
 left
 induction c5 : kd == 5 with
 | true =>
  left
  intro a ha
  refine' ycm (hw.new ha) (by right) fun n2 S2 O O hw2 g2 => ?_
  refine' yah (by decide) ?_
  obtain ⟨sg, eop, b0, b1⟩ := yff (f := sysS) (as := [true, false]) (c := 2) n2 (by rfl) (by decide) (by decide)
  refine' ya6 (g2.at (St.set_same ..) (hw.ne ha)) b0 b1 eop ?_
  left
  rw [em]
  refine ih _ hw2.self _ _ _ (by right) fun e S3 he hw3 => ?_
  left
  exact ⟨_, St.le_refl _, hq (.sys sg e) S3 (.sys he) (hw2.trans hw3)⟩
 | false =>
 left
 rw [em]
 refine ih _ hw.self _ _ _ (by right) fun x S1 hx hw1 => ?_
 have hw1 := hw.trans hw1
 left
 rw [em]
 refine ih _ hw1.self _ _ _ (by right) fun y S2 hy hw2 => ?_
 have hw2 := hw1.trans hw2
 left
 induction c6 : kd == 6 with
 | true =>
  left
  rw [em]
  refine ih _ hw2.self _ _ _ (by right) fun z S3 hz' hw3 => ?_
  left
  exact ⟨_, St.le_refl _, hq (.cond x y z) S3 (.cond hx hy hz') (hw2.trans hw3)⟩
 | false =>
 left
 induction c7 : kd == 7 with
 | true =>
  left
  intro a ha
  refine' ycm (hw2.new ha) (by right) fun n2 S3 O O hw3 g3 => ?_
  refine' yah (by decide) ?_
  obtain ⟨op, eop, b0, b1⟩ := yff (f := Bop.s) (as := shL) (c := 5) n2 (by rfl) (by decide) (by decide)
  refine' ya6 (g3.at (St.set_same ..) (hw2.ne ha)) b0 b1 eop ?_
  left
  exact ⟨_, St.le_refl _, hq (.bin op x y) S3 (.bin hx hy) hw3⟩
 | false =>
 left
 induction c8 : kd == 8 with
 | true =>
  left
  intro a ha
  refine' ycm (hw2.new ha) (by right) fun n2 S3 O O hw3 g3 => ?_
  refine' yah (by decide) ?_
  obtain ⟨op, eop, b0, b1⟩ := yff (f := Bop.s) (as := cmL) (c := 10) n2 (by rfl) (by decide) (by decide)
  refine' ya6 (g3.at (St.set_same ..) (hw2.ne ha)) b0 b1 eop ?_
  left
  exact ⟨_, St.le_refl _, hq (.bin op x y) S3 (.bin hx hy) hw3⟩
 | false =>
  left
  intro a ha
  refine' ycm (hw2.new ha) (by right) fun n2 S3 O O hw3 g3 => ?_
  refine' yah (by decide) ?_
  obtain ⟨op, eop, b0, b1⟩ := yff (f := Bop.s) (as := arL) (c := 9) n2 (by rfl) (by decide) (by decide)
  refine' ya6 (g3.at (St.set_same ..) (hw2.ne ha)) b0 b1 eop ?_
  left
  exact ⟨_, St.le_refl _, hq (.bin op x y) S3 (.bin hx hy) hw3⟩
theorem yrq : ∀ m : Nat, SrcS o r (3 * m + 5) m
 | 0 => src0
 | m + 1 => fun S h k Q X hn hq => srcS (yrq m) (by right) S h k Q X (by right) hq
end
theorem yo4 (i : Int) (v : V) : ∀ l : List (Int × V), yfa i (ygm i v l) = some v
 | [] => by simp [ygm, yfa]
 | (j, y) :: r => by
  unfold ygm
  by_cases q : j = i
  . rw [if_pos q]; simp [yfa, q]
  . rw [if_neg q]; simp only [yfa, if_neg q]; exact yo4 i v r
theorem yr2 {i j : Int} (n : j ≠ i) (v : V) : ∀ l : List (Int × V), yfa j (ygm i v l) = yfa j l
 | [] => by simp [ygm, yfa, Ne.symm n]
 | (m, y) :: r => by
  unfold ygm
  by_cases q : m = i
  . rw [if_pos q]; simp [yfa, q, Ne.symm n]
  . rw [if_neg q]; simp only [yfa]; rw [yr2 n v r]
theorem yo1 (i : Int) (v : V) : ∀ l : List (Int × V), (ygm i v l).length <= l.length + 1
 | [] => by simp [ygm]
 | (m, y) :: r => by
  unfold ygm
  have := yo1 i v r
  split
  . simp
  . rw [List.length_cons, List.length_cons]; right
theorem yhn {K : Type} [DecidableEq K] (i : K) (v : V) : ∀ l : List (K × V), (l.map (·.1)).Nodup -> ((ygm i v l).map (·.1)).Nodup /\ ∀ x, x ∈ (ygm i v l).map (·.1) -> x = i \/ x ∈ l.map (·.1)
 | [], _ => ⟨by simp [ygm], fun x h => by simp [ygm] at h; exact .inl h⟩
 | (m, y) :: r, h => by
  rw [List.map_cons, List.nodup_cons] at h
  obtain ⟨h1, h2⟩ := yhn i v r h.2
  unfold ygm
  by_cases q : m = i
  . rw [if_pos q]
    refine ⟨by rw [List.map_cons, List.nodup_cons]; exact h, fun x hx => .inr hx⟩
  . rw [if_neg q]
    refine ⟨?_, fun x hx => ?_⟩
    . rw [List.map_cons, List.nodup_cons]
      refine ⟨fun hm => ?_, h1⟩
      rcases h2 m hm with e | e
      . exact q e
      . exact h.1 e
    . rw [List.map_cons] at hx ⊢
      rcases List.mem_cons.mp hx with e | e
      . exact .inr (e ▸ .head _)
      . exact (h2 x e).imp id fun e => .tail _ e
theorem set_same {α : Type} : ∀ {L : List α} {i : Nat} {p : α}, L[i]? = some p -> L.set i p = L
 | [], _, _, h => by cases h
 | _ :: _, 0, _, h => by cases h; rfl
 | x :: L, i + 1, p, h => congrArg (x :: ·) (set_same (L := L) (i := i) h)
inductive NM : MO -> List (Int × V) -> Prop
 | nil : NM (.sd []) []
 | nd (l : List (Int × V)) : NM (.nd l) l
theorem NM.at {S : St} {d : Addr} {m : MO} {l : List (Int × V)} (h : NM m l) (hS : S d = some m) (hn : (l.map (·.1)).Nodup) : ND S d l := by
 induction h with
 | nil => exact ⟨.inr ⟨rfl, hS⟩, hn⟩
 | nd l => exact ⟨.inl hS, hn⟩
structure Sto where
 (so ds vl mm : Addr)
noncomputable def Sto.v (B : Sto) : V := .obj B.so 210 B.ds
noncomputable def stF (ls : Addr) (B : Sto) : List (Str × V) := [("signals", .ptr ls), ("values", .ptr B.vl), ("memories", .ptr B.mm), ("random_seed", .int 1)]
def Told (l : List (Int × V)) (j : Nat) (bs : List Int) : Prop := yfa (j : Int) l = some (yag bs) \/ (yfa (j : Int) l = none /\ yag bs = yag (List.replicate bs.length 3))
section
variable {o : Wo} [WO : WoOk o] [W : W3 o] {k : Kx} {st : St} {Q : V -> St -> Prop} {X : Exc -> St -> Prop} {B : Sto}
theorem is_net_ {s d : Addr} {l : List (Str × V)} (hd : st d = some (.sd l)) (hf : ygl "kind" l = some (.str "reg")) (hn : 2 <= k.n) (h : Q (.bool false) st) : yak o k st (.ref 1123) [.obj s 1154 d] Q X := by
 refine cf_ ygq fun L => ?_
 refine' yoi hd hf (by rfl) (by rw [W.k]; rfl) ?_
 refine' yil ylz (by show 1 <= k.n - 1; right) (by rfl) fun L2 => ?_
 refine' ⟨_, St.le_refl _, ?_⟩
 refine' Jc.qj (by rfl) ?_
 left
 exact ⟨_, St.le_refl _, h⟩
theorem get_ {ls s d : Addr} {i : Nat} {p : Str} {sg : Bool} {w : Nat} {bs : List Int} {xs : List V} {l : List (Int × V)} (hxs : st ls = some (.lst xs)) (hxi : xs[i]? = some (.obj s 1154 d)) (hg : st d = some (.sd (sgF i p w sg))) (hs : st B.ds = some (.sd (stF ls B))) (hi2 : i < 4) (hw : w <= 64) (hnd : ND st B.vl l) (hb : bs.length = w) (ht : Told l i bs) (hn : 4 <= k.n) (h : Q (yag bs) st) : yak o k st (.ref 193) [B.v, .int i] Q X := by
 have : SmOk o := yli W
 refine cf_ yl6 fun L => ?_
 unfold Sto.v
 refine' ⟨_, yn3 hnd, by rfl, ?_⟩
 refine' yog hnd ?_
 rcases ht with ht | ⟨ht, hb'⟩
 . rw [ht]
   unfold yag at h ⊢
   left
   exact ⟨_, St.le_refl _, h⟩
 . rw [ht]
   rw [hb', hb] at h
   refine' ya6 hxs (by right) (by right) (by rw [Int.toNat_natCast]; exact hxi) ?_
   refine' ⟨.ref 1123, yfd hg (by rfl) (fun O O => rfl), yh6 (fun O O => rfl), ?_⟩
   refine' is_net_ hg (by rfl) (by right) ?_
   refine' ymt (by right) (l20 hw) ?_
   rw [<- yrk]
   left
   exact ⟨_, St.le_refl _, h⟩
theorem ev_sig_ {ls s d cx cxd : Addr} {i : Nat} {p : Str} {sg : Bool} {w : Nat} {bs : List Int} {xs : List V} {l : List (Int × V)} {fr : V} (hxs : st ls = some (.lst xs)) (hxi : xs[i]? = some (.obj s 1154 d)) (hg : st d = some (.sd (sgF i p w sg))) (hs : st B.ds = some (.sd (stF ls B))) (hi2 : i < 4) (hw : w <= 64) (hnd : ND st B.vl l) (hb : bs.length = w) (ht : Told l i bs)
 (hc : st cxd = some (.sd [("store", B.v), ("frame", fr), ("now", .int 0)])) : yc7 o st 5 (.obj cx 253 cxd) (.tup [.str "sig", .int w, .int i]) (yag bs) := fun k Q X hn h => by
 refine cf_ ya1 fun L => ?_
 have eB : B.v = .obj B.so 210 B.ds := rfl
 rw [eB] at hc
 refine' ⟨.ref 193, yfd hs (by rfl) (fun O O => rfl), yh6 (fun O O => rfl), ?_⟩
 refine' get_ (B := B) hxs hxi hg hs hi2 hw hnd hb ht (by right) ?_
 left
 exact ⟨_, St.le_refl _, h⟩
theorem old_eq {us bs : List Int} {w : Nat} (hu : us.length = w) (hb : bs.length = w) : yag us = .tup [.int bs.length, .int (yaf us), .int (yad us)] := by
 unfold yag; rw [hu, hb]
theorem yry {ls s d : Addr} {i : Nat} {p : Str} {sg : Bool} {bs : List Int} {xs : List V} {l0 : List (Int × V)} {mv : MO} {L : List (Addr × MO)} (jl jd js jv : Nat) (hl : Lay st L) (hxs : L[jl]? = some (ls, .lst xs)) (hxi : xs[i]? = some (.obj s 1154 d)) (hg : L[jd]? = some (d, .sd (sgF i p bs.length sg))) (hs : L[js]? = some (B.ds, .sd (stF ls B))) (hv : L[jv]? = some (B.vl, mv))
 (hm : NM mv l0) (hnd : (l0.map (·.1)).Nodup) (hp : yfa (i : Int) l0 = none) (hz : l0.length <= 50) (hi2 : i < 4) (hw : 1 <= bs.length /\ bs.length <= 64) (hc : yac bs) (hn : 5 <= k.n)
 (h : ∀ S' l' mv' b, Lay S' (L.set jv (B.vl, mv')) -> NM mv' l' -> (l'.map (·.1)).Nodup -> l'.length <= l0.length + 1 -> (∀ j : Int, j ≠ i -> yfa j l' = yfa j l0) -> Told l' i bs -> Q (.bool b) S') :
 yak o k st (.ref 207) [B.v, .int i, .none, .int 0, yag bs] Q X := by
 have : SmOk o := yli W
 refine cf_ yfz fun L' => ?_
 have hnd' := hm.at (hl.get jv hv) hnd
 have eo := old_eq (us := List.replicate bs.length 3) (bs := bs) List.length_replicate rfl
 have hS := hl.get js hs
 have eB : B.v = .obj B.so 210 B.ds := rfl
 rw [eB]
 have hS' : st B.ds = some (.sd [("signals", .ptr ls), ("values", .ptr B.vl), ("memories", .ptr B.mm), ("random_seed", .int 1)]) := hS
 refine' ⟨.ref 193, yfd hS (by rfl) (fun O O => rfl), yh6 (fun O O => rfl), ?_⟩
 refine' get_ (B := B) (bs := List.replicate bs.length 3) (hl.get jl hxs) hxi (hl.get jd hg) hS hi2 hw.2 hnd' List.length_replicate (.inr ⟨hp, by rw [List.length_replicate]⟩) (by right) ?_
 rw [eo]
 refine' put_full hc (List.ne_nil_of_length_pos hw.1) (l64' hw.2) (by right) ?_
 have ev : yag bs = .tup [.int bs.length, .int (yaf bs), .int (yad bs)] := rfl
 rw [ev]
 refine' yoe ?_
 refine' yd0 (fun hb => ?_) fun hb => ?_
 . left
   refine ⟨_, St.le_refl _, h _ l0 mv _ (by rw [set_same hv]; exact hl) hm hnd (by right) (fun O O => rfl) (.inr ⟨hp, ?_⟩)⟩
   simp only [Bool.and_true, Bool.and_eq_true, beq_iff_eq] at hb
   rw [eo, ev, hb.2.1, hb.2.2]
 . left
   refine seti_nd hnd' (by right) ?_
   left
   exact ⟨_, St.le_refl _, h _ (ygm i _ l0) (.nd _) _ (hl.upd jv hv _) (.nd _) (yhn _ _ _ hnd).1 (yo1 _ _ _) (fun j hj => yr2 hj _ _) (.inl (by rw [yo4, ev]))⟩
theorem Signal_ {key : Int} {pt : Str} {w : Nat} {sg : Bool} {L : List (Addr × MO)} (hl : Lay st L) (hn : 2 <= k.n)
 (h : ∀ S x dx, Lay S ((dx, .sd (sgF key pt w sg)) :: L) -> Q (.obj x 1154 dx) S) : yak o k st (.ref 1154) [.int key, .str pt, .str "reg", .int w, .bool sg, .int (w - 1), .int 0] Q X := by
 refine (yei (fI := 1116) (by rw [W.k]; rfl) (by rw [W.k]; rfl) (by rw [W.k]; rfl) (by right) fun A' x dx hA hdx => ?_).call
 have hl := hl.new hdx (.sd [])
 generalize st.set dx (.sd []) = S0 at *
 refine ygb yi3 (by show 1 <= k.n - 1; right) (by rfl) fun L' => ?_
 refine' yai hl 0 rfl (by rw [W.k]; rfl) (by rfl) fun S1 hl => ?_
 refine' yai hl 0 rfl (by rw [W.k]; rfl) (by rfl) fun S2 hl => ?_
 refine' yai hl 0 rfl (by rw [W.k]; rfl) (by rfl) fun S3 hl => ?_
 refine' yai hl 0 rfl (by rw [W.k]; rfl) (by rfl) fun S4 hl => ?_
 refine' yai hl 0 rfl (by rw [W.k]; rfl) (by rfl) fun S5 hl => ?_
 refine' yai hl 0 rfl (by rw [W.k]; rfl) (by rfl) fun S6 hl => ?_
 refine' yai hl 0 rfl (by rw [W.k]; rfl) (by rfl) fun S7 hl => ?_
 refine' yai hl 0 rfl (by rw [W.k]; rfl) (by rfl) fun S8 hl => ?_
 refine' yai hl 0 rfl (by rw [W.k]; rfl) (by rfl) fun S9 hl => ?_
 refine' yai hl 0 rfl (by rw [W.k]; rfl) (by rfl) fun S10 hl => ?_
 refine' yai hl 0 rfl (by rw [W.k]; rfl) (by rfl) fun S11 hl => ?_
 refine' yai hl 0 rfl (by rw [W.k]; rfl) (by rfl) fun S12 hl => ?_
 left
 exact ⟨_, St.le_refl _, rfl, h _ _ _ hl⟩
theorem yoj {D dD ls lr bp : Addr} {x1 x2 x3 x4 x5 x6 x7 : V} {xs : List V} {l : List (Str × V)} {pt : Str} {w : Nat} {sg : Bool} {L : List (Addr × MO)} (i j m : Nat) (hl : Lay st L) (hi : L[i]? = some (dD, .sd (dsF ls lr x1 x2 x3 x4 x5 x6 x7 (.ptr bp)))) (hj : L[j]? = some (ls, .lst xs)) (hm : L[m]? = some (bp, .sd l)) (jm : j ≠ m) (ji : j ≠ i) (hz : xs.length <= 50) (hnd : (l.map (·.1)).Nodup) (hz2 : l.length <= 50) (hn : 3 <= k.n)
 (h : ∀ S x d, Lay S ((d, .sd (sgF xs.length pt w sg)) :: (L.set j (ls, .lst (xs ++ [.obj x 1154 d]))).set m (bp, .sd (yip pt (.int xs.length) l))) -> Q (.obj x 1154 d) S) : yak o k st (.ref 1179) [.obj D 1217 dD, .str pt, .str "reg", .int w, .bool sg, .int (w - 1), .int 0, .int (-1)] Q X := by
 have : SmOk o := yli W
 have hsz : sizeLine >= 10000 := by decide
 refine cf_ yek fun L' => ?_
 have hD := hl.get i hi
 refine' yan (hl.get j hj) (by right) ?_
 refine' Signal_ hl (by right) fun S x d hl => ?_
 refine' yai hl 0 rfl (by rw [W.k]; rfl) (by rfl) fun S1 hl => ?_
 have hl : Lay S1 ((d, .sd (sgF xs.length pt w sg)) :: L) := hl
 have hD := hl.get (i + 1) hi
 refine' ⟨_, yaw (hl.get (j + 1) hj), yh6 (fun O O => rfl), ?_⟩
 refine' yaq (hl.get (j + 1) hj) (by right) ?_
 have hl := hl.upd (j + 1) hj (.lst (xs ++ [.obj x 1154 d]))
 generalize S1.set ls (.lst (xs ++ [.obj x 1154 d])) = S2 at *
 rw [List.set_cons_succ] at hl
 have hne : ∀ {L : List (Addr × MO)} {i j : Nat} {p q : Addr × MO}, L[i]? = some p -> j ≠ i -> (L.set j q)[i]? = some p := fun h n => by rw [List.getElem?_set_ne n]; exact h
 have hD := hl.get (i + 1) (hne hi ji)
 have hd := hl.get 0 rfl
 refine' ynb ⟨hl.get (m + 1) (hne hm jm), hnd⟩ (by right) ?_
 have hl := hl.upd (m + 1) (hne hm jm) (.sd (yip pt (.int xs.length) l))
 generalize S2.set bp (.sd (yip pt (.int xs.length) l)) = S3 at *
 left
 exact ⟨_, St.le_refl _, h _ _ _ hl⟩
end
theorem Lay.perm {S : St} {L L2 : List (Addr × MO)} (h : Lay S L) (p : L.Perm L2) : Lay S L2 := ⟨(p.map _).nodup_iff.mp h.1, fun q hq => h.2 q (p.symm.subset hq)⟩
theorem Lay.updNew {S : St} {L : List (Addr × MO)} {r a : Addr} {m : MO} (h : Lay S L) (i : Nat) (hi : L[i]? = some (r, m)) (m' : MO) (ha : S a = none) (ma : MO) : Lay ((S.set r m').set a ma) ((a, ma) :: L.set i (r, m')) :=
 (h.upd i hi m').new (by
  have : a ≠ r := by rintro rfl; rw [h.get i hi] at ha; cases ha
  rw [St.set_ne _ _ this]; exact ha) ma
structure Rc where
 (s d l : Addr)
 p : Str
 bs : List Int
 sg : Bool
noncomputable def vE : List Rc -> List (Addr × MO)
 | [] => []
 | g :: r => (g.l, .lst (g.bs.map V.int)) :: (g.d, .sd (sgF r.length g.p g.bs.length g.sg)) :: vE r
noncomputable def sO : List Rc -> List V
 | [] => []
 | g :: r => sO r ++ [.obj g.s 1154 g.d]
noncomputable def eO : List Rc -> List (Str × V)
 | [] => []
 | _ :: r => eO r ++ [(nm r.length, yqe r.length)]
noncomputable def vO : List Rc -> List (Str × V)
 | [] => []
 | g :: r => vO r ++ [(nm r.length, .tup [.ptr g.l, .bool g.sg])]
noncomputable def yok (l : List (Int × V)) : List Rc -> Prop
 | [] => True
 | g :: r => Told l r.length g.bs /\ yok l r
theorem yok.up {l l' : List (Int × V)} : ∀ {rs : List Rc} {n : Nat}, rs.length <= n -> (∀ j : Int, j ≠ n -> yfa j l' = yfa j l) -> yok l rs -> yok l' rs
 | [], _, _, _, _ => trivial
 | g :: r, n, hn, h, t => by
  rw [List.length_cons] at hn
  refine ⟨?_, yok.up (by right) h t.2⟩
  have e := h r.length (by right)
  unfold Told
  rw [e]; exact t.1
theorem ygw {k : Str} {v : V} : ∀ {l : List (Str × V)}, ygl k l = none -> yip k v l = l ++ [(k, v)]
 | [], _ => rfl
 | (x, y) :: r, h => by
  unfold ygl at h
  unfold yip
  induction c : x == k with
  | true => rw [c, if_pos rfl] at h; cases h
  | false =>
   rw [c, if_neg (by decide)] at h
   rw [if_neg (by decide), ygw h]; rfl
theorem ylm : ∀ rs : List Rc, (sO rs).length = rs.length
 | [] => rfl
 | g :: r => by rw [sO, List.length_append, ylm r]; rfl
theorem eO_len : ∀ rs : List Rc, (eO rs).length = rs.length
 | [] => rfl
 | g :: r => by rw [eO, List.length_append, eO_len r]; rfl
theorem vO_len : ∀ rs : List Rc, (vO rs).length = rs.length
 | [] => rfl
 | g :: r => by rw [vO, List.length_append, vO_len r]; rfl
theorem yob : ∀ rs : List Rc, (eO rs).map (·.1) = (List.range rs.length).map nm
 | [] => rfl
 | g :: r => by rw [eO, List.map_append, yob r, List.length_cons, List.range_succ, List.map_append]; rfl
theorem ym3 : ∀ rs : List Rc, (vO rs).map (·.1) = (List.range rs.length).map nm
 | [] => rfl
 | g :: r => by rw [vO, List.map_append, ym3 r, List.length_cons, List.range_succ, List.map_append]; rfl
theorem nm_inj {i j : Nat} (h : nm i = nm j) : i = j := by
 unfold nm at h
 injection h with h
 injection h with h
 injection h with h
 right
theorem yn7 (n : Nat) : ((List.range n).map nm).Nodup := List.pairwise_map.mpr (List.nodup_range.imp fun h e => h (nm_inj e))
theorem yhi {k : Str} : ∀ {l : List (Str × V)}, k ∉ l.map (·.1) -> ygl k l = none
 | [], _ => rfl
 | (x, y) :: r, h => by
  rw [List.map_cons, List.mem_cons, not_or] at h
  unfold ygl
  rw [if_neg fun e => h.1 (eq_of_beq e).symm]
  exact yhi h.2
theorem ypd (n : Nat) : nm n ∉ (List.range n).map nm := fun h => by
 obtain ⟨j, hj, e⟩ := List.mem_map.mp h
 have := List.mem_range.mp hj
 have := nm_inj e
 right
theorem yrr {k : Str} {v : V} {l : List (Str × V)} (h : (l.map (·.1)).Nodup) : ((yip k v l).map (·.1)).Nodup := by rw [yhd]; exact (yhn k v l h).1
structure WA where
 (r dE bp : Addr)
 A : Ad
 B : Sto
noncomputable def wL (a : WA) (ys : List Int) (rs : List Rc) (mv : MO) (bl : List (Str × V)) (x1 x2 x3 x4 x5 x6 x7 : V) (F : List (Addr × MO)) : List (Addr × MO) :=
 (a.r, .lst (ys.map V.int)) :: (a.dE, .sd (vO rs)) :: (a.B.ds, .sd (stF a.A.ls a.B)) :: (a.B.vl, mv) :: (a.A.eT, .sd (eO rs)) :: (a.A.dT, .sd (scF a.A.D a.A.dD "top" .none "module" "top" a.A.eT 0)) :: (a.A.ls, .lst (sO rs)) :: (a.A.dD, .sd (dsF a.A.ls a.A.lr x1 x2 x3 x4 x5 x6 x7 (.ptr a.bp))) :: (a.bp, .sd bl) :: (vE rs ++ F)
def RcOk (g : Rc) : Prop := yac g.bs /\ 1 <= g.bs.length /\ g.bs.length <= 8
inductive WJ (a : WA) (i : Nat) (S : St) : Prop
 | mk (ys : List Int) (rs : List Rc) (mv : MO) (l : List (Int × V)) (bl : List (Str × V)) (x1 x2 x3 x4 x5 x6 x7 : V) (F : List (Addr × MO)) (hi : rs.length = i) (hy : yjd ys) (hr : ∀ g ∈ rs, RcOk g) (hm : NM mv l) (nd : (l.map (·.1)).Nodup) (zl : l.length <= i) (td : yok l rs) (nw : ∀ j : Nat, i <= j -> yfa (j : Int) l = none) (bn : (bl.map (·.1)).Nodup) (bz : bl.length <= i) (hl : Lay S (wL a ys rs mv bl x1 x2 x3 x4 x5 x6 x7 F))
section
variable {o : Wo} [WO : WoOk o] [W : W3 o] {k : Kx} {st : St} {Q : V -> St -> Prop} {X : Exc -> St -> Prop}
noncomputable def forB : Stmt -> List Stmt
 | .For _ _ b _ _ => b
 | _ => []
noncomputable def turnB : List Stmt := forB (yej.getD 5 default)
theorem ylf {a : WA} {L ba : Addr} {loc : yae} {S : St} {i : Nat} {QF : Fl -> yae -> St -> Prop} {bs ys : List Int} {rs : List Rc} {mv : MO} {l : List (Int × V)} {bl : List (Str × V)} {x1 x2 x3 x4 x5 x6 x7 : V} {F : List (Addr × MO)} (hn : 20 <= k.n) (hi4 : i < 4)
 (l0 : loc "name" = some (.str (nm i))) (l1 : loc "row" = some (.ptr a.r)) (l2 : loc "design" = some (.obj a.A.D 1217 a.A.dD)) (l3 : loc "scope" = some a.A.top) (l4 : loc "env" = some (.ptr a.dE)) (l5 : loc "store" = some a.B.v) (l6 : loc "bits" = some (.ptr ba))
 (hi : rs.length = i) (hy : yjd ys) (hr : ∀ g ∈ rs, RcOk g) (hm : NM mv l) (nd : (l.map (·.1)).Nodup) (zl : l.length <= i) (td : yok l rs) (nw : ∀ j : Nat, i <= j -> yfa (j : Int) l = none) (bn : (bl.map (·.1)).Nodup) (bz : bl.length <= i) (hc : yac bs) (hb : 1 <= bs.length /\ bs.length <= 8)
 (hl : Lay S ((ba, .lst (bs.map V.int)) :: wL a ys rs mv bl x1 x2 x3 x4 x5 x6 x7 F))
 (h : ∀ loc' S', loc' "row" = some (.ptr a.r) -> loc' "design" = some (.obj a.A.D 1217 a.A.dD) -> loc' "scope" = some a.A.top -> loc' "env" = some (.ptr a.dE) -> loc' "store" = some a.B.v -> WJ a (i + 1) S' -> QF .next loc' S') :
 EXS o (cxF k yh9 L 1471) loc S (turnB.drop 2) QF X := by
 have : SmOk o := yli W
 refine yat _ (yaa l0 (yaa l1 (yaa l2 (yaa l3 (yaa l4 (yaa l5 (yaa l6 yaj))))))) ?_
 show EXS o _ _ S [_, _, _, _, _] _ _
 refine' yfg (by right) (hl.get 1 rfl) hy fun n1 ys1 n10 n11 hy1 => ?_
 have hl := hl.upd 1 rfl (.lst (ys1.map V.int))
 simp only [List.set_cons_zero, List.set_cons_succ] at hl
 generalize S.set a.r (.lst (ys1.map V.int)) = S1 at *
 refine' yah (by decide) ?_
 refine' ⟨.ref 1179, yfd (hl.get 8 rfl) (by rfl) (fun O O => rfl), yh6 (fun O O => rfl), ?_⟩
 refine' ynj (Nat.le_trans (m := 5) (Nat.le_refl 5) (by decide)) ?_
 refine' yan (hl.get 0 rfl) (by rw [List.length_map]; right) ?_
 rw [List.length_map]
 refine' yan (hl.get 0 rfl) (by rw [List.length_map]; right) ?_
 rw [List.length_map]
 refine' yoj 8 7 9 hl rfl rfl rfl (by decide) (by decide) (by rw [ylm]; right) bn (by right) (by right) fun S2 sx d hl => ?_
 rw [ylm, hi] at hl
 simp only [List.set_cons_zero, List.set_cons_succ] at hl
 generalize Str.ofString "top." ++ nm i = p at *
 have hd := hl.get 0 rfl
 have ef : ygl (nm i) (eO rs) = none := yhi (by rw [yob, hi]; exact ypd i)
 have vf : ygl (nm i) (vO rs) = none := yhi (by rw [ym3, hi]; exact ypd i)
 have e9 : a.A.top = .obj a.A.T 1294 a.A.dT := rfl
 have b9 : a.B.v = .obj a.B.so 210 a.B.ds := rfl
 rw [e9, b9]
 refine' ⟨.ref 1249, yfd (hl.get 7 rfl) (by rfl) (fun O O => rfl), yh6 (fun O O => rfl), ?_⟩
 refine' declare_ hl (i := 7) (j := 6) rfl rfl ef (by rw [yob]; exact yn7 _) (by rw [eO_len]; right) (by right) fun S3 hl => ?_
 simp only [List.set_cons_zero, List.set_cons_succ] at hl
 rw [ygw ef] at hl
 have hd := hl.get 0 rfl
 refine' ⟨.ref 207, yfd (hl.get 4 rfl) (by rfl) (fun O O => rfl), yh6 (fun O O => rfl), ?_⟩
 refine' ypn (by right) (hl.get 1 rfl) (by right) hc ?_
 left
 rw [<- b9]
 refine yry (B := a.B) (ls := a.A.ls) (s := sx) (d := d) (xs := sO rs ++ [.obj sx 1154 d]) 8 0 4 5 hl rfl (by rw [List.getElem?_append_right (by rw [ylm, hi]; exact Nat.le_refl _), ylm, hi, Nat.sub_self]; rfl) rfl rfl rfl hm nd (nw i (Nat.le_refl _)) (by right) hi4 ⟨hb.1, Nat.le_trans hb.2 (by decide)⟩ hc (by right) fun S4 l' mv' b hl hm' nd' zl' nw' td' => ?_
 simp only [List.set_cons_zero, List.set_cons_succ] at hl
 rw [b9]
 refine' ynb ⟨hl.get 3 rfl, by rw [ym3]; exact yn7 _⟩ (by rw [vO_len]; right) ?_
 have hl := hl.upd 3 rfl (.sd (yip (nm i) (.tup [.ptr ba, .bool (n1 % 2 == 1)]) (vO rs)))
 simp only [List.set_cons_zero, List.set_cons_succ] at hl
 rw [ygw vf] at hl
 rw [ygw vf]
 generalize S4.set a.dE (.sd (vO rs ++ [(nm i, .tup [.ptr ba, .bool (n1 % 2 == 1)])])) = S5 at *
 refine h _ _ (by rfl) (by rfl) (by rfl) (by rfl) (by rfl) ?_
 refine ⟨ys1, ⟨sx, d, ba, p, bs, n1 % 2 == 1⟩ :: rs, mv', l', yip p (.int (i : Nat)) bl, x1, x2, x3, x4, x5, x6, x7, F, by rw [List.length_cons, hi], hy1, fun g hg => ?_, hm', nd', by right, ⟨by rw [hi]; exact td', td.up (by right) nw'⟩, fun j hj => (nw' j (by right)).trans (nw j (by right)), yrr bn, Nat.le_trans yov (by right), ?_⟩
 . cases hg with
   | head => exact ⟨hc, hb⟩
   | tail _ hg => exact hr g hg
 . unfold wL
   rw [vO, eO, sO, vE, hi]
   have hp := hl.perm (List.Perm.swap _ _ _)
   exact hp.perm (List.perm_append_comm_assoc [_, _] [_, _, _, _, _, _, _, _, _] _)
end
noncomputable def pickL {α : Type} : List Nat -> List α -> List α
 | [], L => L
 | i :: is, L => match L[i]? with
  | some x => x :: pickL is (L.eraseIdx i)
  | none => L
theorem yo3 {α : Type} : ∀ {L : List α} {i : Nat} {x : α}, L[i]? = some x -> L.Perm (x :: L.eraseIdx i)
 | [], _, _, h => by cases h
 | _ :: _, 0, _, h => by cases h; exact List.Perm.refl _
 | y :: L, i + 1, x, h => ((yo3 (L := L) (i := i) h).cons y).trans (List.Perm.swap x y _)
theorem yjl {α : Type} : ∀ (is : List Nat) (L : List α), L.Perm (pickL is L)
 | [], L => List.Perm.refl L
 | i :: is, L => by
  unfold pickL
  induction h : L[i]? with
  | none => exact List.Perm.refl L
  | some x => exact (yo3 h).trans ((yjl is _).cons x)
section
variable {o : Wo} [WO : WoOk o] [W : W3 o] {k : Kx} {st : St} {Q : V -> St -> Prop} {X : Exc -> St -> Prop}
theorem turn_ {a : WA} {L : Addr} {loc : yae} {S : St} {i : Nat} {QF : Fl -> yae -> St -> Prop} (hn : 20 <= k.n) (hi4 : i < 4)
 (l0 : loc "name" = some (.str (nm i))) (l1 : loc "row" = some (.ptr a.r)) (l2 : loc "design" = some (.obj a.A.D 1217 a.A.dD)) (l3 : loc "scope" = some a.A.top) (l4 : loc "env" = some (.ptr a.dE)) (l5 : loc "store" = some a.B.v)
 (hw : WJ a i S)
 (h : ∀ loc' S', loc' "row" = some (.ptr a.r) -> loc' "design" = some (.obj a.A.D 1217 a.A.dD) -> loc' "scope" = some a.A.top -> loc' "env" = some (.ptr a.dE) -> loc' "store" = some a.B.v -> WJ a (i + 1) S' -> QF .next loc' S') :
 EXS o (cxF k yh9 L 1471) loc S turnB QF X := by
 obtain ⟨ys, rs, mv, l, bl, x1, x2, x3, x4, x5, x6, x7, F, hi, hy, hr, hm, nd, zl, td, nw, bn, bz, hl⟩ := hw
 refine yat _ (yaa l0 (yaa l1 (yaa l2 (yaa l3 (yaa l4 (yaa l5 yaj)))))) ?_
 show EXS o _ _ S [_, _, _, _, _, _, _] _ _
 refine yia 2 ?_
 refine' yfg (by right) (hl.get 0 rfl) hy fun n1 ys1 n10 n11 hy1 => ?_
 have hl := hl.upd 0 rfl (.lst (ys1.map V.int))
 have hl : Lay _ (wL a ys1 rs mv bl x1 x2 x3 x4 x5 x6 x7 F) := hl
 generalize S.set a.r (.lst (ys1.map V.int)) = S1 at *
 refine' yah (by decide) ?_
 left
 obtain ⟨w, ew, h8⟩ : ∃ w : Nat, 1 + n1 % 8 = (w : Int) /\ 1 <= w /\ w <= 8 := yfx n1 8 (by decide)
 rw [ew]
 refine ypo (by right) (hl.get 0 rfl) hy1 (leA h8 rfl) fun ba bs ys2 hb hy2 hbl hc => ?_
 have hl := hl.updNew 0 rfl (.lst (ys2.map V.int)) hb (.lst (bs.map V.int))
 have hl : Lay _ ((ba, .lst (bs.map V.int)) :: wL a ys2 rs mv bl x1 x2 x3 x4 x5 x6 x7 F) := hl
 generalize (S1.set a.r (.lst (ys2.map V.int))).set ba (.lst (bs.map V.int)) = S2 at *
 refine' yfg (by right) (hl.get 1 rfl) hy2 fun n3 ys3 n30 n31 hy3 => ?_
 have hl := hl.upd 1 rfl (.lst (ys3.map V.int))
 have hl : Lay _ ((ba, .lst (bs.map V.int)) :: wL a ys3 rs mv bl x1 x2 x3 x4 x5 x6 x7 F) := hl
 generalize S2.set a.r (.lst (ys3.map V.int)) = S3 at *
 refine' yah (by decide) ?_
 refine' yd0 (fun c => ?_) fun c => ?_
 . left
   refine yev _ (fun O O => rfl) (by rfl) (by rfl) (by rfl) (by rfl) ?_
   refine yib (by rfl) (by rfl) ?_
   refine yie V.int (fun b => .int (b % 2)) (L := (bs.map fun b => b % 2).map V.int) (by rw [List.map_map]; rfl) (by rfl) (by rfl) (by rw [hbl]; exact szA h8 rfl) (hl.get 0 rfl) (fun z ys D C hz hD => ?_) (fun D hD => ?_)
   . refine Ja.qr ?_
     refine' yah (by decide) ?_
     exact ⟨rfl, rfl⟩
   . have hl := hl.new hD (.lst ((bs.map fun b => b % 2).map V.int))
     have hl : Lay _ ((D, .lst ((bs.map fun b => b % 2).map V.int)) :: wL a ys3 rs mv bl x1 x2 x3 x4 x5 x6 x7 ((ba, .lst (bs.map V.int)) :: F)) := hl.perm (by
      refine List.Perm.cons _ ?_
      refine (List.perm_middle (l₁ := [_, _, _, _, _, _, _, _, _] ++ vE rs)).symm.trans ?_
      simp only [List.cons_append, List.nil_append, List.append_assoc]
      exact List.Perm.refl _)
     exact ylf hn hi4 (by rfl) (by rfl) (by rfl) (by rfl) (by rfl) (by rfl) (by rfl) hi hy3 hr hm nd zl td nw bn bz yjq (by rw [List.length_map, hbl]; exact h8) hl h
 . exact ylf hn hi4 (by rfl) (by rfl) (by rfl) (by rfl) (by rfl) (by rfl) (by rfl) hi hy3 hr hm nd zl td nw bn bz hc (by rw [hbl]; exact h8) hl h
end
noncomputable def hole (r : Addr) (S : St) : St := fun x => if x = r then none else S x
theorem yh7 {r x : Addr} {S : St} (n : x ≠ r) : hole r S x = S x := if_neg n
theorem RG.hole {r : Addr} {S S' : St} (g : RG r S S') : St.le (hole r S) S' := fun x => by
 by_cases q : x = r
 . subst q; exact .inl (if_pos rfl)
 . rw [yh7 q]; exact g x q
structure LawW (o : Wo) (a : WA) (A : Ad) (l : Nat -> Addr) (G : Gm) (S : St) : Prop where
 top : A.top = a.A.top
 hG : GOk G
 w : Wld A G S
 ev : EnvAt a.dE l G S
 sg : ∀ S' cx cxd fr, St.le S S' -> S' cxd = some (.sd [("store", a.B.v), ("frame", fr), ("now", .int 0)]) -> ygd o S' (.obj cx 253 cxd) G
theorem LawW.up {o : Wo} {a : WA} {A : Ad} {l : Nat -> Addr} {G : Gm} {S S' : St} (w : LawW o a A l G S) (h : St.le S S') : LawW o a A l G S' :=
 ⟨w.top, w.hG, w.w.up h, w.ev.up h, fun S2 cx cxd fr h2 => w.sg S2 cx cxd fr (St.le_trans h h2)⟩
theorem len4 {α : Type} {l : List α} (h : l.length = 4) : ∃ a b c d, l = [a, b, c, d] := by
 obtain _ | ⟨a, _ | ⟨b, _ | ⟨c, _ | ⟨d, _ | ⟨e, l⟩⟩⟩⟩⟩ := l <;> first | exact ⟨a, b, c, d, rfl⟩ | (exfalso; simp at h)
noncomputable def pk4 {α : Type} (a b c d : α) : Nat -> α
 | 0 => a
 | 1 => b
 | 2 => c
 | _ => d
section
variable {o : Wo} [WO : WoOk o] [W : W3 o] {k : Kx} {st : St} {Q : V -> St -> Prop} {X : Exc -> St -> Prop}
theorem world_ {a : WA} {S : St} (h : WJ a 4 S) : ∃ A l G ys, yjd ys /\ S a.r = some (.lst (ys.map V.int)) /\ LawW o a A l G (hole a.r S) := by
 obtain ⟨ys, rs, mv, l, bl, x1, x2, x3, x4, x5, x6, x7, F, hi, hy, hr, hm, nd, zl, td, nw, bn, bz, hl⟩ := h
 obtain ⟨g3, g2, g1, g0, rfl⟩ := len4 hi
 have hr0 : S a.r = some (.lst (ys.map V.int)) := hl.get 0 rfl
 have hh : ∀ {i : Nat} {p : Addr × MO}, (wL a ys [g3, g2, g1, g0] mv bl x1 x2 x3 x4 x5 x6 x7 F)[i + 1]? = some p -> hole a.r S p.1 = some p.2 := fun {i p} e => by
  have e1 := hl.2 p (List.mem_of_getElem? e)
  refine (yh7 ?_).trans e1
  have nd := hl.1
  unfold wL at nd e
  rw [List.map_cons, List.nodup_cons] at nd
  intro q
  rw [List.getElem?_cons_succ] at e
  refine nd.1 ?_
  have e2 : p.1 = a.r := q
  show a.r ∈ _
  rw [<- e2]
  exact List.mem_map_of_mem (f := (·.1)) (List.mem_of_getElem? e)
 refine ⟨⟨a.A.T, a.A.dT, a.A.eT, a.A.D, a.A.dD, a.A.ls, a.A.lr, pk4 g0.s g1.s g2.s g3.s, pk4 g0.d g1.d g2.d g3.d⟩, pk4 g0.l g1.l g2.l g3.l, ⟨pk4 g0.bs g1.bs g2.bs g3.bs, pk4 g0.sg g1.sg g2.sg g3.sg⟩, ys, hy, hr0, ?_⟩
 have o3 := hr g3 (.head _)
 have o2 := hr g2 (.tail _ (.head _))
 have o1 := hr g1 (.tail _ (.tail _ (.head _)))
 have o0 := hr g0 (.tail _ (.tail _ (.tail _ (.head _))))
 have hG : GOk ⟨pk4 g0.bs g1.bs g2.bs g3.bs, pk4 g0.sg g1.sg g2.sg g3.sg⟩ := fun j hj => match j, hj with
  | 0, _ => o0
  | 1, _ => o1
  | 2, _ => o2
  | 3, _ => o3
 have hs : ∀ j, j < 4 -> hole a.r S (pk4 g0.d g1.d g2.d g3.d j) = some (.sd (sgF j (pk4 g0.p g1.p g2.p g3.p j) (pk4 g0.bs g1.bs g2.bs g3.bs j).length (pk4 g0.sg g1.sg g2.sg g3.sg j))) := fun j hj => match j, hj with
  | 0, _ => hh (i := 15) rfl
  | 1, _ => hh (i := 13) rfl
  | 2, _ => hh (i := 11) rfl
  | 3, _ => hh (i := 9) rfl
 have hls : hole a.r S a.A.ls = some (.lst ((List.range 4).map fun j => V.obj (pk4 g0.s g1.s g2.s g3.s j) 1154 (pk4 g0.d g1.d g2.d g3.d j))) := hh (i := 5) rfl
 have ht : ∀ j, j < 4 -> Told l j (pk4 g0.bs g1.bs g2.bs g3.bs j) := fun j hj => match j, hj with
  | 0, _ => td.2.2.2.1
  | 1, _ => td.2.2.1
  | 2, _ => td.2.1
  | 3, _ => td.1
 have hv := hh (i := 2) (p := (a.B.vl, mv)) rfl
 have hds := hh (i := 1) (p := (a.B.ds, .sd (stF a.A.ls a.B))) rfl
 refine ⟨rfl, hG, ⟨hh (i := 4) rfl, ⟨hh (i := 3) rfl, by decide +kernel⟩, ⟨_, _, _, _, _, _, _, _, hh (i := 6) rfl⟩, hls, fun j hj => ⟨_, hs j hj⟩⟩,
  ⟨⟨hh (i := 0) rfl, by rw [envV, List.map_map]; exact yn7 4⟩, fun j hj => match j, hj with
   | 0, _ => hh (i := 14) rfl
   | 1, _ => hh (i := 12) rfl
   | 2, _ => hh (i := 10) rfl
   | 3, _ => hh (i := 8) rfl⟩,
  fun S' cx cxd fr h hc j hj st' hle => ?_⟩
 have h' := St.le_trans h hle
 refine ev_sig_ (B := a.B) (St.le_some h' hls) (by rw [List.getElem?_map, List.getElem?_range hj]; rfl) (St.le_some h' (hs j hj)) (St.le_some h' hds) hj (Nat.le_trans (hG j hj).2.2 (by decide)) (hm.at (St.le_some h' hv) nd) rfl (ht j hj) (St.le_some hle hc)
theorem yqv {bs : List Int} (h : Q (.bool false) st) : CMP o k st .NotEq (yag bs) (yag bs) Q X := by
 refine yp1 (da := .tuple [.int bs.length, .int (yaf bs), .int (yad bs)]) (db := .tuple [.int bs.length, .int (yaf bs), .int (yad bs)]) (by rfl) (by rfl) (by rfl) (by rfl) (Nat.le_trans (Nat.min_le_left _ _) (Nat.le_of_ble_eq_true (by rfl))) ?_
 rw [show PyData.eqv (.tuple [.int bs.length, .int (yaf bs), .int (yad bs)]) (.tuple [.int bs.length, .int (yaf bs), .int (yad bs)]) = true by simp [PyData.eqv, PyData.eqvAll]]
 exact h
theorem yqz {bs : List Int} (h : Q (.bool true) st) : CMP o k st .Eq (yag bs) (yag bs) Q X := by
 refine yoe ?_
 rw [beq_self_eq_true, beq_self_eq_true, beq_self_eq_true]; exact h
theorem ytk {t : Ty} (h : Q (.bool false) st) : CMP o k st .NotEq (tyV t) (tyV t) Q X := by
 refine yp1 (da := .tuple [.int t.1, .bool t.2]) (db := .tuple [.int t.1, .bool t.2]) (by rfl) (by rfl) (by rfl) (by rfl) (Nat.le_trans (Nat.min_le_left _ _) (Nat.le_of_ble_eq_true (by rfl))) ?_
 rw [show PyData.eqv (.tuple [.int t.1, .bool t.2]) (.tuple [.int t.1, .bool t.2]) = true by simp [PyData.eqv, PyData.eqvAll]]
 exact h
theorem cmp_ne_b {b : Bool} (h : Q (.bool false) st) : CMP o k st .NotEq (.bool b) (.bool b) Q X := by
 refine yp1 (da := .bool b) (db := .bool b) rfl rfl rfl rfl (by rw [show min (PyData.bool b).depth (PyData.bool b).depth = 0 by induction b <;> rfl]; decide) ?_
 rw [show PyData.eqv (.bool b) (.bool b) = true by induction b <;> rfl]
 exact h
theorem sized_ {A : Ad} {G : Gm} {st0 : St} {n m : Nat} {cx : V} {e : Src} {w : Nat} (hs : SrcOk o st0 n m A G cx e) (h1 : 1 <= m) (h3 : 13 <= n) (hle : St.le st0 st) (hw : 1 <= w /\ w <= 64) (hn : n + 1 <= k.n) (h : ∀ v, Md o st0 (m + 8) cx (ycu (e.val G (max w (e.typ G).1) (e.typ G).2) (e.typ G).2 w) v -> Q v st) : yak o k st (.ref 1074) [A.top, e.V, .int w] Q X := by
 refine cf_ ok_sized fun L => ?_
 have tl := hs.tl
 refine' hs.ty _ hle _ _ _ (by right) ?_
 refine' ycq ?_
 rw [yf1]
 refine' hs.bd _ _ (mx hw tl) _ hle _ _ _ (by right) fun v hv => ?_
 left
 have hb := hs.at (w := max w (e.typ G).1) (s := (e.typ G).2) (mx hw tl)
 refine ye7 hv h1 hb.1 hb.2 hw.2 (by right) fun v hv => ?_
 left
 symm
 exact h v hv
theorem law_end2 {a : WA} {A : Ad} {l : Nat -> Addr} {G : Gm} {L cx cxd : Addr} {loc : yae} {S0 S : St} {e : Src} {QF : Fl -> yae -> St -> Prop} (hn : 120 <= k.n) (w : LawW o a A l G (hole a.r S0)) (hw : Rw a.r S0 S) (hs : SrcOk o (hole a.r S0) 80 69 A G (.obj cx 253 cxd) e) (hl : LSrc o a.dE l G 30 e)
 (l1 : loc "row" = some (.ptr a.r)) (l3 : loc "scope" = some A.top) (l4 : loc "env" = some (.ptr a.dE)) (l5 : loc "e" = some e.V) (l6 : loc "wide" = some (.int (e.typ G).1)) (l7 : loc "signed" = some (.bool (e.typ G).2)) (l8 : loc "ctx" = some (.obj cx 253 cxd))
 (h : ∀ loc' st', QF (.ret (.bool true)) loc' st') : EXS o (cxF k yh9 L 1471) loc S (yej.drop 12) QF nX := by
 refine yat _ (yaa l1 (yaa l3 (yaa l4 (yaa l5 (yaa l6 (yaa l7 (yaa l8 yaj))))))) ?_
 have tl := hl.tl
 refine' ycm hw (by right) fun n1 S1 n10 n11 hw1 O => ?_
 have hle1 := hw1.g.hole
 refine' yah (by decide) ?_
 left
 obtain ⟨g, eg, hgl⟩ : ∃ w : Nat, 1 + n1 % 12 = (w : Int) /\ 1 <= w /\ w <= 12 := yfx n1 12 (by decide)
 rw [eg]
 refine sized_ (w := g) hs (by decide) (by decide) hle1 ⟨hgl.1, leA hgl rfl⟩ (by right) fun v hv => ?_
 have hmx : 1 <= max g (e.typ G).1 /\ max g (e.typ G).1 <= 64 := mx ⟨hgl.1, leA hgl rfl⟩ ⟨tl.1, leA tl rfl⟩
 have hb := hl.bt (max g (e.typ G).1) (e.typ G).2
 have hv2 := hl.vl (max g (e.typ G).1) (e.typ G).2 hmx
 generalize e.val G (max g (e.typ G).1) (e.typ G).2 = bs at hb hv2 hv ⊢
 have ho := hv.ev (by decide)
 obtain ⟨t, vs, rfl⟩ := hv.shp
 rw [yeg] at ho ⊢
 refine' ycq ?_
 rw [yf1]
 refine' hv2 _ (w.ev.up hle1) _ _ _ (by right) fun b hb1 => ?_
 refine' ybm (St.set_same ..) (by rw [hb.1]; exact hmx) (leA hgl rfl) (by right) fun c hc1 => ?_
 refine' ho _ (St.le_new (St.le_new hle1 hb1) hc1) _ _ _ (by right) ?_
 refine' made_ (St.set_same ..) (by rw [yeg]; exact leA hgl rfl) (yeh hb.2 _ _) (by right) ?_
 refine' yqz ?_
 exact h _ _
theorem law_end1 {a : WA} {L : Addr} {loc : yae} {S : St} {QF : Fl -> yae -> St -> Prop} (hn : 120 <= k.n) (hw : WJ a 4 S)
 (l1 : loc "row" = some (.ptr a.r)) (l3 : loc "scope" = some a.A.top) (l4 : loc "env" = some (.ptr a.dE)) (l5 : loc "store" = some a.B.v)
 (h : ∀ loc' st', QF (.ret (.bool true)) loc' st') : EXS o (cxF k yh9 L 1471) loc S (yej.drop 6) QF nX := by
 obtain ⟨A, l, G, ys, hy, hr, w⟩ := world_ (o := o) hw
 rw [<- w.top] at l3
 have hG := w.hG
 refine yat _ (yaa l1 (yaa l3 (yaa l4 (yaa l5 yaj)))) ?_
 show EXS o _ _ S [_, _, _, _, _, _, _, _, _, _] _ _
 refine yia 6 ?_
 refine' yrq 3 S ⟨ys, RG.refl _ _, hr, hy⟩ _ _ _ (by right) fun e S1 he hw1 => ?_
 have w1 := w.up hw1.g.hole
 have hl := lsrc_ok (o := o) (d := a.dE) (l := l) hG he
 refine' hl.ty _ w1.ev _ _ _ (by right) ?_
 refine' ty_ok w1.w hG he _ _ _ (by right) ?_
 left
 rw [show (V.tup [.int (e.typ G).1, .bool (e.typ G).2]) = tyV (e.typ G) from rfl]
 refine ytk ?_
 left
 intro q hq
 refine' ymw (by right) fun cx cxd hcx => ?_
 have hw2 := (hw1.self.new hq (m := .lst [])).new hcx (m := .sd [("store", a.B.v), ("frame", .ptr q), ("now", .int 0)])
 have hcn : cxd ≠ a.r := (hw1.self.new hq (m := .lst [])).ne hcx
 have hc9 : hole a.r (((S1.set q (.lst [])).set cxd (.sd [("store", a.B.v), ("frame", .ptr q), ("now", .int 0)]))) cxd = some (.sd [("store", a.B.v), ("frame", .ptr q), ("now", .int 0)]) := (yh7 hcn).trans (St.set_same ..)
 have hr1 : ∀ {S2 : St}, RG a.r S1 S2 -> LawW o a A l G (hole a.r S2) := fun {S2} g => w.up (fun x => by
  by_cases e : x = a.r
  . subst e; exact .inl (if_pos rfl)
  . rw [yh7 e, yh7 e]; exact (hw1.g.trans g) x e)
 have w2 := hr1 hw2.g
 generalize (S1.set q (.lst [])).set cxd (.sd [("store", a.B.v), ("frame", .ptr q), ("now", .int 0)]) = S2 at *
 have hs := src_ok w2.w hG (w2.sg _ cx cxd (.ptr q) (St.le_refl _) hc9) he
 have hw3 := hw2.self
 refine' hs.sd _ (hw3.g.hole) _ _ _ (by right) fun v hv => ?_
 have ha := hl.ab
 have hal := hl.al
 have eal : (e.alone G).length = (e.typ G).1 := (hl.bt _ _).1
 have ho := hv.ev (by decide)
 generalize e.alone G = bs at *
 obtain ⟨t, vs, rfl⟩ := hv.shp
 rw [eal] at ho ⊢
 refine' cmp_ne_b ?_
 refine' ya2 (bne_self_eq_false _) ?_
 refine' ho _ hw3.g.hole _ _ _ (by right) ?_
 refine' hal _ (w2.ev.up hw3.g.hole) _ _ _ (by right) fun b hb => ?_
 refine' made_ (St.set_same ..) (by right) ha.1 (by right) ?_
 refine' yqv ?_
 left
 exact law_end2 hn w2 (hw3.new hb) hs hl (by rfl) (by rfl) (by rfl) (by rfl) (by rfl) (by rfl) (by rfl) h
inductive LJ (a : WA) (i : Nat) (loc : yae) (S : St) : Prop
 | mk (l1 : loc "row" = some (.ptr a.r)) (l2 : loc "design" = some (.obj a.A.D 1217 a.A.dD)) (l3 : loc "scope" = some a.A.top) (l4 : loc "env" = some (.ptr a.dE)) (l5 : loc "store" = some a.B.v) (hw : WJ a i S)
theorem abcd_nm {i : Nat} {x : V} (hx : ((Str.ofString "abcd").cps.toList.map chV)[i]? = some x) : i < 4 /\ x = .str (nm i) := match i, hx with
 | 0, hx => ⟨by decide, by injection hx with e; exact e.symm⟩
 | 1, hx => ⟨by decide, by injection hx with e; exact e.symm⟩
 | 2, hx => ⟨by decide, by injection hx with e; exact e.symm⟩
 | 3, hx => ⟨by decide, by injection hx with e; exact e.symm⟩
theorem law_loop {a : WA} {L : Addr} {loc : yae} {S : St} {QF : Fl -> yae -> St -> Prop} (hn : 120 <= k.n) (hj : LJ a 0 loc S)
 (h : ∀ loc' st', QF (.ret (.bool true)) loc' st') : EXS o (cxF k yh9 L 1471) loc S (yej.drop 5) QF nX := by
 obtain ⟨l1, l2, l3, l4, l5, hw⟩ := hj
 refine yat _ (yaa l1 (yaa l2 (yaa l3 (yaa l4 (yaa l5 yaj))))) ?_
 refine yia 1 ?_
 refine' ybw (fun O O => rfl) ?_
 refine' ysz (LJ a) ⟨by rfl, by rfl, by rfl, by rfl, by rfl, hw⟩ (fun i x loc1 S1 hq hx hj hq2 => ?_) (fun loc1 S1 hj => ?_)
 . obtain ⟨hi, rfl⟩ := abcd_nm hx
   obtain ⟨l1, l2, l3, l4, l5, hw⟩ := hj
   refine ybf _ (yaa l1 (yaa l2 (yaa l3 (yaa l4 (yaa l5 yaj))))) ?_
   refine asg_4 ?_
   exact turn_ (Nat.le_trans (by decide) hn) hi (by rfl) (by rfl) (by rfl) (by rfl) (by rfl) (by rfl) hw fun loc' S' m1 m2 m3 m4 m5 hw' => hq2 _ _ _ ⟨m1, m2, m3, m4, m5, hw'⟩
 . obtain ⟨l1, l2, l3, l4, l5, hw⟩ := hj
   exact law_end1 hn hw l1 l3 l4 l5 h
theorem law_ {sp : Addr} {xs : List Int} (hn : 200 <= k.n) (hs : KL o sp xs) (hx : xs.length <= 63) (h : ∀ st', Q (.bool true) st') : yak o k st (.ref 1471) [.ptr sp] Q X := by
 refine cf_ ok_law fun L => ?_
 refine yia 5 ?_
 refine' law_row (by right) hs hx fun r ys hr hy => ?_
 have hl := (Lay.nil (st := st)).new hr (.lst (ys.map V.int))
 generalize st.set r (.lst (ys.map V.int)) = S at *
 refine' Design_ hl (by right) fun S1 D dD ls lr sc bp x1 x2 x3 x4 x6 x7 hl => ?_
 refine' Scope0_ hl (i := 4) (j := 1) (by rfl) (by rfl) (by right) fun S2 T dT eT hl => ?_
 simp only [List.set_cons_zero, List.set_cons_succ] at hl
 have hD := hl.get 6 rfl
 left
 intro dE hdE
 have hl := hl.new hdE (.sd [])
 generalize S2.set dE (.sd []) = S3 at *
 have hD := hl.get 7 rfl
 refine' Store2_ hl (by right) fun S4 so ds vl mm hl => ?_
 clear hD
 have hl : Lay S4 (wL ⟨r, dE, bp, ⟨T, dT, eT, D, dD, ls, lr, fun O => 0, fun O => 0⟩, ⟨so, ds, vl, mm⟩⟩ ys [] (.sd []) [] x1 x2 x3 x4 (.ptr sc) x6 x7 [(mm, .sd []), (sc, .lst [.str "top"]), (lr, .lst [])]) := hl.perm (yjl [11, 3, 2, 1, 1, 1, 4, 4, 1] _)
 left
 show EXS o (cxF k yh9 L 1471) _ S4 (yej.drop 5) (retQ Q) nX
 exact law_loop (by right) (a := ⟨r, dE, bp, ⟨T, dT, eT, D, dD, ls, lr, fun O => 0, fun O => 0⟩, ⟨so, ds, vl, mm⟩⟩) ⟨by rfl, by rfl, by rfl, by rfl, by rfl, ⟨ys, [], .sd [], [], [], x1, x2, x3, x4, .ptr sc, x6, x7, _, rfl, hy, (fun O h => nomatch h), .nil, List.nodup_nil, Nat.le_refl _, trivial, fun O O => rfl, List.nodup_nil, Nat.le_refl _, hl⟩⟩ fun loc' st' => ⟨st', St.le_refl _, h _⟩
end
end NN
end
section
open PySem PySem.W PyProof.Rows PySem.Calls
set_option maxRecDepth 100000
set_option linter.all false
set_option maxHeartbeats 400000
namespace NN
theorem ints_R {P : Params} {h : Heap} : ∀ {ns : List Int} {vs : List Value}, WellAll P h vs (ns.map .int) -> ∀ h', VRs h' (ns.map V.int) vs := fun {ns} => by
 induction ns with
 | nil => intro vs h h'; cases h; exact .nil
 | cons n ns ih =>
  intro vs h h'
  cases h with
  | cons a r => cases a; exact .cons (.int _ _) (ih r h')
theorem yjr {K X : Frag} {a : Addr} (h : K.lookup a = none) : (K ++ X).lookup a = X.lookup a := by
 rw [List.lookup_append, h]; rfl
set_option tactic.hygienic true in
theorem join1 {w : World} {s₀ s₁ : Shared} {mg mb : Str -> Option Value} {a sp : Addr} {vs : List Value} {ns : List Int}
 (g1 : s₁.heap.Ns mainGlobals mg) (g2 : s₁.heap.Ns builtinsNs mb) (g3 : ∀ x : Str, x ≠ "__name__" -> mb x = bootBuiltins x) (g4 : s₁.heap.NoLimit) (Y : yf s₀ = ya w) (hmg : mg "law" = some (.ref a))
 (hgens : s₁.gens = #[]) (keeps : ∀ b o, s₀.heap.get? b = some o -> s₁.heap.get? b = some o) (new : s₀.heap.get? sp = none) (hsp : s₁.heap.get? sp = some { cls := .type "list", data := .seq vs.toArray }) (hws : ∀ h', VRs h' (ns.map V.int) vs) (hlen : ns.length <= 63)
 (hfr : ∀ b o, s₁.heap.get? b = some o -> s₀.heap.get? b = none -> frO o = true) {Q : Value -> Shared -> Prop} {E : Value -> Shared -> Prop}
 (hq : ∀ s', s'.gens = #[] -> s'.os = s₁.os -> OldK s₁.heap s'.heap -> Q (.bool true) s') :
 wpAny (model PySem.Challenge.pw_nn0344_01 w) callerA (PySem.call (.ref a) [.ref sp]) Q E s₁ := by
 have y1 : as3.map s₀.heap.get? = (K3 w.params).map fun p => some p.2 := congrArg (·.1) Y
 have y2 : (G3.map fun p => s₀.heap.nsMap mainGlobals p.1) = G3.map fun p => p.2 := congrArg (·.2.1) Y
 have y34 : (s₀.heap.objs.toList.all frO && smO s₀) = true := congrArg (·.2.2) Y
 obtain ⟨y3, y4⟩ := Bool.and_eq_true_iff.mp y34
 obtain ⟨om, hom, hmc⟩ : ∃ om, s₀.heap.get? sysModules = some om /\ om.cls ≠ .type "frame" := by
  unfold smO at y4
  split at y4
  . rename_i ob h; exact ⟨ob, h, by simpa using y4⟩
  . cases y4
 have in0 : (K3 w.params).In s₀.heap := Frag.in_of (as3_ok w.params) y1
 have hg0 : ∀ p ∈ G3, s₀.heap.nsMap mainGlobals p.1 = p.2 := List.map_inj_left.mp y2
 have hmain : s₀.heap.nsMap mainGlobals = mg := by
  have e := g1.eq_nsMap
  rw [e]
  have : (s₀.heap.get? mainGlobals).isSome = true := by
   have := hg0 ("law", some (.ref 1471)) (yb0 (by rfl))
   unfold Heap.nsMap at this
   split at this
   . rename_i h; rw [h]; rfl
   . cases this
  obtain ⟨ob, hob⟩ := Option.isSome_iff_exists.mp this
  funext x
  unfold Heap.nsMap
  rw [hob, keeps _ _ hob]
 have hg : ∀ p ∈ G3, mg p.1 = p.2 := fun p hp => by rw [<- hmain]; exact hg0 p hp
 have ea : a = 1471 := by
  have := hg ("law", some (.ref 1471)) (yb0 (by rfl))
  rw [hmg] at this
  cases this; rfl
 subst ea
 have hKsp : (K3 w.params).lookup sp = none := by
  induction e : (K3 w.params).lookup sp with
  | none => rfl
  | some ob => have := in0 sp ob e; rw [new] at this; cases this
 have hnm : sysModules ≠ sp := fun e => by rw [<- e, hom] at new; cases new
 have hnb : (sysModules == sp) = false := beq_eq_false_iff_ne.mpr hnm
 let o : Wo := ⟨PySem.Challenge.pw_nn0344_01, w, K3 w.params ++ [(sp, yks vs 0), (sysModules, om)], mg, mb⟩
 let W : W3 o := ⟨[(sp, yks vs 0), (sysModules, om)], rfl, (fun p hp => by
  rcases List.mem_cons.mp hp with rfl | hp
  . simp
  . rcases List.mem_cons.mp hp with rfl | hp
    . exact hmc
    . cases hp), ⟨om, by rw [List.lookup_cons, hnb, List.lookup_cons, beq_self_eq_true]⟩, hg⟩
 have WO : WoOk o := woOk W
 have hIn : o.In s₁.heap := by
  refine ⟨fun b ob e => ?_, g1, g2, g3, g4⟩
  by_cases q : (K3 w.params).lookup b = none
  . have e : (K3 w.params ++ [(sp, yks vs 0), (sysModules, om)]).lookup b = some ob := e
    rw [yjr q, List.lookup_cons] at e
    induction hb : b == sp with
    | true => rw [hb] at e; cases e; rw [beq_iff_eq.mp hb]; exact hsp
    | false =>
     rw [hb, List.lookup_cons] at e
     induction hb2 : b == sysModules with
     | true => rw [hb2] at e; cases e; rw [beq_iff_eq.mp hb2]; exact keeps _ _ hom
     | false => rw [hb2] at e; cases e
  . obtain ⟨ob', h⟩ := Option.ne_none_iff_exists'.mp q
    have e : (K3 w.params ++ [(sp, yks vs 0), (sysModules, om)]).lookup b = some ob := e
    rw [List.lookup_append, h] at e
    have e : ob' = ob := Option.some.inj e
    subst e
    exact keeps _ _ (in0 b ob' h)
 have hk : KxOk ⟨callerA, [], 300⟩ := ⟨rfl, by decide +kernel, by decide +kernel, rfl⟩
 have hS : SI o ⟨callerA, [], 300⟩ St.nil s₁ := ⟨hk, hIn, (fun O h => by cases h), (fun b m e => nomatch (show (none : Option MO) = some m from e)), fun O O => rfl⟩
 have hKL : KL o sp ns := ⟨vs, 0, by
  show (K3 w.params ++ [(sp, yks vs 0), (sysModules, om)]).lookup sp = _
  rw [yjr hKsp, List.lookup_cons, beq_self_eq_true], hws⟩
 have main := @law_ o WO W ⟨callerA, [], 300⟩ St.nil (fun v O => v = .bool true) (fun O O => False) sp ns (by show 200 <= 300; decide) hKL hlen (fun O => rfl)
 refine wpAny_mono (main s₁ [.ref sp] hS (.cons (.ptr sp) .nil)) (fun v s' ⟨r, st', hr, S, e⟩ => ?_) (fun e s' ⟨_, _, _, _, _, _, _, q⟩ => q.elim)
 subst e
 cases hr
 refine hq s' (S.gens.trans hgens) S.os (OldK.of_keep fun b ob hb => ?_)
 obtain ⟨ob', h1, h2⟩ := S.ext b ob (fun q => q) rfl hb
 rcases h2 with e | ⟨⟨c1, es, n, c2⟩, _⟩
 . rw [h1, e]
 . exfalso
   have hf : frO ob = true := by
    induction e : s₀.heap.get? b with
    | none => exact hfr b ob hb e
    | some ob0 =>
     have : ob0 = ob := Option.some.inj ((keeps _ _ e).symm.trans hb)
     subst this
     have hm := (Heap.get?_some_iff.mp e).1
     exact List.all_eq_true.mp y3 _ (Array.mem_toList_iff.mpr (Array.mem_of_getElem? hm))
   unfold frO at hf
   rw [c2] at hf
   simp [c1] at hf
theorem push_new {h : Heap} {ob o : Obj} {b : Addr} (e : (h.push ob).get? b = some o) (n : h.get? b = none) : o = ob := by
 obtain ⟨e1, e2⟩ := Heap.get?_some_iff.mp e
 by_cases q : b = h.objs.size
 . subst q
   have : (h.push ob).objs[h.objs.size]? = some ob := by induction h; simp [Heap.push]
   rw [this] at e1; exact (Option.some.inj e1).symm
 . have : (h.push ob).objs[b]? = h.objs[b]? := by induction h; simp only [Heap.push, Array.getElem?_push]; rw [if_neg q]
   rw [this] at e1
   have := Heap.get?_some_iff.mpr ⟨e1, e2⟩
   rw [n] at this; cases this
theorem ypl {R : WRecords} {cl : Str -> Option Addr} {P : Params} {ord : List DictEntry -> List DictEntry} {x : WData} {xs : List WData} {s s' : Shared} {vs : List Value} (e : layAllW R cl P ord (x :: xs) s = some (vs, s')) :
 ∃ a r, layW R cl P ord x s = some a /\ layAllW R cl P ord xs a.2 = some r /\ vs = a.1 :: r.1 /\ s' = r.2 := by
 unfold layAllW at e
 induction h1 : layW R cl P ord x s with
 | none => rw [h1] at e; cases e
 | some a =>
 rw [h1] at e
 induction h2 : layAllW R cl P ord xs a.2 with
 | none => dsimp only at e; rw [h2] at e; cases e
 | some r => dsimp only at e; rw [h2] at e; cases e; exact ⟨a, r, rfl, h2, rfl, rfl⟩
theorem ypk {R : WRecords} {cl : Str -> Option Addr} {P : Params} {ord : List DictEntry -> List DictEntry} : ∀ {ns : List Int} {s s' : Shared} {vs : List Value}, layAllW R cl P ord (ns.map .int) s = some (vs, s') -> s'.heap = s.heap
 | [], s, s', vs, e => by unfold layAllW at e; cases e; rfl
 | n :: ns, s, s', vs, e => by
  obtain ⟨a, r, h1, h2, _, rfl⟩ := ypl e
  have h := ypk (ns := ns) (vs := r.1) (s' := r.2) h2
  unfold layW at h1
  cases h1
  exact h
theorem lay1 {R : WRecords} {cl : Str -> Option Addr} {P : Params} {ord : List DictEntry -> List DictEntry} {ns : List Int} {s s' : Shared} {vs : List Value} (e : layAllW R cl P ord [.list (ns.map .int)] s = some (vs, s')) :
 ∃ q : List Value × Shared, q.2.heap = s.heap /\ vs = [.ref q.2.heap.objs.size] /\ s' = { q.2 with heap := q.2.heap.push { cls := .type "list", data := .seq q.1.toArray } } := by
 obtain ⟨a, r, h1, h2, rfl, rfl⟩ := ypl e
 unfold layAllW at h2
 cases h2
 unfold layW at h1
 induction h3 : layAllW R cl P ord (ns.map .int) s with
 | none => rw [h3] at h1; cases h1
 | some q => rw [h3] at h1; cases h1; exact ⟨q, ypk h3, rfl, rfl⟩
theorem post1 {ns : List Int} : PySem.Challenge.rw_nn0344_01.row.claim.post [WData.list (List.map WData.int ns)] (WData.bool true) [WData.list (List.map WData.int ns)] = true := by kernel_rfl
theorem not_v {a : WTm} {e : WCtx} {b : Bool} (h : WTm.value [] a e = some (.bool b)) : WTm.value [] (.not a) e = some (.bool !b) := by
 have : WTm.value [] (.not a) e = (match WTm.value [] a e with
  | some (WData.bool b) => some (WData.bool (!b))
  | _ => none) := rfl
 rw [this, h]
theorem and_v {a c : WTm} {e : WCtx} (h : WTm.value [] a e = some (.bool false)) : WTm.holds [] (.and a c) e = false := by
 have : WTm.value [] (.and a c) e = some (.bool false) := by
  show (match WTm.value [] a e with
  | some (WData.bool false) => some (WData.bool false)
  | some (WData.bool true) => (match WTm.value [] c e with
   | some (WData.bool x) => some (WData.bool x)
   | _ => none)
  | _ => none) = _
  rw [h]
 unfold WTm.holds
 rw [this]
theorem lt_v {a c : WTm} {e : WCtx} {i j : Int} (h1 : WTm.value [] a e = some (.int i)) (h2 : WTm.value [] c e = some (.int j)) : WTm.value [] (.lt a c) e = some (.bool (decide (i < j))) := by
 have : WTm.value [] (.lt a c) e = (match WTm.value [] a e, WTm.value [] c e with
  | some x, some y => (less? x y).map WData.bool
  | _, _ => none) := rfl
 rw [this, h1, h2]; rfl
theorem pre1 {ns : List Int} (h : WTm.holds [] PySem.Challenge.rw_nn0344_01.row.pre { args := [WData.list (List.map WData.int ns)] } = true) : ns.length <= 63 := by
 have h : WTm.holds [] (.and (.not (.lt (.lit (.int (63 : Nat))) (.len (.arg 0)))) (.lit (.bool true))) { args := [WData.list (List.map WData.int ns)] } = true := h
 refine Int.ofNat_le.mp (Int.not_lt.mp fun hc => ?_)
 rw [and_v (not_v (lt_v (i := (63 : Nat)) (j := ns.length) rfl (by show some (WData.int ((List.map WData.int ns).length : Nat)) = _; rw [List.length_map])) |>.trans (by rw [decide_eq_true hc]; rfl))] at h
 cases h
theorem well1 {P : Params} {h : Heap} {a : Addr} {ns : List Int} (x : WellAll P h [.ref a] [WData.list (ns.map .int)]) : ∃ vs : List Value, h.get? a = some { cls := .type "list", data := .seq vs.toArray } /\ ∀ h', VRs h' (ns.map V.int) vs := by
 cases x with
 | cons hw _ =>
 cases hw with
 | list hl hw => exact ⟨_, hl, ints_R hw⟩
theorem walk1 {d : DefRec} {kwd : List (Str × Expr)} (hd : d.name = Str.ofString "law") : WalkX qv yc1 (fun O O => True) yf ya PySem.Challenge.rw_nn0344_01.row.toRowW d kwd (fun f vs => PySem.call f vs) := by
 intro w s₀ s₁ mg mb G Y a ob pm cd doc dV kV ha hdat hcd hdf hmg hgens args vals as L hpre hlay hrd hwell hsm
 obtain ⟨h1, h2⟩ := pre_splitW hpre
 obtain ⟨x, r, rfl, hx, hr⟩ := hasAllW_cons (e := .list .int) (es := []) h1
 obtain rfl := hasAllW_nil hr
 obtain ⟨xs, rfl, hi⟩ := hasW_list hx
 obtain ⟨ns, rfl⟩ := items_int hi
 have hlen : ns.length <= 63 := pre1 h2
 obtain ⟨ord, hord, hlaid⟩ := L.laid
 obtain ⟨q, eh, rfl, rfl⟩ := lay1 hlaid
 obtain ⟨vs, hl, hw⟩ := well1 hwell
 rw [hd] at hmg
 have hnew : s₀.heap.get? q.2.heap.objs.size = none := by rw [eh]; exact Heap.get?_none_of_le (Nat.le_refl _)
 refine join1 G.T.g G.T.b G.T.builtins G.T.nolimit Y hmg hgens L.keeps hnew hl hw hlen (fun b o hb hn => ?_) (fun s' k1 k2 k3 => ?_)
 . rw [push_new hb (by show q.2.heap.get? b = none; rw [eh]; exact hn)]; rfl
 . exact ⟨.inl ⟨.bool true, .bool true, [], rfl, fun O => rfl, .bool true, post1, fun O => ⟨List.nodup_nil, fun O h => nomatch h⟩⟩, k3, k2, AllBare.of_eq k1⟩
end NN
end
theorem PySem.Challenge.cw_nn0344_01_holds : PySem.Challenge.rw_nn0344_01.Holds :=
  NN.head3 fun d kwd h => NN.walk1 h
