import PyProof.Rows.All
import KE.BitLaws
import OpenK.KLine
import KE.IntBitsLaws
import KE.KBits
import KE.KxText
import OpenK.AllK
import Wide.All
import PySem.Challenge.RW_nn0344_04
set_option Elab.async false
set_option genInjectivity false
set_option genSizeOf false
section
open PySem PySem.W PyProof.Rows PySem.Calls
set_option maxRecDepth 100000
set_option linter.all false
namespace NN
theorem leftMk {p q : Program} {loose : List Str} {Xt : Shared -> Bool} {α : Type} {Yf : Shared -> α} {Ya : World -> α} {N : Nat} {H₀ H₁ : Params -> Heap} {gs₀ gs₁ : Array GenState} {d₀ d₁ : Drawn} {k₀ k₁ : Nat} {m₀ : Nat} {ann : Option Value} {M : Nat} {S : World -> OsState -> Shared}
 (hS : ∀ w os, S w os = ⟨H₁ w.params, gs₁, d₁, k₁, os⟩)
 (open_ : ∀ w : World, (fencedOpening treeTable p w N).map (fun s => (s.heap, s.gens, s.drawn, s.toks)) = some (H₀ w.params, gs₀, d₀, k₀))
 (size : ∀ w : World, ((H₀ w.params).isNs mainGlobals && gs₀.size == 0, (H₀ w.params).objs.size, (H₀ w.params).nsMap mainGlobals "__annotations__") = (true, m₀, ann))
 (run : ∀ (w : World) (os : OsState), topRun treeTable p w m₀ ann M ⟨H₀ w.params, gs₀, d₀, k₀, os⟩ (topStub p) = some (S w os)) (le : Nat.ble M N = true)
 (l0 : ∀ w : World, (fun os => staticsOk (importedModules p.main.body) (H₀ w.params) (H₁ w.params) && namesBound p (H₁ w.params) && gensDone (S w os) && laidKept (H₀ w.params) (H₁ w.params)) = fun _ => true)
 (l1 : ∀ w : World, (fun os => seen ((recsOf q).map (·.name)) (ownsOf q) [] { S w os with gens := #[] }) = fun _ => expectedOf q)
 (l2 : ∀ w : World, (fun os => (S w os).heap.bltView) = fun _ => bltViewBooted)
 (l3 : ∀ w : World, (fun os => (S w os).heap.keysOk (looseW q loose) ((recsOf q).map (·.name)) ((litsOf q).map (·.1)) ((clssOf q (looseW q loose)).map (·.name)) && (S w os).heap.accountedOkI (importedModules p.main.body) && (S w os).heap.isNs mainGlobals && (S w os).heap.isNs builtinsNs && tablesOk q (S w os).heap && Xt (S w os) && (if true then (S w os).gens.size == 0 else !leftWithCleanup (S w os).gens)) = fun _ => true)
 (l4 : ∀ w : World, (fun os => tabsOk q (S w os)) = fun _ => true)
 (l5 : ∀ w : World, (fun os => pinSeenD q (drecsOf q) (S w os)) = fun _ => pinGoodD (drecsOf q))
 (l6 : ∀ w : World, (fun os => plainSeenE q (looseW q loose) (S w os)) = fun _ => plainGoodE q (looseW q loose))
 (l7 : ∀ w : World, (fun os => plainSeenD q loose (S w os)) = fun _ => plainGoodD q loose)
 (l8 : ∀ w : World, (fun os => wideSeen q (S w os)) = fun _ => wideGood q)
 (l9 : ∀ w : World, (fun os => clsSeenW q loose (S w os)) = fun _ => clsGoodW q loose)
 (l10 : ∀ w : World, (fun os => Yf (S w os)) = fun _ => Ya w) : LeftO p q loose Xt Yf Ya N :=
 LeftO.of_pieces open_ size (fun w os => (run w os).trans (congrArg some (hS w os))) le fun w => by
  funext os
  have e := hS w os
  have k0 := congrFun (l0 w) os
  have k1 := congrFun (l1 w) os
  have k2 := congrFun (l2 w) os
  have k3 := congrFun (l3 w) os
  have k4 := congrFun (l4 w) os
  have k5 := congrFun (l5 w) os
  have k6 := congrFun (l6 w) os
  have k7 := congrFun (l7 w) os
  have k8 := congrFun (l8 w) os
  have k9 := congrFun (l9 w) os
  have k10 := congrFun (l10 w) os
  rw [<- e]
  exact looks_pair k0 (looks_pair (looks_pair k1 (looks_pair k2 (looks_pair k3 (looks_pair k4 (looks_pair k5 (looks_pair k6 (looks_pair k7 (looks_pair k8 k9)))))))) k10)
noncomputable def stm (i : Nat) : Stmt := PySem.Challenge.pw_nn0344_04.main.body.getD i default
noncomputable def met (i j : Nat) : Stmt := match stm i with
 | .ClassDef _ _ _ body .. => body.getD j default
 | _ => default
noncomputable def fdOf (st : Stmt) (q : Str) (dV pm cdv : Value) : FuncData := match st with
 | .FunctionDef name args body _ _ _ scope _ _ _ => fnOf name q args body scope dV .none .none pm none cdv .none
 | _ => default
noncomputable def bodyOf (st : Stmt) : List Stmt := match st with
 | .FunctionDef _ _ body .. => body
 | _ => []
noncomputable abbrev a_mask : Addr := 73
noncomputable def fd_mask := fdOf (stm 6) "mask" .none (.str "gateloom.vec" 264) (.ref 72)
noncomputable def body_mask := bodyOf (stm 6)
noncomputable abbrev a_vec : Addr := 81
noncomputable def fd_vec := fdOf (stm 7) "vec" (.ref 74) (.str "gateloom.vec" 264) (.ref 80)
noncomputable def body_vec := bodyOf (stm 7)
noncomputable abbrev a_all_x : Addr := 95
noncomputable def fd_all_x := fdOf (stm 9) "all_x" .none (.str "gateloom.vec" 264) (.ref 94)
noncomputable def body_all_x := bodyOf (stm 9)
noncomputable abbrev a_from_int : Addr := 109
noncomputable def fd_from_int := fdOf (stm 11) "from_int" .none (.str "gateloom.vec" 264) (.ref 108)
noncomputable def body_from_int := bodyOf (stm 11)
noncomputable abbrev a_to_int : Addr := 123
noncomputable def fd_to_int := fdOf (stm 13) "to_int" .none (.str "gateloom.vec" 264) (.ref 122)
noncomputable def body_to_int := bodyOf (stm 13)
noncomputable abbrev a_code : Addr := 130
noncomputable def fd_code := fdOf (stm 14) "code" .none (.str "gateloom.vec" 264) (.ref 129)
noncomputable def body_code := bodyOf (stm 14)
noncomputable abbrev a_put_slice : Addr := 144
noncomputable def fd_put_slice := fdOf (stm 16) "put_slice" .none (.str "gateloom.vec" 264) (.ref 143)
noncomputable def body_put_slice := bodyOf (stm 16)
noncomputable abbrev a_concat : Addr := 151
noncomputable def fd_concat := fdOf (stm 17) "concat" .none (.str "gateloom.vec" 264) (.ref 150)
noncomputable def body_concat := bodyOf (stm 17)
noncomputable abbrev a_extend : Addr := 158
noncomputable def fd_extend := fdOf (stm 18) "extend" .none (.str "gateloom.vec" 264) (.ref 157)
noncomputable def body_extend := bodyOf (stm 18)
noncomputable abbrev a_evaluate : Addr := 605
noncomputable def fd_evaluate := fdOf (stm 77) "evaluate" .none (.str "gateloom.evaluate" 902) (.ref 604)
noncomputable def body_evaluate := bodyOf (stm 77)
noncomputable abbrev a_children : Addr := 735
noncomputable def fd_children := fdOf (stm 93) "children" .none (.str "gateloom.walks" 1212) (.ref 734)
noncomputable def body_children := bodyOf (stm 93)
noncomputable abbrev a_last_select : Addr := 822
noncomputable def fd_last_select := fdOf (stm 108) "last_select" .none (.str "gateloom.elabparts" 1337) (.ref 821)
noncomputable def body_last_select := bodyOf (stm 108)
noncomputable abbrev a_is_memory : Addr := 829
noncomputable def fd_is_memory := fdOf (stm 109) "is_memory" .none (.str "gateloom.elabparts" 1337) (.ref 828)
noncomputable def body_is_memory := bodyOf (stm 109)
noncomputable abbrev a_shape : Addr := 836
noncomputable def fd_shape := fdOf (stm 110) "shape" .none (.str "gateloom.elabparts" 1337) (.ref 835)
noncomputable def body_shape := bodyOf (stm 110)
noncomputable abbrev a_read_entry : Addr := 843
noncomputable def fd_read_entry := fdOf (stm 111) "read_entry" .none (.str "gateloom.elabparts" 1337) (.ref 842)
noncomputable def body_read_entry := bodyOf (stm 111)
noncomputable abbrev a_folds : Addr := 850
noncomputable def fd_folds := fdOf (stm 112) "folds" .none (.str "gateloom.elabparts" 1337) (.ref 849)
noncomputable def body_folds := bodyOf (stm 112)
noncomputable abbrev a_folded : Addr := 857
noncomputable def fd_folded := fdOf (stm 113) "folded" .none (.str "gateloom.elabparts" 1337) (.ref 856)
noncomputable def body_folded := bodyOf (stm 113)
noncomputable abbrev a_checked_width : Addr := 864
noncomputable def fd_checked_width := fdOf (stm 114) "checked_width" .none (.str "gateloom.elabparts" 1337) (.ref 863)
noncomputable def body_checked_width := bodyOf (stm 114)
noncomputable abbrev a_text_vec : Addr := 878
noncomputable def fd_text_vec := fdOf (stm 116) "text_vec" .none (.str "gateloom.elabparts" 1337) (.ref 877)
noncomputable def body_text_vec := bodyOf (stm 116)
noncomputable abbrev a_inner_join : Addr := 885
noncomputable def fd_inner_join := fdOf (stm 117) "inner_join" .none (.str "gateloom.elabparts" 1337) (.ref 884)
noncomputable def body_inner_join := bodyOf (stm 117)
noncomputable abbrev a_widen : Addr := 906
noncomputable def fd_widen := fdOf (stm 120) "widen" .none (.str "gateloom.elabparts" 1337) (.ref 905)
noncomputable def body_widen := bodyOf (stm 120)
noncomputable abbrev a_number_value : Addr := 913
noncomputable def fd_number_value := fdOf (stm 121) "number_value" .none (.str "gateloom.elabparts" 1337) (.ref 912)
noncomputable def body_number_value := bodyOf (stm 121)
noncomputable abbrev a_path_names : Addr := 927
noncomputable def fd_path_names := fdOf (stm 124) "path_names" .none (.str "gateloom.elabexpr" 1473) (.ref 926)
noncomputable def body_path_names := bodyOf (stm 124)
noncomputable abbrev a_entry_of : Addr := 934
noncomputable def fd_entry_of := fdOf (stm 125) "entry_of" .none (.str "gateloom.elabexpr" 1473) (.ref 933)
noncomputable def body_entry_of := bodyOf (stm 125)
noncomputable abbrev a_named_type : Addr := 962
noncomputable def fd_named_type := fdOf (stm 129) "named_type" .none (.str "gateloom.elabexpr" 1473) (.ref 961)
noncomputable def body_named_type := bodyOf (stm 129)
noncomputable abbrev a_named_value : Addr := 969
noncomputable def fd_named_value := fdOf (stm 130) "named_value" .none (.str "gateloom.elabexpr" 1473) (.ref 968)
noncomputable def body_named_value := bodyOf (stm 130)
noncomputable abbrev a_function_of : Addr := 976
noncomputable def fd_function_of := fdOf (stm 131) "function_of" .none (.str "gateloom.elabexpr" 1473) (.ref 975)
noncomputable def body_function_of := bodyOf (stm 131)
noncomputable abbrev a_call_value : Addr := 983
noncomputable def fd_call_value := fdOf (stm 132) "call_value" .none (.str "gateloom.elabexpr" 1473) (.ref 982)
noncomputable def body_call_value := bodyOf (stm 132)
noncomputable abbrev a_joined_parts : Addr := 1004
noncomputable def fd_joined_parts := fdOf (stm 136) "joined_parts" .none (.str "gateloom.elabexpr" 1473) (.ref 1003)
noncomputable def body_joined_parts := bodyOf (stm 136)
noncomputable abbrev a_copies : Addr := 1011
noncomputable def fd_copies := fdOf (stm 137) "copies" .none (.str "gateloom.elabexpr" 1473) (.ref 1010)
noncomputable def body_copies := bodyOf (stm 137)
noncomputable abbrev a_joined_width : Addr := 1018
noncomputable def fd_joined_width := fdOf (stm 138) "joined_width" .none (.str "gateloom.elabexpr" 1473) (.ref 1017)
noncomputable def body_joined_width := bodyOf (stm 138)
noncomputable abbrev a_joined_value : Addr := 1025
noncomputable def fd_joined_value := fdOf (stm 139) "joined_value" .none (.str "gateloom.elabexpr" 1473) (.ref 1024)
noncomputable def body_joined_value := bodyOf (stm 139)
noncomputable abbrev a_expr_type : Addr := 1039
noncomputable def fd_expr_type := fdOf (stm 141) "expr_type" .none (.str "gateloom.elabexpr" 1473) (.ref 1038)
noncomputable def body_expr_type := bodyOf (stm 141)
noncomputable abbrev a_build : Addr := 1060
noncomputable def fd_build := fdOf (stm 144) "build" .none (.str "gateloom.elabexpr" 1473) (.ref 1059)
noncomputable def body_build := bodyOf (stm 144)
noncomputable abbrev a_self_determined : Addr := 1067
noncomputable def fd_self_determined := fdOf (stm 145) "self_determined" .none (.str "gateloom.elabexpr" 1473) (.ref 1066)
noncomputable def body_self_determined := bodyOf (stm 145)
noncomputable abbrev a_sized : Addr := 1074
noncomputable def fd_sized := fdOf (stm 146) "sized" .none (.str "gateloom.elabexpr" 1473) (.ref 1073)
noncomputable def body_sized := bodyOf (stm 146)
noncomputable abbrev a_constant_vec : Addr := 1081
noncomputable def fd_constant_vec := fdOf (stm 147) "constant_vec" .none (.str "gateloom.elabexpr" 1473) (.ref 1080)
noncomputable def body_constant_vec := bodyOf (stm 147)
noncomputable abbrev a_constant : Addr := 1088
noncomputable def fd_constant := fdOf (stm 148) "constant" .none (.str "gateloom.elabexpr" 1473) (.ref 1087)
noncomputable def body_constant := bodyOf (stm 148)
noncomputable abbrev a_whole : Addr := 1095
noncomputable def fd_whole := fdOf (stm 149) "whole" .none (.str "gateloom.elabexpr" 1473) (.ref 1094)
noncomputable def body_whole := bodyOf (stm 149)
noncomputable abbrev a_net_kinds : Addr := 1102
noncomputable def fd_net_kinds := fdOf (stm 151) "net_kinds" .none (.str "gateloom.design" 1752) (.ref 1101)
noncomputable def body_net_kinds := bodyOf (stm 151)
noncomputable abbrev a__law_row : Addr := 1331
noncomputable def fd__law_row := fdOf (stm 158) "_law_row" .none (.str "law_nn0344_04" 2117) (.ref 1330)
noncomputable def body__law_row := bodyOf (stm 158)
noncomputable abbrev a__law_next : Addr := 1338
noncomputable def fd__law_next := fdOf (stm 159) "_law_next" .none (.str "law_nn0344_04" 2117) (.ref 1337)
noncomputable def body__law_next := bodyOf (stm 159)
noncomputable abbrev a__law_bits : Addr := 1345
noncomputable def fd__law_bits := fdOf (stm 160) "_law_bits" .none (.str "law_nn0344_04" 2117) (.ref 1344)
noncomputable def body__law_bits := bodyOf (stm 160)
noncomputable abbrev a__law_made : Addr := 1352
noncomputable def fd__law_made := fdOf (stm 161) "_law_made" .none (.str "law_nn0344_04" 2117) (.ref 1351)
noncomputable def body__law_made := bodyOf (stm 161)
noncomputable abbrev a__law_number : Addr := 1359
noncomputable def fd__law_number := fdOf (stm 162) "_law_number" .none (.str "law_nn0344_04" 2117) (.ref 1358)
noncomputable def body__law_number := bodyOf (stm 162)
noncomputable abbrev a__law_small : Addr := 1366
noncomputable def fd__law_small := fdOf (stm 163) "_law_small" .none (.str "law_nn0344_04" 2117) (.ref 1365)
noncomputable def body__law_small := bodyOf (stm 163)
noncomputable abbrev a__law_joined : Addr := 1373
noncomputable def fd__law_joined := fdOf (stm 164) "_law_joined" .none (.str "law_nn0344_04" 2117) (.ref 1372)
noncomputable def body__law_joined := bodyOf (stm 164)
noncomputable abbrev a__law_text : Addr := 1378
noncomputable def fd__law_text := fdOf (stm 165) "_law_text" .none (.str "law_nn0344_04" 2117) (.ref 1377)
noncomputable def body__law_text := bodyOf (stm 165)
noncomputable abbrev a__law_call : Addr := 1385
noncomputable def fd__law_call := fdOf (stm 166) "_law_call" .none (.str "law_nn0344_04" 2117) (.ref 1384)
noncomputable def body__law_call := bodyOf (stm 166)
noncomputable abbrev a__law_name : Addr := 1390
noncomputable def fd__law_name := fdOf (stm 167) "_law_name" .none (.str "law_nn0344_04" 2117) (.ref 1389)
noncomputable def body__law_name := bodyOf (stm 167)
noncomputable abbrev a_law : Addr := 1395
noncomputable def fd_law := fdOf (stm 168) "law" .none (.str "law_nn0344_04" 2117) (.ref 1394)
noncomputable def body_law := bodyOf (stm 168)
noncomputable abbrev c_GateloomError : Addr := 39
noncomputable abbrev c_DesignError : Addr := 52
noncomputable abbrev c_Store : Addr := 210
noncomputable abbrev c_Context : Addr := 253
noncomputable abbrev c_FunctionContext : Addr := 677
noncomputable abbrev c_Signal : Addr := 1154
noncomputable abbrev c_Routine : Addr := 1180
noncomputable abbrev c_Design : Addr := 1243
noncomputable abbrev c_Scope : Addr := 1320
noncomputable abbrev a_GateloomError_init : Addr := 36
noncomputable def fd_GateloomError_init := fdOf (met 2 0) "GateloomError.__init__" (.ref 29) (.str "gateloom.errors" 194) (.ref 35)
noncomputable def body_GateloomError_init := bodyOf (met 2 0)
noncomputable abbrev a_Store_init : Addr := 186
noncomputable def fd_Store_init := fdOf (met 22 0) "Store.__init__" .none (.str "gateloom.store" 410) (.ref 185)
noncomputable def body_Store_init := bodyOf (met 22 0)
noncomputable abbrev a_Store_get : Addr := 193
noncomputable def fd_Store_get := fdOf (met 22 1) "Store.get" .none (.str "gateloom.store" 410) (.ref 192)
noncomputable def body_Store_get := bodyOf (met 22 1)
noncomputable abbrev a_Store_set_bits : Addr := 207
noncomputable def fd_Store_set_bits := fdOf (met 22 3) "Store.set_bits" .none (.str "gateloom.store" 410) (.ref 206)
noncomputable def body_Store_set_bits := bodyOf (met 22 3)
noncomputable abbrev a_Context_init : Addr := 229
noncomputable def fd_Context_init := fdOf (met 23 0) "Context.__init__" (.ref 222) (.str "gateloom.store" 410) (.ref 228)
noncomputable def body_Context_init := bodyOf (met 23 0)
noncomputable abbrev a_Signal_init : Addr := 1116
noncomputable def fd_Signal_init := fdOf (met 152 0) "Signal.__init__" .none (.str "gateloom.design" 1752) (.ref 1115)
noncomputable def body_Signal_init := bodyOf (met 152 0)
noncomputable abbrev a_Signal_is_net : Addr := 1123
noncomputable def fd_Signal_is_net := fdOf (met 152 1) "Signal.is_net" .none (.str "gateloom.design" 1752) (.ref 1122)
noncomputable def body_Signal_is_net := bodyOf (met 152 1)
noncomputable abbrev a_Signal_is_memory : Addr := 1130
noncomputable def fd_Signal_is_memory := fdOf (met 152 2) "Signal.is_memory" .none (.str "gateloom.design" 1752) (.ref 1129)
noncomputable def body_Signal_is_memory := bodyOf (met 152 2)
noncomputable abbrev a_Routine_init : Addr := 1172
noncomputable def fd_Routine_init := fdOf (met 153 0) "Routine.__init__" .none (.str "gateloom.design" 1752) (.ref 1171)
noncomputable def body_Routine_init := bodyOf (met 153 0)
noncomputable abbrev a_Routine_inputs : Addr := 1177
noncomputable def fd_Routine_inputs := fdOf (met 153 1) "Routine.inputs" .none (.str "gateloom.design" 1752) (.ref 1176)
noncomputable def body_Routine_inputs := bodyOf (met 153 1)
noncomputable abbrev a_Design_init : Addr := 1198
noncomputable def fd_Design_init := fdOf (met 154 0) "Design.__init__" .none (.str "gateloom.design" 1752) (.ref 1197)
noncomputable def body_Design_init := bodyOf (met 154 0)
noncomputable abbrev a_Design_add_signal : Addr := 1205
noncomputable def fd_Design_add_signal := fdOf (met 154 1) "Design.add_signal" .none (.str "gateloom.design" 1752) (.ref 1204)
noncomputable def body_Design_add_signal := bodyOf (met 154 1)
noncomputable abbrev a_Design_add_scope : Addr := 1212
noncomputable def fd_Design_add_scope := fdOf (met 154 2) "Design.add_scope" .none (.str "gateloom.design" 1752) (.ref 1211)
noncomputable def body_Design_add_scope := bodyOf (met 154 2)
noncomputable abbrev a_Design_add_routine : Addr := 1219
noncomputable def fd_Design_add_routine := fdOf (met 154 3) "Design.add_routine" .none (.str "gateloom.design" 1752) (.ref 1218)
noncomputable def body_Design_add_routine := bodyOf (met 154 3)
noncomputable abbrev a_Scope_init : Addr := 1261
noncomputable def fd_Scope_init := fdOf (met 156 0) "Scope.__init__" .none (.str "gateloom.scopes" 1998) (.ref 1260)
noncomputable def body_Scope_init := bodyOf (met 156 0)
noncomputable abbrev a_Scope_child : Addr := 1268
noncomputable def fd_Scope_child := fdOf (met 156 1) "Scope.child" .none (.str "gateloom.scopes" 1998) (.ref 1267)
noncomputable def body_Scope_child := bodyOf (met 156 1)
noncomputable abbrev a_Scope_declare : Addr := 1275
noncomputable def fd_Scope_declare := fdOf (met 156 2) "Scope.declare" .none (.str "gateloom.scopes" 1998) (.ref 1274)
noncomputable def body_Scope_declare := bodyOf (met 156 2)
noncomputable abbrev a_Scope_lookup : Addr := 1289
noncomputable def fd_Scope_lookup := fdOf (met 156 4) "Scope.lookup" .none (.str "gateloom.scopes" 1998) (.ref 1288)
noncomputable def body_Scope_lookup := bodyOf (met 156 4)
noncomputable abbrev a_Scope_lookup_routine : Addr := 1296
noncomputable def fd_Scope_lookup_routine := fdOf (met 156 5) "Scope.lookup_routine" .none (.str "gateloom.scopes" 1998) (.ref 1295)
noncomputable def body_Scope_lookup_routine := bodyOf (met 156 5)
noncomputable abbrev a_Scope_descend : Addr := 1303
noncomputable def fd_Scope_descend := fdOf (met 156 6) "Scope.descend" .none (.str "gateloom.scopes" 1998) (.ref 1302)
noncomputable def body_Scope_descend := bodyOf (met 156 6)
noncomputable abbrev a_Scope_resolve : Addr := 1310
noncomputable def fd_Scope_resolve := fdOf (met 156 7) "Scope.resolve" .none (.str "gateloom.scopes" 1998) (.ref 1309)
noncomputable def body_Scope_resolve := bodyOf (met 156 7)
noncomputable abbrev a_Scope_answers_to : Addr := 1317
noncomputable def fd_Scope_answers_to := fdOf (met 156 8) "Scope.answers_to" .none (.str "gateloom.scopes" 1998) (.ref 1316)
noncomputable def body_Scope_answers_to := bodyOf (met 156 8)
noncomputable def G3 : List (Str × Option Value) := [((Str.ofString "mask"), some (.ref 73)), ((Str.ofString "vec"), some (.ref 81)), ((Str.ofString "all_x"), some (.ref 95)), ((Str.ofString "from_int"), some (.ref 109)), ((Str.ofString "to_int"), some (.ref 123)), ((Str.ofString "code"), some (.ref 130)), ((Str.ofString "put_slice"), some (.ref 144)), ((Str.ofString "concat"), some (.ref 151)), ((Str.ofString "extend"), some (.ref 158)), ((Str.ofString "evaluate"), some (.ref 605)), ((Str.ofString "children"), some (.ref 735)), ((Str.ofString "last_select"), some (.ref 822)), ((Str.ofString "is_memory"), some (.ref 829)), ((Str.ofString "shape"), some (.ref 836)), ((Str.ofString "read_entry"), some (.ref 843)), ((Str.ofString "folds"), some (.ref 850)), ((Str.ofString "folded"), some (.ref 857)), ((Str.ofString "checked_width"), some (.ref 864)), ((Str.ofString "text_vec"), some (.ref 878)), ((Str.ofString "inner_join"), some (.ref 885)), ((Str.ofString "widen"), some (.ref 906)), ((Str.ofString "number_value"), some (.ref 913)), ((Str.ofString "path_names"), some (.ref 927)), ((Str.ofString "entry_of"), some (.ref 934)), ((Str.ofString "named_type"), some (.ref 962)), ((Str.ofString "named_value"), some (.ref 969)), ((Str.ofString "function_of"), some (.ref 976)), ((Str.ofString "call_value"), some (.ref 983)), ((Str.ofString "joined_parts"), some (.ref 1004)), ((Str.ofString "copies"), some (.ref 1011)), ((Str.ofString "joined_width"), some (.ref 1018)), ((Str.ofString "joined_value"), some (.ref 1025)), ((Str.ofString "expr_type"), some (.ref 1039)), ((Str.ofString "build"), some (.ref 1060)), ((Str.ofString "self_determined"), some (.ref 1067)), ((Str.ofString "sized"), some (.ref 1074)), ((Str.ofString "constant_vec"), some (.ref 1081)), ((Str.ofString "constant"), some (.ref 1088)), ((Str.ofString "whole"), some (.ref 1095)), ((Str.ofString "net_kinds"), some (.ref 1102)), ((Str.ofString "_law_row"), some (.ref 1331)), ((Str.ofString "_law_next"), some (.ref 1338)), ((Str.ofString "_law_bits"), some (.ref 1345)), ((Str.ofString "_law_made"), some (.ref 1352)), ((Str.ofString "_law_number"), some (.ref 1359)), ((Str.ofString "_law_small"), some (.ref 1366)), ((Str.ofString "_law_joined"), some (.ref 1373)), ((Str.ofString "_law_text"), some (.ref 1378)), ((Str.ofString "_law_call"), some (.ref 1385)), ((Str.ofString "_law_name"), some (.ref 1390)), ((Str.ofString "law"), some (.ref 1395)), ((Str.ofString "GateloomError"), some (.ref 39)), ((Str.ofString "DesignError"), some (.ref 52)), ((Str.ofString "Store"), some (.ref 210)), ((Str.ofString "Context"), some (.ref 253)), ((Str.ofString "FunctionContext"), some (.ref 677)), ((Str.ofString "Signal"), some (.ref 1154)), ((Str.ofString "Routine"), some (.ref 1180)), ((Str.ofString "Design"), some (.ref 1243)), ((Str.ofString "Scope"), some (.ref 1320)), ((Str.ofString "MAX_WIDTH"), some (.int (65536) 1339))] ++ [((Str.ofString "chr"), none), ((Str.ofString "isinstance"), none), ((Str.ofString "len"), none), ((Str.ofString "max"), none), ((Str.ofString "min"), none), ((Str.ofString "ord"), none), ((Str.ofString "range"), none), ((Str.ofString "str"), none), ((Str.ofString "tuple"), none)]
end NN
end
section
set_option Elab.async false
set_option maxRecDepth 100000
set_option linter.all false
open PySem PySem.W PyProof.Rows PySem.Calls
namespace NN
noncomputable def dE (P : Params) (s : String) (t : Nat) (v : Value) : DictEntry := ⟨PyData.keyHash P (Str.ofString s), .str (Str.ofString s) t, v⟩
noncomputable def insF : BT → Nat → List Obj → BT
 | t, _, [] => t
 | t, n, o :: l => insF (t.ins n o) (n + 1) l
noncomputable def qS (s : String) (t : Nat) : Value := .str (Str.ofString s) t
noncomputable def qI (n : Int) : Value := .int n 0
noncomputable def qV (a : Addr) : Value := .ref a
noncomputable def qT (l : Array Value) : Obj := { cls := .type "tuple", dict := none, data := .seq l 0, slots := #[] }
noncomputable def qF (l : Array Value) : Obj := { cls := .none, dict := none, data := .fields l, slots := #[] }
noncomputable def qC (l : Array Value) : Obj := { cls := .type "code", dict := none, data := .fields l, slots := #[] }
noncomputable def qR (st : Stmt) (q : String) : Obj := { cls := .none, dict := none, data := .func { fdOf st (Str.ofString q) .none .none .none with globals := 0, builtins := 0 }, slots := #[] }
noncomputable def qN (st : Stmt) (q : String) (d m : Value) (c : Addr) : Obj := { cls := .type "function", dict := none, data := .func (fdOf st (Str.ofString q) d m (.ref c)), slots := #[] }
noncomputable def hd_3 (P : Params) : List DictEntry := [dE P "__name__" 165 (qS "law_nn0344_04" 2117), dE P "__doc__" 166 .none, dE P "__package__" 167 .none, dE P "__loader__" 168 (.builtin "__main__.__loader__#opaque"), dE P "__spec__" 169 .none, dE P "__annotations__" 170 (qV 6), dE P "__builtins__" 171 (qV 4), dE P "__file__" 173 (qS "/claim/cut.py" 172), dE P "__cached__" 174 .none, dE P "_wall" 193 (qV 21), dE P "GateloomError" 231 (qV 39), dE P "DesignError" 247 (qV 52), dE P "LimitReached" 263 (qV 64), dE P "mask" 272 (qV 73), dE P "vec" 283 (qV 81), dE P "zeros" 290 (qV 88), dE P "all_x" 298 (qV 95), dE P "all_z" 305 (qV 102), dE P "from_int" 313 (qV 109), dE P "is_known" 320 (qV 116), dE P "to_int" 331 (qV 123), dE P "code" 339 (qV 130), dE P "slice_vec" 355 (qV 137), dE P "put_slice" 371 (qV 144), dE P "concat" 382 (qV 151), dE P "extend" 395 (qV 158), dE P "z_to_x" 402 (qV 165), dE P "truth" 409 (qV 172), dE P "Store" 477 (qV 210), dE P "Context" 536 (qV 253), dE P "add" 546 (qV 264), dE P "sub" 554 (qV 271), dE P "mul" 562 (qV 278), dE P "neg" 569 (qV 285), dE P "quotient" 578 (qV 292), dE P "div" 589 (qV 299), dE P "mod" 600 (qV 306), dE P "raise_whole" 613 (qV 313), dE P "power" 626 (qV 320), dE P "shift_left" 636 (qV 327), dE P "shift_right" 645 (qV 334), dE P "shift_arith" 660 (qV 341), dE P "ordered" 671 (qV 348), dE P "less" 681 (qV 355), dE P "less_equal" 691 (qV 362), dE P "greater" 700 (qV 369), dE P "greater_equal" 709 (qV 376), dE P "one_bit" 718 (qV 383), dE P "bit_not" 728 (qV 390), dE P "bit_and" 742 (qV 397), dE P "bit_or" 757 (qV 404), dE P "bit_xor" 766 (qV 411), dE P "bit_xnor" 774 (qV 418), dE P "reduce_and" 784 (qV 425), dE P "reduce_nand" 791 (qV 432), dE P "reduce_or" 798 (qV 439), dE P "reduce_nor" 805 (qV 446), dE P "reduce_xor" 814 (qV 453), dE P "reduce_xnor" 821 (qV 460), dE P "logic_not" 828 (qV 467), dE P "logic_and" 836 (qV 474), dE P "logic_or" 844 (qV 481), dE P "equal" 853 (qV 488), dE P "not_equal" 861 (qV 495), dE P "case_equal" 869 (qV 502), dE P "case_not_equal" 877 (qV 509), dE P "matches" 888 (qV 516), dE P "choose" 901 (qV 523), dE P "unary" 911 (qV 530), dE P "arithmetic" 921 (qV 537), dE P "comparison" 931 (qV 544), dE P "bitwise" 940 (qV 551), dE P "binary" 951 (qV 558), dE P "whole_of" 960 (qV 565), dE P "memory_word" 970 (qV 572), dE P "picked" 980 (qV 579), dE P "conditional" 990 (qV 586), dE P "bits_needed" 998 (qV 593), dE P "system_value" 1009 (qV 997), dE P "system_value_evaluate" 1010 (qV 600), dE P "evaluate" 1016 (qV 605), dE P "locate" 1025 (qV 612), dE P "holder_width" 1033 (qV 619), dE P "resolve_target" 1052 (qV 626), dE P "store_rows" 1069 (qV 633), dE P "DEPTH_LIMIT" 1073 (.int (24) 1072), dE P "FunctionContext" 1140 (qV 677), dE P "run_block" 1150 (qV 686), dE P "run_set" 1160 (qV 693), dE P "run_case" 1173 (qV 700), dE P "run_while" 1184 (qV 707), dE P "run_repeat" 1194 (qV 714), dE P "run_for" 1202 (qV 721), dE P "run_statement" 1211 (qV 728), dE P "children" 1221 (qV 735), dE P "subexpressions" 1232 (qV 742), dE P "expr_reads" 1241 (qV 749), dE P "expr_calls" 1250 (qV 756), dE P "target_indexes" 1259 (qV 763), dE P "target_writes" 1268 (qV 770), dE P "stmt_parts" 1274 (qV 775), dE P "substatements" 1285 (qV 782), dE P "stmt_targets" 1291 (qV 787), dE P "stmt_exprs" 1303 (qV 794), dE P "stmt_reads" 1314 (qV 801), dE P "stmt_writes" 1325 (qV 808), dE P "stmt_calls" 1336 (qV 815), dE P "MAX_WIDTH" 1340 (.int (65536) 1339), dE P "last_select" 1349 (qV 822), dE P "is_memory" 1357 (qV 829), dE P "shape" 1367 (qV 836), dE P "read_entry" 1377 (qV 843), dE P "folds" 1384 (qV 850), dE P "folded" 1392 (qV 857), dE P "checked_width" 1400 (qV 864), dE P "selected" 1409 (qV 871), dE P "text_vec" 1418 (qV 878), dE P "inner_join" 1425 (qV 885), dE P "is_context_operator" 1432 (qV 892), dE P "is_shift" 1439 (qV 899), dE P "widen" 1448 (qV 906), dE P "number_value" 1459 (qV 913), dE P "is_constant" 1472 (qV 920), dE P "path_names" 1485 (qV 927), dE P "entry_of" 1494 (qV 934), dE P "base_entry" 1504 (qV 941), dE P "select_width" 1512 (qV 948), dE P "select_where" 1530 (qV 955), dE P "named_type" 1540 (qV 962), dE P "named_value" 1553 (qV 969), dE P "function_of" 1563 (qV 976), dE P "call_value" 1575 (qV 983), dE P "system_type" 1585 (qV 990), dE P "system_value_elabexpr" 1597 (qV 997), dE P "joined_parts" 1607 (qV 1004), dE P "copies" 1616 (qV 1011), dE P "joined_width" 1626 (qV 1018), dE P "joined_value" 1637 (qV 1025), dE P "both_types" 1648 (qV 1032), dE P "expr_type" 1658 (qV 1039), dE P "unary_value" 1669 (qV 1046), dE P "binary_value" 1685 (qV 1053), dE P "build" 1699 (qV 1060), dE P "self_determined" 1709 (qV 1067), dE P "sized" 1720 (qV 1074), dE P "constant_vec" 1730 (qV 1081), dE P "constant" 1740 (qV 1088), dE P "whole" 1751 (qV 1095), dE P "net_kinds" 1759 (qV 1102), dE P "Signal" 1844 (qV 1154), dE P "Routine" 1896 (qV 1180), dE P "Design" 1997 (qV 1243), dE P "Scope" 2116 (qV 1320), dE P "_law_row" 2129 (qV 1331), dE P "_law_next" 2136 (qV 1338), dE P "_law_bits" 2148 (qV 1345), dE P "_law_made" 2158 (qV 1352), dE P "_law_number" 2167 (qV 1359), dE P "_law_small" 2174 (qV 1366), dE P "_law_joined" 2190 (qV 1373), dE P "_law_text" 2196 (qV 1378), dE P "_law_call" 2213 (qV 1385), dE P "_law_name" 2219 (qV 1390), dE P "law" 2225 (qV 1395)]
noncomputable def hf_12 : List Value := [(qI 1), (qI 0), (qV 20), (qI 5), (qI 0), (qV 27), (qI 11), (qI 0), (qV 48), (qI 13), (qI 0), (qV 60), (qI 16), (qI 0), (qV 72), (qI 18), (qI 0), (qV 80), (qI 21), (qI 0), (qV 87), (qI 23), (qI 0), (qV 94), (qI 26), (qI 0), (qV 101), (qI 28), (qI 0), (qV 108), (qI 30), (qI 0), (qV 115), (qI 32), (qI 0), (qV 122), (qI 39), (qI 0), (qV 129), (qI 41), (qI 0), (qV 136), (qI 52), (qI 0), (qV 143), (qI 63), (qI 0), (qV 150), (qI 72), (qI 0), (qV 157), (qI 82), (qI 0), (qV 164), (qI 84), (qI 0), (qV 171), (qI 91), (qI 0), (qV 178), (qI 134), (qI 0), (qV 220), (qI 154), (qI 0), (qV 263), (qI 158), (qI 0), (qV 270), (qI 162), (qI 0), (qV 277), (qI 166), (qI 0), (qV 284), (qI 170), (qI 0), (qV 291), (qI 175), (qI 0), (qV 298), (qI 181), (qI 0), (qV 305), (qI 187), (qI 0), (qV 312), (qI 198), (qI 0), (qV 319), (qI 213), (qI 0), (qV 326), (qI 221), (qI 0), (qV 333), (qI 228), (qI 0), (qV 340), (qI 238), (qI 0), (qV 347), (qI 246), (qI 0), (qV 354), (qI 251), (qI 0), (qV 361), (qI 256), (qI 0), (qV 368), (qI 258), (qI 0), (qV 375), (qI 261), (qI 0), (qV 382), (qI 263), (qI 0), (qV 389), (qI 266), (qI 0), (qV 396), (qI 271), (qI 0), (qV 403), (qI 277), (qI 0), (qV 410), (qI 280), (qI 0), (qV 417), (qI 282), (qI 0), (qV 424), (qI 287), (qI 0), (qV 431), (qI 289), (qI 0), (qV 438), (qI 291), (qI 0), (qV 445), (qI 293), (qI 0), (qV 452), (qI 302), (qI 0), (qV 459), (qI 304), (qI 0), (qV 466), (qI 306), (qI 0), (qV 473), (qI 308), (qI 0), (qV 480), (qI 310), (qI 0), (qV 487), (qI 315), (qI 0), (qV 494), (qI 317), (qI 0), (qV 501), (qI 319), (qI 0), (qV 508), (qI 321), (qI 0), (qV 515), (qI 329), (qI 0), (qV 522), (qI 340), (qI 0), (qV 529), (qI 360), (qI 0), (qV 536), (qI 378), (qI 0), (qV 543), (qI 396), (qI 0), (qV 550), (qI 410), (qI 0), (qV 557), (qI 419), (qI 0), (qV 564), (qI 421), (qI 0), (qV 571), (qI 429), (qI 0), (qV 578), (qI 435), (qI 0), (qV 585), (qI 443), (qI 0), (qV 592), (qI 448), (qI 0), (qV 599), (qI 462), (qI 0), (qV 604), (qI 493), (qI 0), (qV 611), (qI 500), (qI 0), (qV 618), (qI 504), (qI 0), (qV 625), (qI 523), (qI 0), (qV 632), (qI 535), (qI 0), (qV 639), (qI 578), (qI 0), (qV 685), (qI 586), (qI 0), (qV 692), (qI 593), (qI 0), (qV 699), (qI 604), (qI 0), (qV 706), (qI 612), (qI 0), (qV 713), (qI 623), (qI 0), (qV 720), (qI 626), (qI 0), (qV 727), (qI 653), (qI 0), (qV 734), (qI 672), (qI 0), (qV 741), (qI 681), (qI 0), (qV 748), (qI 687), (qI 0), (qV 755), (qI 693), (qI 0), (qV 762), (qI 701), (qI 0), (qV 769), (qI 707), (qI 0), (qV 774), (qI 725), (qI 0), (qV 781), (qI 736), (qI 0), (qV 786), (qI 742), (qI 0), (qV 793), (qI 767), (qI 0), (qV 800), (qI 774), (qI 0), (qV 807), (qI 781), (qI 0), (qV 814), (qI 792), (qI 0), (qV 821), (qI 797), (qI 0), (qV 828), (qI 799), (qI 0), (qV 835), (qI 812), (qI 0), (qV 842), (qI 823), (qI 0), (qV 849), (qI 827), (qI 0), (qV 856), (qI 834), (qI 0), (qV 863), (qI 840), (qI 0), (qV 870), (qI 844), (qI 0), (qV 877), (qI 849), (qI 0), (qV 884), (qI 851), (qI 0), (qV 891), (qI 853), (qI 0), (qV 898), (qI 855), (qI 0), (qV 905), (qI 859), (qI 0), (qV 912), (qI 863), (qI 0), (qV 919), (qI 881), (qI 0), (qV 926), (qI 888), (qI 0), (qV 933), (qI 895), (qI 0), (qV 940), (qI 905), (qI 0), (qV 947), (qI 911), (qI 0), (qV 954), (qI 933), (qI 0), (qV 961), (qI 946), (qI 0), (qV 968), (qI 965), (qI 0), (qV 975), (qI 977), (qI 0), (qV 982), (qI 985), (qI 0), (qV 989), (qI 1003), (qI 0), (qV 996), (qI 1012), (qI 0), (qV 1003), (qI 1022), (qI 0), (qV 1010), (qI 1027), (qI 0), (qV 1017), (qI 1034), (qI 0), (qV 1024), (qI 1042), (qI 0), (qV 1031), (qI 1046), (qI 0), (qV 1038), (qI 1074), (qI 0), (qV 1045), (qI 1081), (qI 0), (qV 1052), (qI 1100), (qI 0), (qV 1059), (qI 1123), (qI 0), (qV 1066), (qI 1126), (qI 0), (qV 1073), (qI 1129), (qI 0), (qV 1080), (qI 1136), (qI 0), (qV 1087), (qI 1139), (qI 0), (qV 1094), (qI 1146), (qI 0), (qV 1101), (qI 1148), (qI 0), (qV 1108), (qI 1194), (qI 0), (qV 1164), (qI 1214), (qI 0), (qV 1190), (qI 1259), (qI 0), (qV 1253), (qI 1335), (qI 0), (qV 1330), (qI 1348), (qI 0), (qV 1337), (qI 1350), (qI 0), (qV 1344), (qI 1358), (qI 0), (qV 1351), (qI 1365), (qI 0), (qV 1358), (qI 1369), (qI 0), (qV 1365), (qI 1371), (qI 0), (qV 1372), (qI 1399), (qI 0), (qV 1377), (qI 1406), (qI 0), (qV 1384), (qI 1427), (qI 0), (qV 1389), (qI 1440), (qI 0), (qV 1394)]
noncomputable def ho_0 : Obj := qT #[]
noncomputable def ho_7 : Obj := qF #[]
noncomputable def ho_13 : Obj := { cls := (.type "builtin_function_or_method"), dict := none, data := .fields #[(.builtin "type.__prepare__"), (.type "type")], slots := #[] }
noncomputable def ho_18 : Obj := qT #[(.int (-1) 209), (qS "" 210)]
noncomputable def ho_21 : Obj := qC #[(qS "__init__" 211), (qS "GateloomError.__init__" 212), (qS "/claim/cut.py" 213), (qI 7), (qI 4), (qI 0), (qI 0), (qI 3), (qV 30), (.bool true), (qI 181), (qV 31), .none, (qV 32), (qV 33), (qV 34), (qI 218), (qI 7), (qS "/claim/cut.py" 219)]
noncomputable def ho_22 : Obj := qN (met 2 0) "GateloomError.__init__" (qV 29) (qS "gateloom.errors" 194) 35
noncomputable def ho_24 (P : Params) : Obj := { cls := (.type "dict"), dict := none, data := .dict #[dE P "__module__" 203 (qS "gateloom.errors" 194), dE P "__firstlineno__" 207 (.int (5) 206), dE P "__init__" 220 (qV 36), dE P "__static_attributes__" 224 (qV 37), dE P "__weakref__" 226 (qV 40), dE P "__doc__" 227 .none] 3, slots := #[] }
noncomputable def ho_32 : Obj := qT #[(qV 39)]
noncomputable def ho_36 (P : Params) : Obj := { cls := (.type "dict"), dict := none, data := .dict #[dE P "__module__" 239 (qS "gateloom.errors" 194), dE P "__firstlineno__" 243 (.int (11) 242), dE P "__static_attributes__" 244 (qV 50), dE P "__doc__" 245 .none] 2, slots := #[] }
noncomputable def ho_37 : Obj := { cls := (.type "type"), dict := none, data := .cls { name := "DesignError", bases := [(qV 39)], mro := [(qV 52), (qV 39), (.type "Exception"), (.type "BaseException"), (.type "object")], ns := 51, qualname := "DesignError", hasDict := true, slotNames := [], subclasses := [], abstract := false, collection := none, hasDel := false }, slots := #[(some (qV 43)), none, (some (qS "DesignError" 232)), (some (qS "DesignError" 240)), (some (.builtin "Exception.__new__")), (some (.bool true))] }
noncomputable def ho_42 : Obj := { cls := (.type "type"), dict := none, data := .cls { name := "GateloomError", bases := [(.type "Exception")], mro := [(qV 39), (.type "Exception"), (.type "BaseException"), (.type "object")], ns := 38, qualname := "GateloomError", hasDict := true, slotNames := [], subclasses := [(qV 52), (qV 64)], abstract := false, collection := none, hasDel := false }, slots := #[(some (qV 22)), none, (some (qS "GateloomError" 196)), (some (qS "GateloomError" 204)), (some (.builtin "Exception.__new__")), (some (.bool true))] }
noncomputable def ho_52 : Obj := qC #[(qS "mask" 266), (qS "mask" 267), (qS "/claim/cut.py" 268), (qI 16), (qI 1), (qI 0), (qI 0), (qI 3), (qV 67), (.bool true), (qI 181), (qV 68), .none, (qV 69), (qV 70), (qV 71), (qI 270), (qI 16), (qS "/claim/cut.py" 271)]
noncomputable def ho_53 : Obj := qN (stm 6) "mask" .none (qS "gateloom.vec" 264) 72
noncomputable def ho_54 : Obj := qT #[(.int (0) 273)]
noncomputable def ho_57 : Obj := qC #[(qS "vec" 274), (qS "vec" 275), (qS "/claim/cut.py" 276), (qI 18), (qI 3), (qI 0), (qI 0), (qI 3), (qV 75), (.bool true), (qI 181), (qV 76), .none, (qV 77), (qV 78), (qV 79), (qI 281), (qI 18), (qS "/claim/cut.py" 282)]
noncomputable def ho_58 : Obj := qN (stm 7) "vec" (qV 74) (qS "gateloom.vec" 264) 80
noncomputable def ho_65 : Obj := qC #[(qS "all_x" 291), (qS "all_x" 292), (qS "/claim/cut.py" 293), (qI 23), (qI 1), (qI 0), (qI 0), (qI 3), (qV 89), (.bool true), (qI 181), (qV 90), .none, (qV 91), (qV 92), (qV 93), (qI 296), (qI 23), (qS "/claim/cut.py" 297)]
noncomputable def ho_66 : Obj := qN (stm 9) "all_x" .none (qS "gateloom.vec" 264) 94
noncomputable def ho_75 : Obj := qC #[(qS "from_int" 306), (qS "from_int" 307), (qS "/claim/cut.py" 308), (qI 28), (qI 2), (qI 0), (qI 0), (qI 3), (qV 103), (.bool true), (qI 181), (qV 104), .none, (qV 105), (qV 106), (qV 107), (qI 311), (qI 28), (qS "/claim/cut.py" 312)]
noncomputable def ho_76 : Obj := qN (stm 11) "from_int" .none (qS "gateloom.vec" 264) 108
noncomputable def ho_83 : Obj := qC #[(qS "to_int" 321), (qS "to_int" 322), (qS "/claim/cut.py" 323), (qI 32), (qI 2), (qI 0), (qI 0), (qI 3), (qV 117), (.bool true), (qI 181), (qV 118), .none, (qV 119), (qV 120), (qV 121), (qI 329), (qI 32), (qS "/claim/cut.py" 330)]
noncomputable def ho_84 : Obj := qN (stm 13) "to_int" .none (qS "gateloom.vec" 264) 122
noncomputable def ho_87 : Obj := qC #[(qS "code" 332), (qS "code" 333), (qS "/claim/cut.py" 334), (qI 39), (qI 2), (qI 0), (qI 0), (qI 3), (qV 124), (.bool true), (qI 181), (qV 125), .none, (qV 126), (qV 127), (qV 128), (qI 337), (qI 39), (qS "/claim/cut.py" 338)]
noncomputable def ho_88 : Obj := qN (stm 14) "code" .none (qS "gateloom.vec" 264) 129
noncomputable def ho_95 : Obj := qC #[(qS "put_slice" 356), (qS "put_slice" 357), (qS "/claim/cut.py" 358), (qI 52), (qI 3), (qI 0), (qI 0), (qI 3), (qV 138), (.bool true), (qI 181), (qV 139), .none, (qV 140), (qV 141), (qV 142), (qI 369), (qI 52), (qS "/claim/cut.py" 370)]
noncomputable def ho_96 : Obj := qN (stm 16) "put_slice" .none (qS "gateloom.vec" 264) 143
noncomputable def ho_99 : Obj := qC #[(qS "concat" 372), (qS "concat" 373), (qS "/claim/cut.py" 374), (qI 63), (qI 1), (qI 0), (qI 0), (qI 3), (qV 145), (.bool true), (qI 181), (qV 146), .none, (qV 147), (qV 148), (qV 149), (qI 380), (qI 63), (qS "/claim/cut.py" 381)]
noncomputable def ho_100 : Obj := qN (stm 17) "concat" .none (qS "gateloom.vec" 264) 150
noncomputable def ho_103 : Obj := qC #[(qS "extend" 383), (qS "extend" 384), (qS "/claim/cut.py" 385), (qI 72), (qI 3), (qI 0), (qI 0), (qI 3), (qV 152), (.bool true), (qI 181), (qV 153), .none, (qV 154), (qV 155), (qV 156), (qI 393), (qI 72), (qS "/claim/cut.py" 394)]
noncomputable def ho_104 : Obj := qN (stm 18) "extend" .none (qS "gateloom.vec" 264) 157
noncomputable def ho_121 : Obj := qC #[(qS "__init__" 424), (qS "Store.__init__" 425), (qS "/claim/cut.py" 426), (qI 93), (qI 2), (qI 0), (qI 0), (qI 3), (qV 180), (.bool true), (qI 181), (qV 181), .none, (qV 182), (qV 183), (qV 184), (qI 429), (qI 93), (qS "/claim/cut.py" 430)]
noncomputable def ho_122 : Obj := qN (met 22 0) "Store.__init__" .none (qS "gateloom.store" 410) 185
noncomputable def ho_125 : Obj := qC #[(qS "get" 432), (qS "Store.get" 433), (qS "/claim/cut.py" 434), (qI 99), (qI 2), (qI 0), (qI 0), (qI 3), (qV 187), (.bool true), (qI 181), (qV 188), .none, (qV 189), (qV 190), (qV 191), (qI 439), (qI 99), (qS "/claim/cut.py" 440)]
noncomputable def ho_126 : Obj := qN (met 22 1) "Store.get" .none (qS "gateloom.store" 410) 192
noncomputable def ho_133 : Obj := qC #[(qS "set_bits" 453), (qS "Store.set_bits" 454), (qS "/claim/cut.py" 455), (qI 116), (qI 5), (qI 0), (qI 0), (qI 3), (qV 201), (.bool true), (qI 181), (qV 202), .none, (qV 203), (qV 204), (qV 205), (qI 463), (qI 116), (qS "/claim/cut.py" 464)]
noncomputable def ho_134 : Obj := qN (met 22 3) "Store.set_bits" .none (qS "gateloom.store" 410) 206
noncomputable def ho_136 (P : Params) : Obj := { cls := (.type "dict"), dict := none, data := .dict #[dE P "__module__" 419 (qS "gateloom.store" 410), dE P "__firstlineno__" 423 (.int (91) 422), dE P "__init__" 431 (qV 186), dE P "get" 441 (qV 193), dE P "word" 452 (qV 200), dE P "set_bits" 465 (qV 207), dE P "__static_attributes__" 470 (qV 208), dE P "__dict__" 472 (qV 211), dE P "__weakref__" 474 (qV 212), dE P "__doc__" 475 .none] 4, slots := #[] }
noncomputable def ho_137 : Obj := { cls := (.type "type"), dict := none, data := .cls { name := "Store", bases := [(.type "object")], mro := [(qV 210), (.type "object")], ns := 209, qualname := "Store", hasDict := true, slotNames := [], subclasses := [], abstract := false, collection := none, hasDel := false }, slots := #[none, none, (some (qS "Store" 412)), (some (qS "Store" 420)), (some (.builtin "object.__new__")), (some (.bool true))] }
noncomputable def ho_148 : Obj := qT #[(.int (0) 490)]
noncomputable def ho_151 : Obj := qC #[(qS "__init__" 491), (qS "Context.__init__" 492), (qS "/claim/cut.py" 493), (qI 136), (qI 4), (qI 0), (qI 0), (qI 3), (qV 223), (.bool true), (qI 181), (qV 224), .none, (qV 225), (qV 226), (qV 227), (qI 498), (qI 136), (qS "/claim/cut.py" 499)]
noncomputable def ho_152 : Obj := qN (met 23 0) "Context.__init__" (qV 222) (qS "gateloom.store" 410) 228
noncomputable def ho_166 (P : Params) : Obj := { cls := (.type "dict"), dict := none, data := .dict #[dE P "__module__" 485 (qS "gateloom.store" 410), dE P "__firstlineno__" 489 (.int (134) 488), dE P "__init__" 500 (qV 229), dE P "call" 509 (qV 236), dE P "next_random" 517 (qV 243), dE P "time_vec" 525 (qV 250), dE P "__static_attributes__" 529 (qV 251), dE P "__dict__" 531 (qV 254), dE P "__weakref__" 533 (qV 255), dE P "__doc__" 534 .none] 4, slots := #[] }
noncomputable def ho_377 : Obj := qC #[(qS "evaluate" 1011), (qS "evaluate" 1012), (qS "/claim/cut.py" 1013), (qI 462), (qI 2), (qI 0), (qI 0), (qI 3), (qV 601), (.bool true), (qI 181), (qV 602), .none, .none, .none, (qV 603), (qI 1014), (qI 462), (qS "/claim/cut.py" 1015)]
noncomputable def ho_378 : Obj := qN (stm 77) "evaluate" .none (qS "gateloom.evaluate" 902) 604
noncomputable def ho_399 : Obj := { cls := (.type "type"), dict := none, data := .cls { name := "Context", bases := [(.type "object")], mro := [(qV 253), (.type "object")], ns := 252, qualname := "Context", hasDict := true, slotNames := [], subclasses := [(qV 677)], abstract := false, collection := none, hasDel := false }, slots := #[none, none, (some (qS "Context" 478)), (some (qS "Context" 486)), (some (.builtin "object.__new__")), (some (.bool true))] }
noncomputable def ho_426 (P : Params) : Obj := { cls := (.type "dict"), dict := none, data := .dict #[dE P "__module__" 1081 (qS "gateloom.funcs" 1070), dE P "__firstlineno__" 1085 (.int (535) 1084), dE P "__init__" 1098 (qV 648), dE P "call" 1110 (qV 655), dE P "new_frame" 1116 (qV 660), dE P "burn" 1123 (qV 667), dE P "is_true" 1131 (qV 674), dE P "__static_attributes__" 1137 (qV 675), dE P "__doc__" 1138 .none] 2, slots := #[] }
noncomputable def ho_427 : Obj := { cls := (.type "type"), dict := none, data := .cls { name := "FunctionContext", bases := [(qV 253)], mro := [(qV 677), (qV 253), (.type "object")], ns := 676, qualname := "FunctionContext", hasDict := true, slotNames := [], subclasses := [], abstract := false, collection := none, hasDel := false }, slots := #[(some (qV 634)), none, (some (qS "FunctionContext" 1074)), (some (qS "FunctionContext" 1082)), (some (.builtin "object.__new__")), (some (.bool true))] }
noncomputable def ho_462 : Obj := qC #[(qS "children" 1214), (qS "children" 1215), (qS "/claim/cut.py" 1216), (qI 653), (qI 1), (qI 0), (qI 0), (qI 3), (qV 729), (.bool true), (qI 181), (qV 730), .none, (qV 731), (qV 732), (qV 733), (qI 1219), (qI 653), (qS "/claim/cut.py" 1220)]
noncomputable def ho_463 : Obj := qN (stm 93) "children" .none (qS "gateloom.walks" 1212) 734
noncomputable def ho_514 : Obj := qC #[(qS "last_select" 1341), (qS "last_select" 1342), (qS "/claim/cut.py" 1343), (qI 792), (qI 1), (qI 0), (qI 0), (qI 3), (qV 816), (.bool true), (qI 181), (qV 817), .none, (qV 818), (qV 819), (qV 820), (qI 1347), (qI 792), (qS "/claim/cut.py" 1348)]
noncomputable def ho_515 : Obj := qN (stm 108) "last_select" .none (qS "gateloom.elabparts" 1337) 821
noncomputable def ho_518 : Obj := qC #[(qS "is_memory" 1350), (qS "is_memory" 1351), (qS "/claim/cut.py" 1352), (qI 797), (qI 2), (qI 0), (qI 0), (qI 3), (qV 823), (.bool true), (qI 181), (qV 824), .none, (qV 825), (qV 826), (qV 827), (qI 1355), (qI 797), (qS "/claim/cut.py" 1356)]
noncomputable def ho_519 : Obj := qN (stm 109) "is_memory" .none (qS "gateloom.elabparts" 1337) 828
noncomputable def ho_522 : Obj := qC #[(qS "shape" 1358), (qS "shape" 1359), (qS "/claim/cut.py" 1360), (qI 799), (qI 3), (qI 0), (qI 0), (qI 3), (qV 830), (.bool true), (qI 181), (qV 831), .none, (qV 832), (qV 833), (qV 834), (qI 1365), (qI 799), (qS "/claim/cut.py" 1366)]
noncomputable def ho_523 : Obj := qN (stm 110) "shape" .none (qS "gateloom.elabparts" 1337) 835
noncomputable def ho_526 : Obj := qC #[(qS "read_entry" 1368), (qS "read_entry" 1369), (qS "/claim/cut.py" 1370), (qI 812), (qI 3), (qI 0), (qI 0), (qI 3), (qV 837), (.bool true), (qI 181), (qV 838), .none, (qV 839), (qV 840), (qV 841), (qI 1375), (qI 812), (qS "/claim/cut.py" 1376)]
noncomputable def ho_527 : Obj := qN (stm 111) "read_entry" .none (qS "gateloom.elabparts" 1337) 842
noncomputable def ho_532 : Obj := qC #[(qS "folds" 1378), (qS "folds" 1379), (qS "/claim/cut.py" 1380), (qI 823), (qI 1), (qI 0), (qI 0), (qI 3), (qV 844), (.bool true), (qI 181), (qV 845), .none, (qV 846), (qV 847), (qV 848), (qI 1382), (qI 823), (qS "/claim/cut.py" 1383)]
noncomputable def ho_533 : Obj := qN (stm 112) "folds" .none (qS "gateloom.elabparts" 1337) 849
noncomputable def ho_536 : Obj := qC #[(qS "folded" 1385), (qS "folded" 1386), (qS "/claim/cut.py" 1387), (qI 827), (qI 1), (qI 0), (qI 0), (qI 3), (qV 851), (.bool true), (qI 181), (qV 852), .none, (qV 853), (qV 854), (qV 855), (qI 1390), (qI 827), (qS "/claim/cut.py" 1391)]
noncomputable def ho_537 : Obj := qN (stm 113) "folded" .none (qS "gateloom.elabparts" 1337) 856
noncomputable def ho_540 : Obj := qC #[(qS "checked_width" 1393), (qS "checked_width" 1394), (qS "/claim/cut.py" 1395), (qI 834), (qI 2), (qI 0), (qI 0), (qI 3), (qV 858), (.bool true), (qI 181), (qV 859), .none, (qV 860), (qV 861), (qV 862), (qI 1398), (qI 834), (qS "/claim/cut.py" 1399)]
noncomputable def ho_541 : Obj := qN (stm 114) "checked_width" .none (qS "gateloom.elabparts" 1337) 863
noncomputable def ho_548 : Obj := qC #[(qS "text_vec" 1410), (qS "text_vec" 1411), (qS "/claim/cut.py" 1412), (qI 844), (qI 1), (qI 0), (qI 0), (qI 3), (qV 872), (.bool true), (qI 181), (qV 873), .none, (qV 874), (qV 875), (qV 876), (qI 1416), (qI 844), (qS "/claim/cut.py" 1417)]
noncomputable def ho_549 : Obj := qN (stm 116) "text_vec" .none (qS "gateloom.elabparts" 1337) 877
noncomputable def ho_552 : Obj := qC #[(qS "inner_join" 1419), (qS "inner_join" 1420), (qS "/claim/cut.py" 1421), (qI 849), (qI 1), (qI 0), (qI 0), (qI 3), (qV 879), (.bool true), (qI 181), (qV 880), .none, (qV 881), (qV 882), (qV 883), (qI 1423), (qI 849), (qS "/claim/cut.py" 1424)]
noncomputable def ho_553 : Obj := qN (stm 117) "inner_join" .none (qS "gateloom.elabparts" 1337) 884
noncomputable def ho_564 : Obj := qC #[(qS "widen" 1440), (qS "widen" 1441), (qS "/claim/cut.py" 1442), (qI 855), (qI 3), (qI 0), (qI 0), (qI 3), (qV 900), (.bool true), (qI 181), (qV 901), .none, (qV 902), (qV 903), (qV 904), (qI 1446), (qI 855), (qS "/claim/cut.py" 1447)]
noncomputable def ho_565 : Obj := qN (stm 120) "widen" .none (qS "gateloom.elabparts" 1337) 905
noncomputable def ho_568 : Obj := qC #[(qS "number_value" 1449), (qS "number_value" 1450), (qS "/claim/cut.py" 1451), (qI 859), (qI 3), (qI 0), (qI 0), (qI 3), (qV 907), (.bool true), (qI 181), (qV 908), .none, (qV 909), (qV 910), (qV 911), (qI 1457), (qI 859), (qS "/claim/cut.py" 1458)]
noncomputable def ho_569 : Obj := qN (stm 121) "number_value" .none (qS "gateloom.elabparts" 1337) 912
noncomputable def ho_576 : Obj := qC #[(qS "path_names" 1475), (qS "path_names" 1476), (qS "/claim/cut.py" 1477), (qI 881), (qI 2), (qI 0), (qI 0), (qI 3), (qV 921), (.bool true), (qI 181), (qV 922), .none, (qV 923), (qV 924), (qV 925), (qI 1483), (qI 881), (qS "/claim/cut.py" 1484)]
noncomputable def ho_577 : Obj := qN (stm 124) "path_names" .none (qS "gateloom.elabexpr" 1473) 926
noncomputable def ho_582 : Obj := qC #[(qS "entry_of" 1486), (qS "entry_of" 1487), (qS "/claim/cut.py" 1488), (qI 888), (qI 2), (qI 0), (qI 0), (qI 3), (qV 928), (.bool true), (qI 181), (qV 929), .none, (qV 930), (qV 931), (qV 932), (qI 1492), (qI 888), (qS "/claim/cut.py" 1493)]
noncomputable def ho_583 : Obj := qN (stm 125) "entry_of" .none (qS "gateloom.elabexpr" 1473) 933
noncomputable def ho_598 : Obj := qC #[(qS "named_type" 1531), (qS "named_type" 1532), (qS "/claim/cut.py" 1533), (qI 933), (qI 2), (qI 0), (qI 0), (qI 3), (qV 956), (.bool true), (qI 181), (qV 957), .none, (qV 958), (qV 959), (qV 960), (qI 1538), (qI 933), (qS "/claim/cut.py" 1539)]
noncomputable def ho_599 : Obj := qN (stm 129) "named_type" .none (qS "gateloom.elabexpr" 1473) 961
noncomputable def ho_602 : Obj := qC #[(qS "named_value" 1541), (qS "named_value" 1542), (qS "/claim/cut.py" 1543), (qI 946), (qI 2), (qI 0), (qI 0), (qI 3), (qV 963), (.bool true), (qI 181), (qV 964), .none, (qV 965), (qV 966), (qV 967), (qI 1551), (qI 946), (qS "/claim/cut.py" 1552)]
noncomputable def ho_603 : Obj := qN (stm 130) "named_value" .none (qS "gateloom.elabexpr" 1473) 968
noncomputable def ho_606 : Obj := qC #[(qS "function_of" 1554), (qS "function_of" 1555), (qS "/claim/cut.py" 1556), (qI 965), (qI 2), (qI 0), (qI 0), (qI 3), (qV 970), (.bool true), (qI 181), (qV 971), .none, (qV 972), (qV 973), (qV 974), (qI 1561), (qI 965), (qS "/claim/cut.py" 1562)]
noncomputable def ho_607 : Obj := qN (stm 131) "function_of" .none (qS "gateloom.elabexpr" 1473) 975
noncomputable def ho_610 : Obj := qC #[(qS "call_value" 1564), (qS "call_value" 1565), (qS "/claim/cut.py" 1566), (qI 977), (qI 2), (qI 0), (qI 0), (qI 3), (qV 977), (.bool true), (qI 181), (qV 978), .none, (qV 979), (qV 980), (qV 981), (qI 1573), (qI 977), (qS "/claim/cut.py" 1574)]
noncomputable def ho_611 : Obj := qN (stm 132) "call_value" .none (qS "gateloom.elabexpr" 1473) 982
noncomputable def ho_622 : Obj := qC #[(qS "joined_parts" 1598), (qS "joined_parts" 1599), (qS "/claim/cut.py" 1600), (qI 1012), (qI 2), (qI 0), (qI 0), (qI 3), (qV 998), (.bool true), (qI 181), (qV 999), .none, (qV 1000), (qV 1001), (qV 1002), (qI 1605), (qI 1012), (qS "/claim/cut.py" 1606)]
noncomputable def ho_623 : Obj := qN (stm 136) "joined_parts" .none (qS "gateloom.elabexpr" 1473) 1003
noncomputable def ho_628 : Obj := qC #[(qS "copies" 1608), (qS "copies" 1609), (qS "/claim/cut.py" 1610), (qI 1022), (qI 2), (qI 0), (qI 0), (qI 3), (qV 1005), (.bool true), (qI 181), (qV 1006), .none, (qV 1007), (qV 1008), (qV 1009), (qI 1614), (qI 1022), (qS "/claim/cut.py" 1615)]
noncomputable def ho_629 : Obj := qN (stm 137) "copies" .none (qS "gateloom.elabexpr" 1473) 1010
noncomputable def ho_632 : Obj := qC #[(qS "joined_width" 1617), (qS "joined_width" 1618), (qS "/claim/cut.py" 1619), (qI 1027), (qI 2), (qI 0), (qI 0), (qI 3), (qV 1012), (.bool true), (qI 181), (qV 1013), .none, (qV 1014), (qV 1015), (qV 1016), (qI 1624), (qI 1027), (qS "/claim/cut.py" 1625)]
noncomputable def ho_633 : Obj := qN (stm 138) "joined_width" .none (qS "gateloom.elabexpr" 1473) 1017
noncomputable def ho_636 : Obj := qC #[(qS "joined_value" 1627), (qS "joined_value" 1628), (qS "/claim/cut.py" 1629), (qI 1034), (qI 2), (qI 0), (qI 0), (qI 3), (qV 1019), (.bool true), (qI 181), (qV 1020), .none, (qV 1021), (qV 1022), (qV 1023), (qI 1635), (qI 1034), (qS "/claim/cut.py" 1636)]
noncomputable def ho_637 : Obj := qN (stm 139) "joined_value" .none (qS "gateloom.elabexpr" 1473) 1024
noncomputable def ho_644 : Obj := qC #[(qS "expr_type" 1649), (qS "expr_type" 1650), (qS "/claim/cut.py" 1651), (qI 1046), (qI 2), (qI 0), (qI 0), (qI 3), (qV 1033), (.bool true), (qI 181), (qV 1034), .none, (qV 1035), (qV 1036), (qV 1037), (qI 1656), (qI 1046), (qS "/claim/cut.py" 1657)]
noncomputable def ho_645 : Obj := qN (stm 141) "expr_type" .none (qS "gateloom.elabexpr" 1473) 1038
noncomputable def ho_656 : Obj := qC #[(qS "build" 1686), (qS "build" 1687), (qS "/claim/cut.py" 1688), (qI 1100), (qI 4), (qI 0), (qI 0), (qI 3), (qV 1054), (.bool true), (qI 181), (qV 1055), .none, (qV 1056), (qV 1057), (qV 1058), (qI 1697), (qI 1100), (qS "/claim/cut.py" 1698)]
noncomputable def ho_657 : Obj := qN (stm 144) "build" .none (qS "gateloom.elabexpr" 1473) 1059
noncomputable def ho_660 : Obj := qC #[(qS "self_determined" 1700), (qS "self_determined" 1701), (qS "/claim/cut.py" 1702), (qI 1123), (qI 2), (qI 0), (qI 0), (qI 3), (qV 1061), (.bool true), (qI 181), (qV 1062), .none, (qV 1063), (qV 1064), (qV 1065), (qI 1707), (qI 1123), (qS "/claim/cut.py" 1708)]
noncomputable def ho_661 : Obj := qN (stm 145) "self_determined" .none (qS "gateloom.elabexpr" 1473) 1066
noncomputable def ho_664 : Obj := qC #[(qS "sized" 1710), (qS "sized" 1711), (qS "/claim/cut.py" 1712), (qI 1126), (qI 3), (qI 0), (qI 0), (qI 3), (qV 1068), (.bool true), (qI 181), (qV 1069), .none, (qV 1070), (qV 1071), (qV 1072), (qI 1718), (qI 1126), (qS "/claim/cut.py" 1719)]
noncomputable def ho_665 : Obj := qN (stm 146) "sized" .none (qS "gateloom.elabexpr" 1473) 1073
noncomputable def ho_668 : Obj := qC #[(qS "constant_vec" 1721), (qS "constant_vec" 1722), (qS "/claim/cut.py" 1723), (qI 1129), (qI 3), (qI 0), (qI 0), (qI 3), (qV 1075), (.bool true), (qI 181), (qV 1076), .none, (qV 1077), (qV 1078), (qV 1079), (qI 1728), (qI 1129), (qS "/claim/cut.py" 1729)]
noncomputable def ho_669 : Obj := qN (stm 147) "constant_vec" .none (qS "gateloom.elabexpr" 1473) 1080
noncomputable def ho_672 : Obj := qC #[(qS "constant" 1731), (qS "constant" 1732), (qS "/claim/cut.py" 1733), (qI 1136), (qI 2), (qI 0), (qI 0), (qI 3), (qV 1082), (.bool true), (qI 181), (qV 1083), .none, (qV 1084), (qV 1085), (qV 1086), (qI 1738), (qI 1136), (qS "/claim/cut.py" 1739)]
noncomputable def ho_673 : Obj := qN (stm 148) "constant" .none (qS "gateloom.elabexpr" 1473) 1087
noncomputable def ho_678 : Obj := qC #[(qS "whole" 1741), (qS "whole" 1742), (qS "/claim/cut.py" 1743), (qI 1139), (qI 2), (qI 0), (qI 0), (qI 3), (qV 1089), (.bool true), (qI 181), (qV 1090), .none, (qV 1091), (qV 1092), (qV 1093), (qI 1749), (qI 1139), (qS "/claim/cut.py" 1750)]
noncomputable def ho_679 : Obj := qN (stm 149) "whole" .none (qS "gateloom.elabexpr" 1473) 1094
noncomputable def ho_681 : Obj := qC #[(qS "net_kinds" 1754), (qS "net_kinds" 1755), (qS "/claim/cut.py" 1756), (qI 1146), (qI 0), (qI 0), (qI 0), (qI 3), (qV 1096), (.bool true), (qI 181), (qV 1097), .none, (qV 1098), (qV 1099), (qV 1100), (qI 1757), (qI 1146), (qS "/claim/cut.py" 1758)]
noncomputable def ho_682 : Obj := qN (stm 151) "net_kinds" .none (qS "gateloom.design" 1752) 1101
noncomputable def ho_691 : Obj := qC #[(qS "__init__" 1772), (qS "Signal.__init__" 1773), (qS "/claim/cut.py" 1774), (qI 1150), (qI 8), (qI 0), (qI 0), (qI 3), (qV 1110), (.bool true), (qI 181), (qV 1111), .none, (qV 1112), (qV 1113), (qV 1114), (qI 1783), (qI 1150), (qS "/claim/cut.py" 1784)]
noncomputable def ho_692 : Obj := qN (met 152 0) "Signal.__init__" .none (qS "gateloom.design" 1752) 1115
noncomputable def ho_695 : Obj := qC #[(qS "is_net" 1786), (qS "Signal.is_net" 1787), (qS "/claim/cut.py" 1788), (qI 1164), (qI 1), (qI 0), (qI 0), (qI 3), (qV 1117), (.bool true), (qI 181), (qV 1118), .none, (qV 1119), (qV 1120), (qV 1121), (qI 1790), (qI 1164), (qS "/claim/cut.py" 1791)]
noncomputable def ho_696 : Obj := qN (met 152 1) "Signal.is_net" .none (qS "gateloom.design" 1752) 1122
noncomputable def ho_699 : Obj := qC #[(qS "is_memory" 1793), (qS "Signal.is_memory" 1794), (qS "/claim/cut.py" 1795), (qI 1167), (qI 1), (qI 0), (qI 0), (qI 3), (qV 1124), (.bool true), (qI 181), (qV 1125), .none, (qV 1126), (qV 1127), (qV 1128), (qI 1797), (qI 1167), (qS "/claim/cut.py" 1798)]
noncomputable def ho_700 : Obj := qN (met 152 2) "Signal.is_memory" .none (qS "gateloom.design" 1752) 1129
noncomputable def ho_714 (P : Params) : Obj := { cls := (.type "dict"), dict := none, data := .dict #[dE P "__module__" 1767 (qS "gateloom.design" 1752), dE P "__firstlineno__" 1771 (.int (1148) 1770), dE P "__init__" 1785 (qV 1116), dE P "is_net" 1792 (qV 1123), dE P "is_memory" 1799 (qV 1130), dE P "words" 1806 (qV 1137), dE P "offset" 1815 (qV 1144), dE P "place" 1824 (qV 1151), dE P "__static_attributes__" 1837 (qV 1152), dE P "__dict__" 1839 (qV 1155), dE P "__weakref__" 1841 (qV 1156), dE P "__doc__" 1842 .none] 4, slots := #[] }
noncomputable def ho_715 : Obj := { cls := (.type "type"), dict := none, data := .cls { name := "Signal", bases := [(.type "object")], mro := [(qV 1154), (.type "object")], ns := 1153, qualname := "Signal", hasDict := true, slotNames := [], subclasses := [], abstract := false, collection := none, hasDel := false }, slots := #[none, none, (some (qS "Signal" 1760)), (some (qS "Signal" 1768)), (some (.builtin "object.__new__")), (some (.bool true))] }
noncomputable def ho_728 : Obj := qC #[(qS "__init__" 1857), (qS "Routine.__init__" 1858), (qS "/claim/cut.py" 1859), (qI 1196), (qI 6), (qI 0), (qI 0), (qI 3), (qV 1166), (.bool true), (qI 181), (qV 1167), .none, (qV 1168), (qV 1169), (qV 1170), (qI 1866), (qI 1196), (qS "/claim/cut.py" 1867)]
noncomputable def ho_729 : Obj := qN (met 153 0) "Routine.__init__" .none (qS "gateloom.design" 1752) 1171
noncomputable def ho_731 : Obj := qC #[(qS "inputs" 1869), (qS "Routine.inputs" 1870), (qS "/claim/cut.py" 1871), (qI 1212), (qI 1), (qI 0), (qI 0), (qI 3), (qV 1173), (.bool true), (qI 181), (qV 1174), .none, .none, .none, (qV 1175), (qI 1872), (qI 1212), (qS "/claim/cut.py" 1873)]
noncomputable def ho_732 : Obj := qN (met 153 1) "Routine.inputs" .none (qS "gateloom.design" 1752) 1176
noncomputable def ho_734 (P : Params) : Obj := { cls := (.type "dict"), dict := none, data := .dict #[dE P "__module__" 1852 (qS "gateloom.design" 1752), dE P "__firstlineno__" 1856 (.int (1194) 1855), dE P "__init__" 1868 (qV 1172), dE P "inputs" 1874 (qV 1177), dE P "__static_attributes__" 1889 (qV 1178), dE P "__dict__" 1891 (qV 1181), dE P "__weakref__" 1893 (qV 1182), dE P "__doc__" 1894 .none] 4, slots := #[] }
noncomputable def ho_735 : Obj := { cls := (.type "type"), dict := none, data := .cls { name := "Routine", bases := [(.type "object")], mro := [(qV 1180), (.type "object")], ns := 1179, qualname := "Routine", hasDict := true, slotNames := [], subclasses := [], abstract := false, collection := none, hasDel := false }, slots := #[none, none, (some (qS "Routine" 1845)), (some (qS "Routine" 1853)), (some (.builtin "object.__new__")), (some (.bool true))] }
noncomputable def ho_748 : Obj := qC #[(qS "__init__" 1909), (qS "Design.__init__" 1910), (qS "/claim/cut.py" 1911), (qI 1216), (qI 1), (qI 0), (qI 0), (qI 3), (qV 1192), (.bool true), (qI 181), (qV 1193), .none, (qV 1194), (qV 1195), (qV 1196), (qI 1913), (qI 1216), (qS "/claim/cut.py" 1914)]
noncomputable def ho_749 : Obj := qN (met 154 0) "Design.__init__" .none (qS "gateloom.design" 1752) 1197
noncomputable def ho_752 : Obj := qC #[(qS "add_signal" 1916), (qS "Design.add_signal" 1917), (qS "/claim/cut.py" 1918), (qI 1229), (qI 8), (qI 0), (qI 0), (qI 3), (qV 1199), (.bool true), (qI 181), (qV 1200), .none, (qV 1201), (qV 1202), (qV 1203), (qI 1928), (qI 1229), (qS "/claim/cut.py" 1929)]
noncomputable def ho_753 : Obj := qN (met 154 1) "Design.add_signal" .none (qS "gateloom.design" 1752) 1204
noncomputable def ho_756 : Obj := qC #[(qS "add_scope" 1931), (qS "Design.add_scope" 1932), (qS "/claim/cut.py" 1933), (qI 1236), (qI 2), (qI 0), (qI 0), (qI 3), (qV 1206), (.bool true), (qI 181), (qV 1207), .none, (qV 1208), (qV 1209), (qV 1210), (qI 1936), (qI 1236), (qS "/claim/cut.py" 1937)]
noncomputable def ho_757 : Obj := qN (met 154 2) "Design.add_scope" .none (qS "gateloom.design" 1752) 1211
noncomputable def ho_760 : Obj := qC #[(qS "add_routine" 1939), (qS "Design.add_routine" 1940), (qS "/claim/cut.py" 1941), (qI 1240), (qI 5), (qI 0), (qI 0), (qI 3), (qV 1213), (.bool true), (qI 181), (qV 1214), .none, (qV 1215), (qV 1216), (qV 1217), (qI 1948), (qI 1240), (qS "/claim/cut.py" 1949)]
noncomputable def ho_761 : Obj := qN (met 154 3) "Design.add_routine" .none (qS "gateloom.design" 1752) 1218
noncomputable def ho_775 (P : Params) : Obj := { cls := (.type "dict"), dict := none, data := .dict #[dE P "__module__" 1904 (qS "gateloom.design" 1752), dE P "__firstlineno__" 1908 (.int (1214) 1907), dE P "__init__" 1915 (qV 1198), dE P "add_signal" 1930 (qV 1205), dE P "add_scope" 1938 (qV 1212), dE P "add_routine" 1950 (qV 1219), dE P "add_process" 1961 (qV 1226), dE P "find" 1969 (qV 1233), dE P "routine" 1978 (qV 1240), dE P "__static_attributes__" 1990 (qV 1241), dE P "__dict__" 1992 (qV 1244), dE P "__weakref__" 1994 (qV 1245), dE P "__doc__" 1995 .none] 4, slots := #[] }
noncomputable def ho_776 : Obj := { cls := (.type "type"), dict := none, data := .cls { name := "Design", bases := [(.type "object")], mro := [(qV 1243), (.type "object")], ns := 1242, qualname := "Design", hasDict := true, slotNames := [], subclasses := [], abstract := false, collection := none, hasDel := false }, slots := #[none, none, (some (qS "Design" 1897)), (some (qS "Design" 1905)), (some (.builtin "object.__new__")), (some (.bool true))] }
noncomputable def ho_790 : Obj := qC #[(qS "__init__" 2012), (qS "Scope.__init__" 2013), (qS "/claim/cut.py" 2014), (qI 1261), (qI 5), (qI 0), (qI 0), (qI 3), (qV 1255), (.bool true), (qI 181), (qV 1256), .none, (qV 1257), (qV 1258), (qV 1259), (qI 2020), (qI 1261), (qS "/claim/cut.py" 2021)]
noncomputable def ho_791 : Obj := qN (met 156 0) "Scope.__init__" .none (qS "gateloom.scopes" 1998) 1260
noncomputable def ho_794 : Obj := qC #[(qS "child" 2023), (qS "Scope.child" 2024), (qS "/claim/cut.py" 2025), (qI 1275), (qI 4), (qI 0), (qI 0), (qI 3), (qV 1262), (.bool true), (qI 181), (qV 1263), .none, (qV 1264), (qV 1265), (qV 1266), (qI 2031), (qI 1275), (qS "/claim/cut.py" 2032)]
noncomputable def ho_795 : Obj := qN (met 156 1) "Scope.child" .none (qS "gateloom.scopes" 1998) 1267
noncomputable def ho_798 : Obj := qC #[(qS "declare" 2034), (qS "Scope.declare" 2035), (qS "/claim/cut.py" 2036), (qI 1280), (qI 4), (qI 0), (qI 0), (qI 3), (qV 1269), (.bool true), (qI 181), (qV 1270), .none, (qV 1271), (qV 1272), (qV 1273), (qI 2041), (qI 1280), (qS "/claim/cut.py" 2042)]
noncomputable def ho_799 : Obj := qN (met 156 2) "Scope.declare" .none (qS "gateloom.scopes" 1998) 1274
noncomputable def ho_806 : Obj := qC #[(qS "lookup" 2051), (qS "Scope.lookup" 2052), (qS "/claim/cut.py" 2053), (qI 1288), (qI 2), (qI 0), (qI 0), (qI 3), (qV 1283), (.bool true), (qI 181), (qV 1284), .none, (qV 1285), (qV 1286), (qV 1287), (qI 2057), (qI 1288), (qS "/claim/cut.py" 2058)]
noncomputable def ho_807 : Obj := qN (met 156 4) "Scope.lookup" .none (qS "gateloom.scopes" 1998) 1288
noncomputable def ho_810 : Obj := qC #[(qS "lookup_routine" 2060), (qS "Scope.lookup_routine" 2061), (qS "/claim/cut.py" 2062), (qI 1298), (qI 2), (qI 0), (qI 0), (qI 3), (qV 1290), (.bool true), (qI 181), (qV 1291), .none, (qV 1292), (qV 1293), (qV 1294), (qI 2067), (qI 1298), (qS "/claim/cut.py" 2068)]
noncomputable def ho_811 : Obj := qN (met 156 5) "Scope.lookup_routine" .none (qS "gateloom.scopes" 1998) 1295
noncomputable def ho_814 : Obj := qC #[(qS "descend" 2070), (qS "Scope.descend" 2071), (qS "/claim/cut.py" 2072), (qI 1309), (qI 2), (qI 0), (qI 0), (qI 3), (qV 1297), (.bool true), (qI 181), (qV 1298), .none, (qV 1299), (qV 1300), (qV 1301), (qI 2078), (qI 1309), (qS "/claim/cut.py" 2079)]
noncomputable def ho_815 : Obj := qN (met 156 6) "Scope.descend" .none (qS "gateloom.scopes" 1998) 1302
noncomputable def ho_818 : Obj := qC #[(qS "resolve" 2081), (qS "Scope.resolve" 2082), (qS "/claim/cut.py" 2083), (qI 1321), (qI 3), (qI 0), (qI 0), (qI 3), (qV 1304), (.bool true), (qI 181), (qV 1305), .none, (qV 1306), (qV 1307), (qV 1308), (qI 2089), (qI 1321), (qS "/claim/cut.py" 2090)]
noncomputable def ho_819 : Obj := qN (met 156 7) "Scope.resolve" .none (qS "gateloom.scopes" 1998) 1309
noncomputable def ho_822 : Obj := qC #[(qS "answers_to" 2092), (qS "Scope.answers_to" 2093), (qS "/claim/cut.py" 2094), (qI 1332), (qI 2), (qI 0), (qI 0), (qI 3), (qV 1311), (.bool true), (qI 181), (qV 1312), .none, (qV 1313), (qV 1314), (qV 1315), (qI 2097), (qI 1332), (qS "/claim/cut.py" 2098)]
noncomputable def ho_823 : Obj := qN (met 156 8) "Scope.answers_to" .none (qS "gateloom.scopes" 1998) 1316
noncomputable def ho_825 (P : Params) : Obj := { cls := (.type "dict"), dict := none, data := .dict #[dE P "__module__" 2007 (qS "gateloom.scopes" 1998), dE P "__firstlineno__" 2011 (.int (1259) 2010), dE P "__init__" 2022 (qV 1261), dE P "child" 2033 (qV 1268), dE P "declare" 2043 (qV 1275), dE P "module_scope" 2050 (qV 1282), dE P "lookup" 2059 (qV 1289), dE P "lookup_routine" 2069 (qV 1296), dE P "descend" 2080 (qV 1303), dE P "resolve" 2091 (qV 1310), dE P "answers_to" 2099 (qV 1317), dE P "__static_attributes__" 2109 (qV 1318), dE P "__dict__" 2111 (qV 1321), dE P "__weakref__" 2113 (qV 1322), dE P "__doc__" 2114 .none] 4, slots := #[] }
noncomputable def ho_826 : Obj := { cls := (.type "type"), dict := none, data := .cls { name := "Scope", bases := [(.type "object")], mro := [(qV 1320), (.type "object")], ns := 1319, qualname := "Scope", hasDict := true, slotNames := [], subclasses := [], abstract := false, collection := none, hasDel := false }, slots := #[none, none, (some (qS "Scope" 2000)), (some (qS "Scope" 2008)), (some (.builtin "object.__new__")), (some (.bool true))] }
noncomputable def ho_835 : Obj := qC #[(qS "_law_row" 2119), (qS "_law_row" 2120), (qS "/claim/cut.py" 2121), (qI 1335), (qI 1), (qI 0), (qI 0), (qI 3), (qV 1325), (.bool true), (qI 181), (qV 1326), .none, (qV 1327), (qV 1328), (qV 1329), (qI 2127), (qI 1335), (qS "/claim/cut.py" 2128)]
noncomputable def ho_836 : Obj := qN (stm 158) "_law_row" .none (qS "law_nn0344_04" 2117) 1330
noncomputable def ho_839 : Obj := qC #[(qS "_law_next" 2130), (qS "_law_next" 2131), (qS "/claim/cut.py" 2132), (qI 1348), (qI 1), (qI 0), (qI 0), (qI 3), (qV 1332), (.bool true), (qI 181), (qV 1333), .none, (qV 1334), (qV 1335), (qV 1336), (qI 2134), (qI 1348), (qS "/claim/cut.py" 2135)]
noncomputable def ho_840 : Obj := qN (stm 159) "_law_next" .none (qS "law_nn0344_04" 2117) 1337
noncomputable def ho_843 : Obj := qC #[(qS "_law_bits" 2137), (qS "_law_bits" 2138), (qS "/claim/cut.py" 2139), (qI 1350), (qI 2), (qI 0), (qI 0), (qI 3), (qV 1339), (.bool true), (qI 181), (qV 1340), .none, (qV 1341), (qV 1342), (qV 1343), (qI 2146), (qI 1350), (qS "/claim/cut.py" 2147)]
noncomputable def ho_844 : Obj := qN (stm 160) "_law_bits" .none (qS "law_nn0344_04" 2117) 1344
noncomputable def ho_847 : Obj := qC #[(qS "_law_made" 2149), (qS "_law_made" 2150), (qS "/claim/cut.py" 2151), (qI 1358), (qI 1), (qI 0), (qI 0), (qI 3), (qV 1346), (.bool true), (qI 181), (qV 1347), .none, (qV 1348), (qV 1349), (qV 1350), (qI 2156), (qI 1358), (qS "/claim/cut.py" 2157)]
noncomputable def ho_848 : Obj := qN (stm 161) "_law_made" .none (qS "law_nn0344_04" 2117) 1351
noncomputable def ho_851 : Obj := qC #[(qS "_law_number" 2159), (qS "_law_number" 2160), (qS "/claim/cut.py" 2161), (qI 1365), (qI 1), (qI 0), (qI 0), (qI 3), (qV 1353), (.bool true), (qI 181), (qV 1354), .none, (qV 1355), (qV 1356), (qV 1357), (qI 2165), (qI 1365), (qS "/claim/cut.py" 2166)]
noncomputable def ho_852 : Obj := qN (stm 162) "_law_number" .none (qS "law_nn0344_04" 2117) 1358
noncomputable def ho_855 : Obj := qC #[(qS "_law_small" 2168), (qS "_law_small" 2169), (qS "/claim/cut.py" 2170), (qI 1369), (qI 1), (qI 0), (qI 0), (qI 3), (qV 1360), (.bool true), (qI 181), (qV 1361), .none, (qV 1362), (qV 1363), (qV 1364), (qI 2172), (qI 1369), (qS "/claim/cut.py" 2173)]
noncomputable def ho_856 : Obj := qN (stm 163) "_law_small" .none (qS "law_nn0344_04" 2117) 1365
noncomputable def ho_859 : Obj := qC #[(qS "_law_joined" 2175), (qS "_law_joined" 2176), (qS "/claim/cut.py" 2177), (qI 1371), (qI 1), (qI 0), (qI 0), (qI 3), (qV 1367), (.bool true), (qI 181), (qV 1368), .none, (qV 1369), (qV 1370), (qV 1371), (qI 2188), (qI 1371), (qS "/claim/cut.py" 2189)]
noncomputable def ho_860 : Obj := qN (stm 164) "_law_joined" .none (qS "law_nn0344_04" 2117) 1372
noncomputable def ho_862 : Obj := qC #[(qS "_law_text" 2191), (qS "_law_text" 2192), (qS "/claim/cut.py" 2193), (qI 1399), (qI 1), (qI 0), (qI 0), (qI 3), (qV 1374), (.bool true), (qI 181), (qV 1375), .none, .none, .none, (qV 1376), (qI 2194), (qI 1399), (qS "/claim/cut.py" 2195)]
noncomputable def ho_863 : Obj := qN (stm 165) "_law_text" .none (qS "law_nn0344_04" 2117) 1377
noncomputable def ho_866 : Obj := qC #[(qS "_law_call" 2197), (qS "_law_call" 2198), (qS "/claim/cut.py" 2199), (qI 1406), (qI 2), (qI 0), (qI 0), (qI 3), (qV 1379), (.bool true), (qI 181), (qV 1380), .none, (qV 1381), (qV 1382), (qV 1383), (qI 2211), (qI 1406), (qS "/claim/cut.py" 2212)]
noncomputable def ho_867 : Obj := qN (stm 166) "_law_call" .none (qS "law_nn0344_04" 2117) 1384
noncomputable def ho_869 : Obj := qC #[(qS "_law_name" 2214), (qS "_law_name" 2215), (qS "/claim/cut.py" 2216), (qI 1427), (qI 2), (qI 0), (qI 0), (qI 3), (qV 1386), (.bool true), (qI 181), (qV 1387), .none, .none, .none, (qV 1388), (qI 2217), (qI 1427), (qS "/claim/cut.py" 2218)]
noncomputable def ho_870 : Obj := qN (stm 167) "_law_name" .none (qS "law_nn0344_04" 2117) 1389
noncomputable def ho_872 : Obj := qC #[(qS "law" 2220), (qS "law" 2221), (qS "/claim/cut.py" 2222), (qI 1440), (qI 1), (qI 0), (qI 0), (qI 3), (qV 1391), (.bool true), (qI 181), (qV 1392), .none, .none, .none, (qV 1393), (qI 2223), (qI 1440), (qS "/claim/cut.py" 2224)]
noncomputable def ho_873 : Obj := qN (stm 168) "law" .none (qS "law_nn0344_04" 2117) 1394
noncomputable def tr_0 (P : Params) : BT := insF .nil 0 [boot_o_0 P, boot_o_1 P, boot_o_2 P, boot_o_3 P, boot_o_4 P, boot_o_5 P, boot_o_6 P, boot_o_7 P, boot_o_8 P, boot_o_9 P, boot_o_10 P, ho_0, { cls := .none, dict := none, data := .fields (hf_12.take 0).toArray, slots := #[] }, qC #[(qS "<module>" 182), (qS "<module>" 183), (qS "/claim/cut.py" 184), (qI 1), (qI 0), (qI 0), (qI 0), (qI 0), (qV 11), (.bool false), (qI 181), (qV 12), .none, .none, .none, .none, (qI 185), (qI 1), (qS "/claim/cut.py" 186)], { cls := (.type "frame"), dict := none, data := .plain, slots := #[(some (qV 13)), (some (qV 3)), (some (qV 3)), none, (some (qS "__main__" 164)), none, (some (qV 0))] }]
noncomputable def tr_1 (P : Params) : BT := insF ((((tr_0 P).ins 2 ({ cls := .none, dict := none, data := .dict #[dE P "type.__subclasses__.Exception.0" 228 (qI 39), dE P "type.__subclasses__.Exception.n" 229 (qI 1)] 2, slots := #[] })).ins 3 ({ cls := (.type "dict"), dict := none, data := .dict (((hd_3 P).take 11).set 0 (dE P "__name__" 165 (qS "gateloom.errors" 194))).toArray 11, slots := #[] })).ins 12 ({ cls := .none, dict := none, data := .fields (hf_12.take 6).toArray, slots := #[] })) 15 [ho_0, ho_7, qT #[(qS "k" 190)], ho_0, qR (stm 0) "_wall", qC #[(qS "_wall" 187), (qS "_wall" 188), (qS "/claim/cut.py" 189), (qI 1), (qI 1), (qI 0), (qI 0), (qI 3), (qV 15), (.bool true), (qI 181), (qV 16), .none, (qV 17), (qV 18), (qV 19), (qI 191), (qI 1), (qS "/claim/cut.py" 192)], qN (stm 0) "_wall" .none (qS "__main__" 164) 20, qT #[(.type "Exception")], ho_13, { cls := (.type "dict"), dict := none, data := .dict #[dE P "__module__" 203 (qS "gateloom.errors" 194), dE P "__qualname__" 205 (qS "GateloomError" 204), dE P "__firstlineno__" 207 (.int (5) 206), dE P "__init__" 220 (qV 36), dE P "__static_attributes__" 224 (qV 37)] 5, slots := #[] }, ho_0, qF #[(qI 7), (qI 4), (qV 35)], qC #[(qS "GateloomError" 198), (qS "GateloomError" 199), (qS "/claim/cut.py" 200), (qI 5), (qI 0), (qI 0), (qI 0), (qI 0), (qV 25), (.bool false), (qI 181), (qV 26), .none, .none, .none, .none, (qI 201), (qI 5), (qS "/claim/cut.py" 202)], { cls := (.type "frame"), dict := none, data := .plain, slots := #[(some (qV 27)), (some (qV 3)), (some (qV 24)), none, (some (qS "gateloom.errors" 194)), none, (some (qV 0))] }, ho_18, ho_0, ho_7, qT #[(qS "self" 214), (qS "kind" 215), (qS "at" 216), (qS "detail" 217)], ho_0, qR (met 2 0) "GateloomError.__init__", ho_21, ho_22, qT #[(qS "at" 221), (qS "detail" 222), (qS "kind" 223)], ho_24 P, { cls := (.type "type"), dict := none, data := .cls { name := "GateloomError", bases := [(.type "Exception")], mro := [(qV 39), (.type "Exception"), (.type "BaseException"), (.type "object")], ns := 38, qualname := "GateloomError", hasDict := true, slotNames := [], subclasses := [], abstract := false, collection := none, hasDel := false }, slots := #[(some (qV 22)), none, (some (qS "GateloomError" 196)), (some (qS "GateloomError" 204)), (some (.builtin "Exception.__new__")), (some (.bool true))] }, { cls := (.type "getset_descriptor"), dict := none, data := .fields #[(qS "__weakref__" 225), (qV 39), (.builtin "ExceptionGroup.__weakref__"), .none], slots := #[] }, { cls := (.type "super"), dict := none, data := .fields #[(qV 39), (qV 39), (qV 39)], slots := #[] }, { cls := (.type "builtin_function_or_method"), dict := none, data := .fields #[(.builtin "object.__init_subclass__"), (qV 39)], slots := #[] }]
noncomputable def tr_2 (P : Params) : BT := insF ((((tr_1 P).ins 3 ({ cls := (.type "dict"), dict := none, data := .dict (((hd_3 P).take 12).set 0 (dE P "__name__" 165 (qS "gateloom.errors" 194))).toArray 12, slots := #[] })).ins 12 ({ cls := .none, dict := none, data := .fields (hf_12.take 9).toArray, slots := #[] })).ins 39 ({ cls := (.type "type"), dict := none, data := .cls { name := "GateloomError", bases := [(.type "Exception")], mro := [(qV 39), (.type "Exception"), (.type "BaseException"), (.type "object")], ns := 38, qualname := "GateloomError", hasDict := true, slotNames := [], subclasses := [(qV 52)], abstract := false, collection := none, hasDel := false }, slots := #[(some (qV 22)), none, (some (qS "GateloomError" 196)), (some (qS "GateloomError" 204)), (some (.builtin "Exception.__new__")), (some (.bool true))] })) 43 [ho_32, ho_13, { cls := (.type "dict"), dict := none, data := .dict #[dE P "__module__" 239 (qS "gateloom.errors" 194), dE P "__qualname__" 241 (qS "DesignError" 240), dE P "__firstlineno__" 243 (.int (11) 242), dE P "__static_attributes__" 244 (qV 50)] 4, slots := #[] }, ho_0, ho_7, qC #[(qS "DesignError" 234), (qS "DesignError" 235), (qS "/claim/cut.py" 236), (qI 11), (qI 0), (qI 0), (qI 0), (qI 0), (qV 46), (.bool false), (qI 181), (qV 47), .none, .none, .none, .none, (qI 237), (qI 11), (qS "/claim/cut.py" 238)], { cls := (.type "frame"), dict := none, data := .plain, slots := #[(some (qV 48)), (some (qV 3)), (some (qV 45)), none, (some (qS "gateloom.errors" 194)), none, (some (qV 0))] }, ho_0, ho_36 P, ho_37, { cls := (.type "super"), dict := none, data := .fields #[(qV 52), (qV 52), (qV 52)], slots := #[] }, { cls := (.type "builtin_function_or_method"), dict := none, data := .fields #[(.builtin "object.__init_subclass__"), (qV 52)], slots := #[] }]
noncomputable def tr_3 (P : Params) : BT := insF ((((tr_2 P).ins 3 ({ cls := (.type "dict"), dict := none, data := .dict (((hd_3 P).take 18).set 0 (dE P "__name__" 165 (qS "gateloom.vec" 264))).toArray 18, slots := #[] })).ins 12 ({ cls := .none, dict := none, data := .fields (hf_12.take 27).toArray, slots := #[] })).ins 39 (ho_42)) 55 [ho_32, ho_13, { cls := (.type "dict"), dict := none, data := .dict #[dE P "__module__" 255 (qS "gateloom.errors" 194), dE P "__qualname__" 257 (qS "LimitReached" 256), dE P "__firstlineno__" 259 (.int (13) 258), dE P "__static_attributes__" 260 (qV 62)] 4, slots := #[] }, ho_0, ho_7, qC #[(qS "LimitReached" 250), (qS "LimitReached" 251), (qS "/claim/cut.py" 252), (qI 13), (qI 0), (qI 0), (qI 0), (qI 0), (qV 58), (.bool false), (qI 181), (qV 59), .none, .none, .none, .none, (qI 253), (qI 13), (qS "/claim/cut.py" 254)], { cls := (.type "frame"), dict := none, data := .plain, slots := #[(some (qV 60)), (some (qV 3)), (some (qV 57)), none, (some (qS "gateloom.errors" 194)), none, (some (qV 0))] }, ho_0, { cls := (.type "dict"), dict := none, data := .dict #[dE P "__module__" 255 (qS "gateloom.errors" 194), dE P "__firstlineno__" 259 (.int (13) 258), dE P "__static_attributes__" 260 (qV 62), dE P "__doc__" 261 .none] 2, slots := #[] }, { cls := (.type "type"), dict := none, data := .cls { name := "LimitReached", bases := [(qV 39)], mro := [(qV 64), (qV 39), (.type "Exception"), (.type "BaseException"), (.type "object")], ns := 63, qualname := "LimitReached", hasDict := true, slotNames := [], subclasses := [], abstract := false, collection := none, hasDel := false }, slots := #[(some (qV 55)), none, (some (qS "LimitReached" 248)), (some (qS "LimitReached" 256)), (some (.builtin "Exception.__new__")), (some (.bool true))] }, { cls := (.type "super"), dict := none, data := .fields #[(qV 64), (qV 64), (qV 64)], slots := #[] }, { cls := (.type "builtin_function_or_method"), dict := none, data := .fields #[(.builtin "object.__init_subclass__"), (qV 64)], slots := #[] }, ho_0, ho_7, qT #[(qS "w" 269)], ho_0, qR (stm 6) "mask", ho_52, ho_53, ho_54, ho_0, ho_7, qT #[(qS "w" 277), (qS "a" 278), (qS "b" 279), (qS "full" 280)], ho_0, qR (stm 7) "vec", ho_57, ho_58, ho_0, ho_7, qT #[(qS "w" 287)], ho_0, qR (stm 8) "zeros", qC #[(qS "zeros" 284), (qS "zeros" 285), (qS "/claim/cut.py" 286), (qI 21), (qI 1), (qI 0), (qI 0), (qI 3), (qV 82), (.bool true), (qI 181), (qV 83), .none, (qV 84), (qV 85), (qV 86), (qI 288), (qI 21), (qS "/claim/cut.py" 289)], qN (stm 8) "zeros" .none (qS "gateloom.vec" 264) 87, ho_0, ho_7, qT #[(qS "w" 294), (qS "full" 295)], ho_0, qR (stm 9) "all_x", ho_65, ho_66, ho_0, ho_7, qT #[(qS "w" 302)], ho_0, qR (stm 10) "all_z", qC #[(qS "all_z" 299), (qS "all_z" 300), (qS "/claim/cut.py" 301), (qI 26), (qI 1), (qI 0), (qI 0), (qI 3), (qV 96), (.bool true), (qI 181), (qV 97), .none, (qV 98), (qV 99), (qV 100), (qI 303), (qI 26), (qS "/claim/cut.py" 304)], qN (stm 10) "all_z" .none (qS "gateloom.vec" 264) 101]
noncomputable def tr_4 (P : Params) : BT := insF (((tr_3 P).ins 3 ({ cls := (.type "dict"), dict := none, data := .dict (((hd_3 P).take 28).set 0 (dE P "__name__" 165 (qS "gateloom.store" 410))).toArray 28, slots := #[] })).ins 12 ({ cls := .none, dict := none, data := .fields (hf_12.take 57).toArray, slots := #[] })) 103 [ho_0, ho_7, qT #[(qS "w" 309), (qS "n" 310)], ho_0, qR (stm 11) "from_int", ho_75, ho_76, ho_0, ho_7, qT #[(qS "v" 317)], ho_0, qR (stm 12) "is_known", qC #[(qS "is_known" 314), (qS "is_known" 315), (qS "/claim/cut.py" 316), (qI 30), (qI 1), (qI 0), (qI 0), (qI 3), (qV 110), (.bool true), (qI 181), (qV 111), .none, (qV 112), (qV 113), (qV 114), (qI 318), (qI 30), (qS "/claim/cut.py" 319)], qN (stm 12) "is_known" .none (qS "gateloom.vec" 264) 115, ho_0, ho_7, qT #[(qS "v" 324), (qS "signed" 325), (qS "w" 326), (qS "a" 327), (qS "b" 328)], ho_0, qR (stm 13) "to_int", ho_83, ho_84, ho_0, ho_7, qT #[(qS "v" 335), (qS "i" 336)], ho_0, qR (stm 14) "code", ho_87, ho_88, ho_0, ho_7, qT #[(qS "v" 343), (qS "lo" 344), (qS "w" 345), (qS "first" 346), (qS "last" 347), (qS "inner" 348), (qS "shift" 349), (qS "outside" 350), (qS "a" 351), (qS "b" 352)], ho_0, qR (stm 15) "slice_vec", qC #[(qS "slice_vec" 340), (qS "slice_vec" 341), (qS "/claim/cut.py" 342), (qI 41), (qI 3), (qI 0), (qI 0), (qI 3), (qV 131), (.bool true), (qI 181), (qV 132), .none, (qV 133), (qV 134), (qV 135), (qI 353), (qI 41), (qS "/claim/cut.py" 354)], qN (stm 15) "slice_vec" .none (qS "gateloom.vec" 264) 136, ho_0, ho_7, qT #[(qS "v" 359), (qS "lo" 360), (qS "part" 361), (qS "first" 362), (qS "last" 363), (qS "inner" 364), (qS "skip" 365), (qS "keep" 366), (qS "a" 367), (qS "b" 368)], ho_0, qR (stm 16) "put_slice", ho_95, ho_96, ho_0, ho_7, qT #[(qS "vs" 375), (qS "w" 376), (qS "a" 377), (qS "b" 378), (qS "v" 379)], ho_0, qR (stm 17) "concat", ho_99, ho_100, ho_0, ho_7, qT #[(qS "v" 386), (qS "w" 387), (qS "signed" 388), (qS "fill" 389), (qS "top" 390), (qS "a" 391), (qS "b" 392)], ho_0, qR (stm 18) "extend", ho_103, ho_104, ho_0, ho_7, qT #[(qS "v" 399)], ho_0, qR (stm 19) "z_to_x", qC #[(qS "z_to_x" 396), (qS "z_to_x" 397), (qS "/claim/cut.py" 398), (qI 82), (qI 1), (qI 0), (qI 0), (qI 3), (qV 159), (.bool true), (qI 181), (qV 160), .none, (qV 161), (qV 162), (qV 163), (qI 400), (qI 82), (qS "/claim/cut.py" 401)], qN (stm 19) "z_to_x" .none (qS "gateloom.vec" 264) 164, ho_0, ho_7, qT #[(qS "v" 406)], ho_0, qR (stm 20) "truth", qC #[(qS "truth" 403), (qS "truth" 404), (qS "/claim/cut.py" 405), (qI 84), (qI 1), (qI 0), (qI 0), (qI 3), (qV 166), (.bool true), (qI 181), (qV 167), .none, (qV 168), (qV 169), (qV 170), (qI 407), (qI 84), (qS "/claim/cut.py" 408)], qN (stm 20) "truth" .none (qS "gateloom.vec" 264) 171]
noncomputable def tr_5 (P : Params) : BT := insF (((tr_4 P).ins 3 ({ cls := (.type "dict"), dict := none, data := .dict (((hd_3 P).take 29).set 0 (dE P "__name__" 165 (qS "gateloom.store" 410))).toArray 29, slots := #[] })).ins 12 ({ cls := .none, dict := none, data := .fields (hf_12.take 60).toArray, slots := #[] })) 173 [ho_0, ho_13, { cls := (.type "dict"), dict := none, data := .dict #[dE P "__module__" 419 (qS "gateloom.store" 410), dE P "__qualname__" 421 (qS "Store" 420), dE P "__firstlineno__" 423 (.int (91) 422), dE P "__init__" 431 (qV 186), dE P "get" 441 (qV 193), dE P "word" 452 (qV 200), dE P "set_bits" 465 (qV 207), dE P "__static_attributes__" 470 (qV 208)] 8, slots := #[] }, ho_0, qF #[(qI 93), (qI 4), (qV 185), (qI 99), (qI 4), (qV 192), (qI 108), (qI 4), (qV 199), (qI 116), (qI 4), (qV 206)], qC #[(qS "Store" 414), (qS "Store" 415), (qS "/claim/cut.py" 416), (qI 91), (qI 0), (qI 0), (qI 0), (qI 0), (qV 176), (.bool false), (qI 181), (qV 177), .none, .none, .none, .none, (qI 417), (qI 91), (qS "/claim/cut.py" 418)], { cls := (.type "frame"), dict := none, data := .plain, slots := #[(some (qV 178)), (some (qV 3)), (some (qV 175)), none, (some (qS "gateloom.store" 410)), none, (some (qV 0))] }, ho_0, ho_7, qT #[(qS "self" 427), (qS "signals" 428)], ho_0, qR (met 22 0) "Store.__init__", ho_121, ho_122, ho_0, ho_7, qT #[(qS "self" 435), (qS "key" 436), (qS "value" 437), (qS "signal" 438)], ho_0, qR (met 22 1) "Store.get", ho_125, ho_126, ho_0, ho_7, qT #[(qS "self" 445), (qS "key" 446), (qS "place" 447), (qS "words" 448), (qS "value" 449)], ho_0, qR (met 22 2) "Store.word", qC #[(qS "word" 442), (qS "Store.word" 443), (qS "/claim/cut.py" 444), (qI 108), (qI 3), (qI 0), (qI 0), (qI 3), (qV 194), (.bool true), (qI 181), (qV 195), .none, (qV 196), (qV 197), (qV 198), (qI 450), (qI 108), (qS "/claim/cut.py" 451)], qN (met 22 2) "Store.word" .none (qS "gateloom.store" 410) 199, ho_0, ho_7, qT #[(qS "self" 456), (qS "key" 457), (qS "place" 458), (qS "lo" 459), (qS "value" 460), (qS "old" 461), (qS "new" 462)], ho_0, qR (met 22 3) "Store.set_bits", ho_133, ho_134, qT #[(qS "memories" 466), (qS "random_seed" 467), (qS "signals" 468), (qS "values" 469)], ho_136 P, ho_137, { cls := (.type "getset_descriptor"), dict := none, data := .fields #[(qS "__dict__" 471), (qV 210), (.builtin "function.__dict__"), (.builtin "function.__dict__#set")], slots := #[] }, { cls := (.type "getset_descriptor"), dict := none, data := .fields #[(qS "__weakref__" 473), (qV 210), (.builtin "ExceptionGroup.__weakref__"), .none], slots := #[] }, { cls := (.type "super"), dict := none, data := .fields #[(qV 210), (qV 210), (qV 210)], slots := #[] }, { cls := (.type "builtin_function_or_method"), dict := none, data := .fields #[(.builtin "object.__init_subclass__"), (qV 210)], slots := #[] }]
noncomputable def tr_6 (P : Params) : BT := insF (((tr_5 P).ins 3 ({ cls := (.type "dict"), dict := none, data := .dict (((hd_3 P).take 32).set 0 (dE P "__name__" 165 (qS "gateloom.vecarith" 537))).toArray 32, slots := #[] })).ins 12 ({ cls := .none, dict := none, data := .fields (hf_12.take 69).toArray, slots := #[] })) 215 [ho_0, ho_13, { cls := (.type "dict"), dict := none, data := .dict #[dE P "__module__" 485 (qS "gateloom.store" 410), dE P "__qualname__" 487 (qS "Context" 486), dE P "__firstlineno__" 489 (.int (134) 488), dE P "__init__" 500 (qV 229), dE P "call" 509 (qV 236), dE P "next_random" 517 (qV 243), dE P "time_vec" 525 (qV 250), dE P "__static_attributes__" 529 (qV 251)] 8, slots := #[] }, ho_0, qF #[(qI 136), (qI 4), (qV 228), (qI 141), (qI 4), (qV 235), (qI 144), (qI 4), (qV 242), (qI 151), (qI 4), (qV 249)], qC #[(qS "Context" 480), (qS "Context" 481), (qS "/claim/cut.py" 482), (qI 134), (qI 0), (qI 0), (qI 0), (qI 0), (qV 218), (.bool false), (qI 181), (qV 219), .none, .none, .none, .none, (qI 483), (qI 134), (qS "/claim/cut.py" 484)], { cls := (.type "frame"), dict := none, data := .plain, slots := #[(some (qV 220)), (some (qV 3)), (some (qV 217)), none, (some (qS "gateloom.store" 410)), none, (some (qV 0))] }, ho_148, ho_0, ho_7, qT #[(qS "self" 494), (qS "store" 495), (qS "frame" 496), (qS "now" 497)], ho_0, qR (met 23 0) "Context.__init__", ho_151, ho_152, ho_0, ho_7, qT #[(qS "self" 504), (qS "number" 505), (qS "args" 506)], ho_0, qR (met 23 1) "Context.call", qC #[(qS "call" 501), (qS "Context.call" 502), (qS "/claim/cut.py" 503), (qI 141), (qI 3), (qI 0), (qI 0), (qI 3), (qV 230), (.bool true), (qI 181), (qV 231), .none, (qV 232), (qV 233), (qV 234), (qI 507), (qI 141), (qS "/claim/cut.py" 508)], qN (met 23 1) "Context.call" .none (qS "gateloom.store" 410) 235, ho_0, ho_7, qT #[(qS "self" 513), (qS "seed" 514)], ho_0, qR (met 23 2) "Context.next_random", qC #[(qS "next_random" 510), (qS "Context.next_random" 511), (qS "/claim/cut.py" 512), (qI 144), (qI 1), (qI 0), (qI 0), (qI 3), (qV 237), (.bool true), (qI 181), (qV 238), .none, (qV 239), (qV 240), (qV 241), (qI 515), (qI 144), (qS "/claim/cut.py" 516)], qN (met 23 2) "Context.next_random" .none (qS "gateloom.store" 410) 242, ho_0, ho_7, qT #[(qS "self" 521), (qS "width" 522)], ho_0, qR (met 23 3) "Context.time_vec", qC #[(qS "time_vec" 518), (qS "Context.time_vec" 519), (qS "/claim/cut.py" 520), (qI 151), (qI 2), (qI 0), (qI 0), (qI 3), (qV 244), (.bool true), (qI 181), (qV 245), .none, (qV 246), (qV 247), (qV 248), (qI 523), (qI 151), (qS "/claim/cut.py" 524)], qN (met 23 3) "Context.time_vec" .none (qS "gateloom.store" 410) 249, qT #[(qS "frame" 526), (qS "now" 527), (qS "store" 528)], ho_166 P, { cls := (.type "type"), dict := none, data := .cls { name := "Context", bases := [(.type "object")], mro := [(qV 253), (.type "object")], ns := 252, qualname := "Context", hasDict := true, slotNames := [], subclasses := [], abstract := false, collection := none, hasDel := false }, slots := #[none, none, (some (qS "Context" 478)), (some (qS "Context" 486)), (some (.builtin "object.__new__")), (some (.bool true))] }, { cls := (.type "getset_descriptor"), dict := none, data := .fields #[(qS "__dict__" 530), (qV 253), (.builtin "function.__dict__"), (.builtin "function.__dict__#set")], slots := #[] }, { cls := (.type "getset_descriptor"), dict := none, data := .fields #[(qS "__weakref__" 532), (qV 253), (.builtin "ExceptionGroup.__weakref__"), .none], slots := #[] }, { cls := (.type "super"), dict := none, data := .fields #[(qV 253), (qV 253), (qV 253)], slots := #[] }, { cls := (.type "builtin_function_or_method"), dict := none, data := .fields #[(.builtin "object.__init_subclass__"), (qV 253)], slots := #[] }, ho_0, ho_7, qT #[(qS "u" 542), (qS "v" 543)], ho_0, qR (stm 25) "add", qC #[(qS "add" 539), (qS "add" 540), (qS "/claim/cut.py" 541), (qI 154), (qI 2), (qI 0), (qI 0), (qI 3), (qV 258), (.bool true), (qI 181), (qV 259), .none, (qV 260), (qV 261), (qV 262), (qI 544), (qI 154), (qS "/claim/cut.py" 545)], qN (stm 25) "add" .none (qS "gateloom.vecarith" 537) 263, ho_0, ho_7, qT #[(qS "u" 550), (qS "v" 551)], ho_0, qR (stm 26) "sub", qC #[(qS "sub" 547), (qS "sub" 548), (qS "/claim/cut.py" 549), (qI 158), (qI 2), (qI 0), (qI 0), (qI 3), (qV 265), (.bool true), (qI 181), (qV 266), .none, (qV 267), (qV 268), (qV 269), (qI 552), (qI 158), (qS "/claim/cut.py" 553)], qN (stm 26) "sub" .none (qS "gateloom.vecarith" 537) 270]
noncomputable def tr_7 (P : Params) : BT := insF (((tr_6 P).ins 3 ({ cls := (.type "dict"), dict := none, data := .dict (((hd_3 P).take 44).set 0 (dE P "__name__" 165 (qS "gateloom.vecarith" 537))).toArray 44, slots := #[] })).ins 12 ({ cls := .none, dict := none, data := .fields (hf_12.take 105).toArray, slots := #[] })) 272 [ho_0, ho_7, qT #[(qS "u" 558), (qS "v" 559)], ho_0, qR (stm 27) "mul", qC #[(qS "mul" 555), (qS "mul" 556), (qS "/claim/cut.py" 557), (qI 162), (qI 2), (qI 0), (qI 0), (qI 3), (qV 272), (.bool true), (qI 181), (qV 273), .none, (qV 274), (qV 275), (qV 276), (qI 560), (qI 162), (qS "/claim/cut.py" 561)], qN (stm 27) "mul" .none (qS "gateloom.vecarith" 537) 277, ho_0, ho_7, qT #[(qS "v" 566)], ho_0, qR (stm 28) "neg", qC #[(qS "neg" 563), (qS "neg" 564), (qS "/claim/cut.py" 565), (qI 166), (qI 1), (qI 0), (qI 0), (qI 3), (qV 279), (.bool true), (qI 181), (qV 280), .none, (qV 281), (qV 282), (qV 283), (qI 567), (qI 166), (qS "/claim/cut.py" 568)], qN (stm 28) "neg" .none (qS "gateloom.vecarith" 537) 284, ho_0, ho_7, qT #[(qS "m" 573), (qS "n" 574), (qS "found" 575)], ho_0, qR (stm 29) "quotient", qC #[(qS "quotient" 570), (qS "quotient" 571), (qS "/claim/cut.py" 572), (qI 170), (qI 2), (qI 0), (qI 0), (qI 3), (qV 286), (.bool true), (qI 181), (qV 287), .none, (qV 288), (qV 289), (qV 290), (qI 576), (qI 170), (qS "/claim/cut.py" 577)], qN (stm 29) "quotient" .none (qS "gateloom.vecarith" 537) 291, ho_0, ho_7, qT #[(qS "u" 582), (qS "v" 583), (qS "signed" 584), (qS "m" 585), (qS "n" 586)], ho_0, qR (stm 30) "div", qC #[(qS "div" 579), (qS "div" 580), (qS "/claim/cut.py" 581), (qI 175), (qI 3), (qI 0), (qI 0), (qI 3), (qV 293), (.bool true), (qI 181), (qV 294), .none, (qV 295), (qV 296), (qV 297), (qI 587), (qI 175), (qS "/claim/cut.py" 588)], qN (stm 30) "div" .none (qS "gateloom.vecarith" 537) 298, ho_0, ho_7, qT #[(qS "u" 593), (qS "v" 594), (qS "signed" 595), (qS "m" 596), (qS "n" 597)], ho_0, qR (stm 31) "mod", qC #[(qS "mod" 590), (qS "mod" 591), (qS "/claim/cut.py" 592), (qI 181), (qI 3), (qI 0), (qI 0), (qI 3), (qV 300), (.bool true), (qI 181), (qV 301), .none, (qV 302), (qV 303), (qV 304), (qI 598), (qI 181), (qS "/claim/cut.py" 599)], qN (stm 31) "mod" .none (qS "gateloom.vecarith" 537) 305, ho_0, ho_7, qT #[(qS "base" 604), (qS "exponent" 605), (qS "w" 606), (qS "full" 607), (qS "result" 608), (qS "square" 609), (qS "rest" 610)], ho_0, qR (stm 32) "raise_whole", qC #[(qS "raise_whole" 601), (qS "raise_whole" 602), (qS "/claim/cut.py" 603), (qI 187), (qI 3), (qI 0), (qI 0), (qI 3), (qV 307), (.bool true), (qI 181), (qV 308), .none, (qV 309), (qV 310), (qV 311), (qI 611), (qI 187), (qS "/claim/cut.py" 612)], qN (stm 32) "raise_whole" .none (qS "gateloom.vecarith" 537) 312, ho_0, ho_7, qT #[(qS "u" 617), (qS "v" 618), (qS "usigned" 619), (qS "vsigned" 620), (qS "w" 621), (qS "base" 622), (qS "exponent" 623)], ho_0, qR (stm 33) "power", qC #[(qS "power" 614), (qS "power" 615), (qS "/claim/cut.py" 616), (qI 198), (qI 4), (qI 0), (qI 0), (qI 3), (qV 314), (.bool true), (qI 181), (qV 315), .none, (qV 316), (qV 317), (qV 318), (qI 624), (qI 198), (qS "/claim/cut.py" 625)], qN (stm 33) "power" .none (qS "gateloom.vecarith" 537) 319, ho_0, ho_7, qT #[(qS "u" 630), (qS "n" 631), (qS "w" 632), (qS "full" 633)], ho_0, qR (stm 34) "shift_left", qC #[(qS "shift_left" 627), (qS "shift_left" 628), (qS "/claim/cut.py" 629), (qI 213), (qI 2), (qI 0), (qI 0), (qI 3), (qV 321), (.bool true), (qI 181), (qV 322), .none, (qV 323), (qV 324), (qV 325), (qI 634), (qI 213), (qS "/claim/cut.py" 635)], qN (stm 34) "shift_left" .none (qS "gateloom.vecarith" 537) 326, ho_0, ho_7, qT #[(qS "u" 640), (qS "n" 641), (qS "w" 642)], ho_0, qR (stm 35) "shift_right", qC #[(qS "shift_right" 637), (qS "shift_right" 638), (qS "/claim/cut.py" 639), (qI 221), (qI 2), (qI 0), (qI 0), (qI 3), (qV 328), (.bool true), (qI 181), (qV 329), .none, (qV 330), (qV 331), (qV 332), (qI 643), (qI 221), (qS "/claim/cut.py" 644)], qN (stm 35) "shift_right" .none (qS "gateloom.vecarith" 537) 333, ho_0, ho_7, qT #[(qS "u" 649), (qS "n" 650), (qS "signed" 651), (qS "w" 652), (qS "count" 653), (qS "fill" 654), (qS "top" 655), (qS "a" 656), (qS "b" 657)], ho_0, qR (stm 36) "shift_arith", qC #[(qS "shift_arith" 646), (qS "shift_arith" 647), (qS "/claim/cut.py" 648), (qI 228), (qI 3), (qI 0), (qI 0), (qI 3), (qV 335), (.bool true), (qI 181), (qV 336), .none, (qV 337), (qV 338), (qV 339), (qI 658), (qI 228), (qS "/claim/cut.py" 659)], qN (stm 36) "shift_arith" .none (qS "gateloom.vecarith" 537) 340, ho_0, ho_7, qT #[(qS "u" 664), (qS "v" 665), (qS "signed" 666), (qS "m" 667), (qS "n" 668)], ho_0, qR (stm 37) "ordered", qC #[(qS "ordered" 661), (qS "ordered" 662), (qS "/claim/cut.py" 663), (qI 238), (qI 3), (qI 0), (qI 0), (qI 3), (qV 342), (.bool true), (qI 181), (qV 343), .none, (qV 344), (qV 345), (qV 346), (qI 669), (qI 238), (qS "/claim/cut.py" 670)], qN (stm 37) "ordered" .none (qS "gateloom.vecarith" 537) 347, ho_0, ho_7, qT #[(qS "u" 675), (qS "v" 676), (qS "signed" 677), (qS "sign" 678)], ho_0, qR (stm 38) "less", qC #[(qS "less" 672), (qS "less" 673), (qS "/claim/cut.py" 674), (qI 246), (qI 3), (qI 0), (qI 0), (qI 3), (qV 349), (.bool true), (qI 181), (qV 350), .none, (qV 351), (qV 352), (qV 353), (qI 679), (qI 246), (qS "/claim/cut.py" 680)], qN (stm 38) "less" .none (qS "gateloom.vecarith" 537) 354]
noncomputable def tr_8 (P : Params) : BT := insF (((tr_7 P).ins 3 ({ cls := (.type "dict"), dict := none, data := .dict (((hd_3 P).take 56).set 0 (dE P "__name__" 165 (qS "gateloom.vecops" 710))).toArray 56, slots := #[] })).ins 12 ({ cls := .none, dict := none, data := .fields (hf_12.take 141).toArray, slots := #[] })) 356 [ho_0, ho_7, qT #[(qS "u" 685), (qS "v" 686), (qS "signed" 687), (qS "sign" 688)], ho_0, qR (stm 39) "less_equal", qC #[(qS "less_equal" 682), (qS "less_equal" 683), (qS "/claim/cut.py" 684), (qI 251), (qI 3), (qI 0), (qI 0), (qI 3), (qV 356), (.bool true), (qI 181), (qV 357), .none, (qV 358), (qV 359), (qV 360), (qI 689), (qI 251), (qS "/claim/cut.py" 690)], qN (stm 39) "less_equal" .none (qS "gateloom.vecarith" 537) 361, ho_0, ho_7, qT #[(qS "u" 695), (qS "v" 696), (qS "signed" 697)], ho_0, qR (stm 40) "greater", qC #[(qS "greater" 692), (qS "greater" 693), (qS "/claim/cut.py" 694), (qI 256), (qI 3), (qI 0), (qI 0), (qI 3), (qV 363), (.bool true), (qI 181), (qV 364), .none, (qV 365), (qV 366), (qV 367), (qI 698), (qI 256), (qS "/claim/cut.py" 699)], qN (stm 40) "greater" .none (qS "gateloom.vecarith" 537) 368, ho_0, ho_7, qT #[(qS "u" 704), (qS "v" 705), (qS "signed" 706)], ho_0, qR (stm 41) "greater_equal", qC #[(qS "greater_equal" 701), (qS "greater_equal" 702), (qS "/claim/cut.py" 703), (qI 258), (qI 3), (qI 0), (qI 0), (qI 3), (qV 370), (.bool true), (qI 181), (qV 371), .none, (qV 372), (qV 373), (qV 374), (qI 707), (qI 258), (qS "/claim/cut.py" 708)], qN (stm 41) "greater_equal" .none (qS "gateloom.vecarith" 537) 375, ho_0, ho_7, qT #[(qS "c" 715)], ho_0, qR (stm 43) "one_bit", qC #[(qS "one_bit" 712), (qS "one_bit" 713), (qS "/claim/cut.py" 714), (qI 261), (qI 1), (qI 0), (qI 0), (qI 3), (qV 377), (.bool true), (qI 181), (qV 378), .none, (qV 379), (qV 380), (qV 381), (qI 716), (qI 261), (qS "/claim/cut.py" 717)], qN (stm 43) "one_bit" .none (qS "gateloom.vecops" 710) 382, ho_0, ho_7, qT #[(qS "v" 722), (qS "w" 723), (qS "a" 724), (qS "b" 725)], ho_0, qR (stm 44) "bit_not", qC #[(qS "bit_not" 719), (qS "bit_not" 720), (qS "/claim/cut.py" 721), (qI 263), (qI 1), (qI 0), (qI 0), (qI 3), (qV 384), (.bool true), (qI 181), (qV 385), .none, (qV 386), (qV 387), (qV 388), (qI 726), (qI 263), (qS "/claim/cut.py" 727)], qN (stm 44) "bit_not" .none (qS "gateloom.vecops" 710) 389, ho_0, ho_7, qT #[(qS "u" 732), (qS "v" 733), (qS "w" 734), (qS "a" 735), (qS "b" 736), (qS "c" 737), (qS "d" 738), (qS "both" 739)], ho_0, qR (stm 45) "bit_and", qC #[(qS "bit_and" 729), (qS "bit_and" 730), (qS "/claim/cut.py" 731), (qI 266), (qI 2), (qI 0), (qI 0), (qI 3), (qV 391), (.bool true), (qI 181), (qV 392), .none, (qV 393), (qV 394), (qV 395), (qI 740), (qI 266), (qS "/claim/cut.py" 741)], qN (stm 45) "bit_and" .none (qS "gateloom.vecops" 710) 396, ho_0, ho_7, qT #[(qS "u" 746), (qS "v" 747), (qS "w" 748), (qS "a" 749), (qS "b" 750), (qS "c" 751), (qS "d" 752), (qS "either" 753), (qS "sure" 754)], ho_0, qR (stm 46) "bit_or", qC #[(qS "bit_or" 743), (qS "bit_or" 744), (qS "/claim/cut.py" 745), (qI 271), (qI 2), (qI 0), (qI 0), (qI 3), (qV 398), (.bool true), (qI 181), (qV 399), .none, (qV 400), (qV 401), (qV 402), (qI 755), (qI 271), (qS "/claim/cut.py" 756)], qN (stm 46) "bit_or" .none (qS "gateloom.vecops" 710) 403, ho_0, ho_7, qT #[(qS "u" 761), (qS "v" 762), (qS "b" 763)], ho_0, qR (stm 47) "bit_xor", qC #[(qS "bit_xor" 758), (qS "bit_xor" 759), (qS "/claim/cut.py" 760), (qI 277), (qI 2), (qI 0), (qI 0), (qI 3), (qV 405), (.bool true), (qI 181), (qV 406), .none, (qV 407), (qV 408), (qV 409), (qI 764), (qI 277), (qS "/claim/cut.py" 765)], qN (stm 47) "bit_xor" .none (qS "gateloom.vecops" 710) 410, ho_0, ho_7, qT #[(qS "u" 770), (qS "v" 771)], ho_0, qR (stm 48) "bit_xnor", qC #[(qS "bit_xnor" 767), (qS "bit_xnor" 768), (qS "/claim/cut.py" 769), (qI 280), (qI 2), (qI 0), (qI 0), (qI 3), (qV 412), (.bool true), (qI 181), (qV 413), .none, (qV 414), (qV 415), (qV 416), (qI 772), (qI 280), (qS "/claim/cut.py" 773)], qN (stm 48) "bit_xnor" .none (qS "gateloom.vecops" 710) 417, ho_0, ho_7, qT #[(qS "v" 778), (qS "w" 779), (qS "a" 780), (qS "b" 781)], ho_0, qR (stm 49) "reduce_and", qC #[(qS "reduce_and" 775), (qS "reduce_and" 776), (qS "/claim/cut.py" 777), (qI 282), (qI 1), (qI 0), (qI 0), (qI 3), (qV 419), (.bool true), (qI 181), (qV 420), .none, (qV 421), (qV 422), (qV 423), (qI 782), (qI 282), (qS "/claim/cut.py" 783)], qN (stm 49) "reduce_and" .none (qS "gateloom.vecops" 710) 424, ho_0, ho_7, qT #[(qS "v" 788)], ho_0, qR (stm 50) "reduce_nand", qC #[(qS "reduce_nand" 785), (qS "reduce_nand" 786), (qS "/claim/cut.py" 787), (qI 287), (qI 1), (qI 0), (qI 0), (qI 3), (qV 426), (.bool true), (qI 181), (qV 427), .none, (qV 428), (qV 429), (qV 430), (qI 789), (qI 287), (qS "/claim/cut.py" 790)], qN (stm 50) "reduce_nand" .none (qS "gateloom.vecops" 710) 431, ho_0, ho_7, qT #[(qS "v" 795)], ho_0, qR (stm 51) "reduce_or", qC #[(qS "reduce_or" 792), (qS "reduce_or" 793), (qS "/claim/cut.py" 794), (qI 289), (qI 1), (qI 0), (qI 0), (qI 3), (qV 433), (.bool true), (qI 181), (qV 434), .none, (qV 435), (qV 436), (qV 437), (qI 796), (qI 289), (qS "/claim/cut.py" 797)], qN (stm 51) "reduce_or" .none (qS "gateloom.vecops" 710) 438]
noncomputable def tr_9 (P : Params) : BT := insF (((tr_8 P).ins 3 ({ cls := (.type "dict"), dict := none, data := .dict (((hd_3 P).take 68).set 0 (dE P "__name__" 165 (qS "gateloom.evaluate" 902))).toArray 68, slots := #[] })).ins 12 ({ cls := .none, dict := none, data := .fields (hf_12.take 177).toArray, slots := #[] })) 440 [ho_0, ho_7, qT #[(qS "v" 802)], ho_0, qR (stm 52) "reduce_nor", qC #[(qS "reduce_nor" 799), (qS "reduce_nor" 800), (qS "/claim/cut.py" 801), (qI 291), (qI 1), (qI 0), (qI 0), (qI 3), (qV 440), (.bool true), (qI 181), (qV 441), .none, (qV 442), (qV 443), (qV 444), (qI 803), (qI 291), (qS "/claim/cut.py" 804)], qN (stm 52) "reduce_nor" .none (qS "gateloom.vecops" 710) 445, ho_0, ho_7, qT #[(qS "v" 809), (qS "parity" 810), (qS "rest" 811)], ho_0, qR (stm 53) "reduce_xor", qC #[(qS "reduce_xor" 806), (qS "reduce_xor" 807), (qS "/claim/cut.py" 808), (qI 293), (qI 1), (qI 0), (qI 0), (qI 3), (qV 447), (.bool true), (qI 181), (qV 448), .none, (qV 449), (qV 450), (qV 451), (qI 812), (qI 293), (qS "/claim/cut.py" 813)], qN (stm 53) "reduce_xor" .none (qS "gateloom.vecops" 710) 452, ho_0, ho_7, qT #[(qS "v" 818)], ho_0, qR (stm 54) "reduce_xnor", qC #[(qS "reduce_xnor" 815), (qS "reduce_xnor" 816), (qS "/claim/cut.py" 817), (qI 302), (qI 1), (qI 0), (qI 0), (qI 3), (qV 454), (.bool true), (qI 181), (qV 455), .none, (qV 456), (qV 457), (qV 458), (qI 819), (qI 302), (qS "/claim/cut.py" 820)], qN (stm 54) "reduce_xnor" .none (qS "gateloom.vecops" 710) 459, ho_0, ho_7, qT #[(qS "v" 825)], ho_0, qR (stm 55) "logic_not", qC #[(qS "logic_not" 822), (qS "logic_not" 823), (qS "/claim/cut.py" 824), (qI 304), (qI 1), (qI 0), (qI 0), (qI 3), (qV 461), (.bool true), (qI 181), (qV 462), .none, (qV 463), (qV 464), (qV 465), (qI 826), (qI 304), (qS "/claim/cut.py" 827)], qN (stm 55) "logic_not" .none (qS "gateloom.vecops" 710) 466, ho_0, ho_7, qT #[(qS "u" 832), (qS "v" 833)], ho_0, qR (stm 56) "logic_and", qC #[(qS "logic_and" 829), (qS "logic_and" 830), (qS "/claim/cut.py" 831), (qI 306), (qI 2), (qI 0), (qI 0), (qI 3), (qV 468), (.bool true), (qI 181), (qV 469), .none, (qV 470), (qV 471), (qV 472), (qI 834), (qI 306), (qS "/claim/cut.py" 835)], qN (stm 56) "logic_and" .none (qS "gateloom.vecops" 710) 473, ho_0, ho_7, qT #[(qS "u" 840), (qS "v" 841)], ho_0, qR (stm 57) "logic_or", qC #[(qS "logic_or" 837), (qS "logic_or" 838), (qS "/claim/cut.py" 839), (qI 308), (qI 2), (qI 0), (qI 0), (qI 3), (qV 475), (.bool true), (qI 181), (qV 476), .none, (qV 477), (qV 478), (qV 479), (qI 842), (qI 308), (qS "/claim/cut.py" 843)], qN (stm 57) "logic_or" .none (qS "gateloom.vecops" 710) 480, ho_0, ho_7, qT #[(qS "u" 848), (qS "v" 849), (qS "unknown" 850)], ho_0, qR (stm 58) "equal", qC #[(qS "equal" 845), (qS "equal" 846), (qS "/claim/cut.py" 847), (qI 310), (qI 2), (qI 0), (qI 0), (qI 3), (qV 482), (.bool true), (qI 181), (qV 483), .none, (qV 484), (qV 485), (qV 486), (qI 851), (qI 310), (qS "/claim/cut.py" 852)], qN (stm 58) "equal" .none (qS "gateloom.vecops" 710) 487, ho_0, ho_7, qT #[(qS "u" 857), (qS "v" 858)], ho_0, qR (stm 59) "not_equal", qC #[(qS "not_equal" 854), (qS "not_equal" 855), (qS "/claim/cut.py" 856), (qI 315), (qI 2), (qI 0), (qI 0), (qI 3), (qV 489), (.bool true), (qI 181), (qV 490), .none, (qV 491), (qV 492), (qV 493), (qI 859), (qI 315), (qS "/claim/cut.py" 860)], qN (stm 59) "not_equal" .none (qS "gateloom.vecops" 710) 494, ho_0, ho_7, qT #[(qS "u" 865), (qS "v" 866)], ho_0, qR (stm 60) "case_equal", qC #[(qS "case_equal" 862), (qS "case_equal" 863), (qS "/claim/cut.py" 864), (qI 317), (qI 2), (qI 0), (qI 0), (qI 3), (qV 496), (.bool true), (qI 181), (qV 497), .none, (qV 498), (qV 499), (qV 500), (qI 867), (qI 317), (qS "/claim/cut.py" 868)], qN (stm 60) "case_equal" .none (qS "gateloom.vecops" 710) 501, ho_0, ho_7, qT #[(qS "u" 873), (qS "v" 874)], ho_0, qR (stm 61) "case_not_equal", qC #[(qS "case_not_equal" 870), (qS "case_not_equal" 871), (qS "/claim/cut.py" 872), (qI 319), (qI 2), (qI 0), (qI 0), (qI 3), (qV 503), (.bool true), (qI 181), (qV 504), .none, (qV 505), (qV 506), (qV 507), (qI 875), (qI 319), (qS "/claim/cut.py" 876)], qN (stm 61) "case_not_equal" .none (qS "gateloom.vecops" 710) 508, ho_0, ho_7, qT #[(qS "kind" 881), (qS "u" 882), (qS "v" 883), (qS "free" 884), (qS "care" 885)], ho_0, qR (stm 62) "matches", qC #[(qS "matches" 878), (qS "matches" 879), (qS "/claim/cut.py" 880), (qI 321), (qI 3), (qI 0), (qI 0), (qI 3), (qV 510), (.bool true), (qI 181), (qV 511), .none, (qV 512), (qV 513), (qV 514), (qI 886), (qI 321), (qS "/claim/cut.py" 887)], qN (stm 62) "matches" .none (qS "gateloom.vecops" 710) 515, ho_0, ho_7, qT #[(qS "c" 892), (qS "t" 893), (qS "f" 894), (qS "found" 895), (qS "w" 896), (qS "same" 897), (qS "unknown" 898)], ho_0, qR (stm 63) "choose", qC #[(qS "choose" 889), (qS "choose" 890), (qS "/claim/cut.py" 891), (qI 329), (qI 3), (qI 0), (qI 0), (qI 3), (qV 517), (.bool true), (qI 181), (qV 518), .none, (qV 519), (qV 520), (qV 521), (qI 899), (qI 329), (qS "/claim/cut.py" 900)], qN (stm 63) "choose" .none (qS "gateloom.vecops" 710) 522]
noncomputable def tr_10 (P : Params) : BT := insF (((tr_9 P).ins 3 ({ cls := (.type "dict"), dict := none, data := .dict ((((hd_3 P).take 81).set 0 (dE P "__name__" 165 (qS "gateloom.evaluate" 902))).set 78 (dE P "system_value" 1009 (qV 600))).toArray 81, slots := #[] })).ins 12 ({ cls := .none, dict := none, data := .fields (hf_12.take 213).toArray, slots := #[] })) 524 [ho_0, ho_7, qT #[(qS "op" 907), (qS "u" 908)], ho_0, qR (stm 65) "unary", qC #[(qS "unary" 904), (qS "unary" 905), (qS "/claim/cut.py" 906), (qI 340), (qI 2), (qI 0), (qI 0), (qI 3), (qV 524), (.bool true), (qI 181), (qV 525), .none, (qV 526), (qV 527), (qV 528), (qI 909), (qI 340), (qS "/claim/cut.py" 910)], qN (stm 65) "unary" .none (qS "gateloom.evaluate" 902) 529, ho_0, ho_7, qT #[(qS "op" 915), (qS "u" 916), (qS "v" 917), (qS "signed" 918)], ho_0, qR (stm 66) "arithmetic", qC #[(qS "arithmetic" 912), (qS "arithmetic" 913), (qS "/claim/cut.py" 914), (qI 360), (qI 4), (qI 0), (qI 0), (qI 3), (qV 531), (.bool true), (qI 181), (qV 532), .none, (qV 533), (qV 534), (qV 535), (qI 919), (qI 360), (qS "/claim/cut.py" 920)], qN (stm 66) "arithmetic" .none (qS "gateloom.evaluate" 902) 536, ho_0, ho_7, qT #[(qS "op" 925), (qS "u" 926), (qS "v" 927), (qS "signed" 928)], ho_0, qR (stm 67) "comparison", qC #[(qS "comparison" 922), (qS "comparison" 923), (qS "/claim/cut.py" 924), (qI 378), (qI 4), (qI 0), (qI 0), (qI 3), (qV 538), (.bool true), (qI 181), (qV 539), .none, (qV 540), (qV 541), (qV 542), (qI 929), (qI 378), (qS "/claim/cut.py" 930)], qN (stm 67) "comparison" .none (qS "gateloom.evaluate" 902) 543, ho_0, ho_7, qT #[(qS "op" 935), (qS "u" 936), (qS "v" 937)], ho_0, qR (stm 68) "bitwise", qC #[(qS "bitwise" 932), (qS "bitwise" 933), (qS "/claim/cut.py" 934), (qI 396), (qI 3), (qI 0), (qI 0), (qI 3), (qV 545), (.bool true), (qI 181), (qV 546), .none, (qV 547), (qV 548), (qV 549), (qI 938), (qI 396), (qS "/claim/cut.py" 939)], qN (stm 68) "bitwise" .none (qS "gateloom.evaluate" 902) 550, ho_0, ho_7, qT #[(qS "op" 944), (qS "u" 945), (qS "v" 946), (qS "signed" 947), (qS "value" 948)], ho_0, qR (stm 69) "binary", qC #[(qS "binary" 941), (qS "binary" 942), (qS "/claim/cut.py" 943), (qI 410), (qI 4), (qI 0), (qI 0), (qI 3), (qV 552), (.bool true), (qI 181), (qV 553), .none, (qV 554), (qV 555), (qV 556), (qI 949), (qI 410), (qS "/claim/cut.py" 950)], qN (stm 69) "binary" .none (qS "gateloom.evaluate" 902) 557, ho_0, ho_7, qT #[(qS "e" 955), (qS "signed" 956), (qS "ctx" 957)], ho_0, qR (stm 70) "whole_of", qC #[(qS "whole_of" 952), (qS "whole_of" 953), (qS "/claim/cut.py" 954), (qI 419), (qI 3), (qI 0), (qI 0), (qI 3), (qV 559), (.bool true), (qI 181), (qV 560), .none, (qV 561), (qV 562), (qV 563), (qI 958), (qI 419), (qS "/claim/cut.py" 959)], qN (stm 70) "whole_of" .none (qS "gateloom.evaluate" 902) 564, ho_0, ho_7, qT #[(qS "e" 964), (qS "ctx" 965), (qS "index" 966), (qS "place" 967)], ho_0, qR (stm 71) "memory_word", qC #[(qS "memory_word" 961), (qS "memory_word" 962), (qS "/claim/cut.py" 963), (qI 421), (qI 2), (qI 0), (qI 0), (qI 3), (qV 566), (.bool true), (qI 181), (qV 567), .none, (qV 568), (qV 569), (qV 570), (qI 968), (qI 421), (qS "/claim/cut.py" 969)], qN (stm 71) "memory_word" .none (qS "gateloom.evaluate" 902) 571, ho_0, ho_7, qT #[(qS "e" 974), (qS "ctx" 975), (qS "value" 976), (qS "index" 977)], ho_0, qR (stm 72) "picked", qC #[(qS "picked" 971), (qS "picked" 972), (qS "/claim/cut.py" 973), (qI 429), (qI 2), (qI 0), (qI 0), (qI 3), (qV 573), (.bool true), (qI 181), (qV 574), .none, (qV 575), (qV 576), (qV 577), (qI 978), (qI 429), (qS "/claim/cut.py" 979)], qN (stm 72) "picked" .none (qS "gateloom.evaluate" 902) 578, ho_0, ho_7, qT #[(qS "e" 984), (qS "ctx" 985), (qS "condition" 986), (qS "known" 987)], ho_0, qR (stm 73) "conditional", qC #[(qS "conditional" 981), (qS "conditional" 982), (qS "/claim/cut.py" 983), (qI 435), (qI 2), (qI 0), (qI 0), (qI 3), (qV 580), (.bool true), (qI 181), (qV 581), .none, (qV 582), (qV 583), (qV 584), (qI 988), (qI 435), (qS "/claim/cut.py" 989)], qN (stm 73) "conditional" .none (qS "gateloom.evaluate" 902) 585, ho_0, ho_7, qT #[(qS "n" 994), (qS "k" 995)], ho_0, qR (stm 74) "bits_needed", qC #[(qS "bits_needed" 991), (qS "bits_needed" 992), (qS "/claim/cut.py" 993), (qI 443), (qI 1), (qI 0), (qI 0), (qI 3), (qV 587), (.bool true), (qI 181), (qV 588), .none, (qV 589), (qV 590), (qV 591), (qI 996), (qI 443), (qS "/claim/cut.py" 997)], qN (stm 74) "bits_needed" .none (qS "gateloom.evaluate" 902) 592, ho_0, ho_7, qT #[(qS "e" 1002), (qS "ctx" 1003), (qS "w" 1004), (qS "name" 1005), (qS "n" 1006)], ho_0, qR (stm 75) "system_value", qC #[(qS "system_value" 999), (qS "system_value" 1000), (qS "/claim/cut.py" 1001), (qI 448), (qI 2), (qI 0), (qI 0), (qI 3), (qV 594), (.bool true), (qI 181), (qV 595), .none, (qV 596), (qV 597), (qV 598), (qI 1007), (qI 448), (qS "/claim/cut.py" 1008)], qN (stm 75) "system_value" .none (qS "gateloom.evaluate" 902) 599, ho_0, ho_7, qR (stm 77) "evaluate", ho_377, ho_378]
noncomputable def tr_11 (P : Params) : BT := insF (((tr_10 P).ins 3 ({ cls := (.type "dict"), dict := none, data := .dict ((((hd_3 P).take 86).set 0 (dE P "__name__" 165 (qS "gateloom.funcs" 1070))).set 78 (dE P "system_value" 1009 (qV 600))).toArray 86, slots := #[] })).ins 12 ({ cls := .none, dict := none, data := .fields (hf_12.take 225).toArray, slots := #[] })) 606 [ho_0, ho_7, qT #[(qS "where" 1020), (qS "ctx" 1021), (qS "index" 1022)], ho_0, qR (stm 78) "locate", qC #[(qS "locate" 1017), (qS "locate" 1018), (qS "/claim/cut.py" 1019), (qI 493), (qI 2), (qI 0), (qI 0), (qI 3), (qV 606), (.bool true), (qI 181), (qV 607), .none, (qV 608), (qV 609), (qV 610), (qI 1023), (qI 493), (qS "/claim/cut.py" 1024)], qN (stm 78) "locate" .none (qS "gateloom.evaluate" 902) 611, ho_0, ho_7, qT #[(qS "part" 1029), (qS "ctx" 1030)], ho_0, qR (stm 79) "holder_width", qC #[(qS "holder_width" 1026), (qS "holder_width" 1027), (qS "/claim/cut.py" 1028), (qI 500), (qI 2), (qI 0), (qI 0), (qI 3), (qV 613), (.bool true), (qI 181), (qV 614), .none, (qV 615), (qV 616), (qV 617), (qI 1031), (qI 500), (qS "/claim/cut.py" 1032)], qN (stm 79) "holder_width" .none (qS "gateloom.evaluate" 902) 618, ho_0, ho_7, qT #[(qS "lv" 1037), (qS "ctx" 1038), (qS "rows" 1039), (qS "take" 1040), (qS "part" 1041), (qS "kind" 1042), (qS "w" 1043), (qS "ref" 1044), (qS "word" 1045), (qS "where" 1046), (qS "place" 1047), (qS "index" 1048), (qS "lo" 1049)], ho_0, qR (stm 80) "resolve_target", qC #[(qS "resolve_target" 1034), (qS "resolve_target" 1035), (qS "/claim/cut.py" 1036), (qI 504), (qI 2), (qI 0), (qI 0), (qI 3), (qV 620), (.bool true), (qI 181), (qV 621), .none, (qV 622), (qV 623), (qV 624), (qI 1050), (qI 504), (qS "/claim/cut.py" 1051)], qN (stm 80) "resolve_target" .none (qS "gateloom.evaluate" 902) 625, ho_0, ho_7, qT #[(qS "rows" 1056), (qS "value" 1057), (qS "ctx" 1058), (qS "changed" 1059), (qS "kind" 1060), (qS "ref" 1061), (qS "place" 1062), (qS "lo" 1063), (qS "w" 1064), (qS "take" 1065), (qS "piece" 1066)], ho_0, qR (stm 81) "store_rows", qC #[(qS "store_rows" 1053), (qS "store_rows" 1054), (qS "/claim/cut.py" 1055), (qI 523), (qI 3), (qI 0), (qI 0), (qI 3), (qV 627), (.bool true), (qI 181), (qV 628), .none, (qV 629), (qV 630), (qV 631), (qI 1067), (qI 523), (qS "/claim/cut.py" 1068)], qN (stm 81) "store_rows" .none (qS "gateloom.evaluate" 902) 632]
noncomputable def tr_12 (P : Params) : BT := insF ((((tr_11 P).ins 3 ({ cls := (.type "dict"), dict := none, data := .dict ((((hd_3 P).take 87).set 0 (dE P "__name__" 165 (qS "gateloom.funcs" 1070))).set 78 (dE P "system_value" 1009 (qV 600))).toArray 87, slots := #[] })).ins 12 ({ cls := .none, dict := none, data := .fields (hf_12.take 228).toArray, slots := #[] })).ins 253 (ho_399)) 634 [qT #[(qV 253)], ho_13, { cls := (.type "dict"), dict := none, data := .dict #[dE P "__module__" 1081 (qS "gateloom.funcs" 1070), dE P "__qualname__" 1083 (qS "FunctionContext" 1082), dE P "__firstlineno__" 1085 (.int (535) 1084), dE P "__init__" 1098 (qV 648), dE P "call" 1110 (qV 655), dE P "new_frame" 1116 (qV 660), dE P "burn" 1123 (qV 667), dE P "is_true" 1131 (qV 674), dE P "__static_attributes__" 1137 (qV 675)] 9, slots := #[] }, ho_0, qF #[(qI 537), (qI 4), (qV 647), (qI 544), (qI 4), (qV 654), (qI 559), (qI 4), (qV 659), (qI 571), (qI 4), (qV 666), (qI 576), (qI 4), (qV 673)], qC #[(qS "FunctionContext" 1076), (qS "FunctionContext" 1077), (qS "/claim/cut.py" 1078), (qI 535), (qI 0), (qI 0), (qI 0), (qI 0), (qV 637), (.bool false), (qI 181), (qV 638), .none, .none, .none, .none, (qI 1079), (qI 535), (qS "/claim/cut.py" 1080)], { cls := (.type "frame"), dict := none, data := .plain, slots := #[(some (qV 639)), (some (qV 3)), (some (qV 636)), none, (some (qS "gateloom.funcs" 1070)), none, (some (qV 0))] }, qT #[(.int (10000) 1086)], ho_0, ho_7, qT #[(qS "self" 1090), (qS "design" 1091), (qS "store" 1092), (qS "frame" 1093), (qS "now" 1094), (qS "fuel" 1095)], ho_0, qR (met 84 0) "FunctionContext.__init__", qC #[(qS "__init__" 1087), (qS "FunctionContext.__init__" 1088), (qS "/claim/cut.py" 1089), (qI 537), (qI 6), (qI 0), (qI 0), (qI 3), (qV 642), (.bool true), (qI 181), (qV 643), .none, (qV 644), (qV 645), (qV 646), (qI 1096), (qI 537), (qS "/claim/cut.py" 1097)], qN (met 84 0) "FunctionContext.__init__" (qV 641) (qS "gateloom.funcs" 1070) 647, ho_0, ho_7, qT #[(qS "self" 1102), (qS "number" 1103), (qS "args" 1104), (qS "routine" 1105), (qS "caller" 1106), (qS "value" 1107)], ho_0, qR (met 84 1) "FunctionContext.call", qC #[(qS "call" 1099), (qS "FunctionContext.call" 1100), (qS "/claim/cut.py" 1101), (qI 544), (qI 3), (qI 0), (qI 0), (qI 3), (qV 649), (.bool true), (qI 181), (qV 650), .none, (qV 651), (qV 652), (qV 653), (qI 1108), (qI 544), (qS "/claim/cut.py" 1109)], qN (met 84 1) "FunctionContext.call" .none (qS "gateloom.funcs" 1070) 654, ho_0, ho_7, qR (met 84 2) "FunctionContext.new_frame", qC #[(qS "new_frame" 1111), (qS "FunctionContext.new_frame" 1112), (qS "/claim/cut.py" 1113), (qI 559), (qI 3), (qI 0), (qI 0), (qI 3), (qV 656), (.bool true), (qI 181), (qV 657), .none, .none, .none, (qV 658), (qI 1114), (qI 559), (qS "/claim/cut.py" 1115)], qN (met 84 2) "FunctionContext.new_frame" .none (qS "gateloom.funcs" 1070) 659, ho_0, ho_7, qT #[(qS "self" 1120)], ho_0, qR (met 84 3) "FunctionContext.burn", qC #[(qS "burn" 1117), (qS "FunctionContext.burn" 1118), (qS "/claim/cut.py" 1119), (qI 571), (qI 1), (qI 0), (qI 0), (qI 3), (qV 661), (.bool true), (qI 181), (qV 662), .none, (qV 663), (qV 664), (qV 665), (qI 1121), (qI 571), (qS "/claim/cut.py" 1122)], qN (met 84 3) "FunctionContext.burn" .none (qS "gateloom.funcs" 1070) 666, ho_0, ho_7, qT #[(qS "self" 1127), (qS "e" 1128)], ho_0, qR (met 84 4) "FunctionContext.is_true", qC #[(qS "is_true" 1124), (qS "FunctionContext.is_true" 1125), (qS "/claim/cut.py" 1126), (qI 576), (qI 2), (qI 0), (qI 0), (qI 3), (qV 668), (.bool true), (qI 181), (qV 669), .none, (qV 670), (qV 671), (qV 672), (qI 1129), (qI 576), (qS "/claim/cut.py" 1130)], qN (met 84 4) "FunctionContext.is_true" .none (qS "gateloom.funcs" 1070) 673, qT #[(qS "depth" 1132), (qS "design" 1133), (qS "frame" 1134), (qS "fuel" 1135), (qS "written" 1136)], ho_426 P, ho_427, { cls := (.type "super"), dict := none, data := .fields #[(qV 677), (qV 677), (qV 677)], slots := #[] }, { cls := (.type "builtin_function_or_method"), dict := none, data := .fields #[(.builtin "object.__init_subclass__"), (qV 677)], slots := #[] }]
noncomputable def tr_13 (P : Params) : BT := insF (((tr_12 P).ins 3 ({ cls := (.type "dict"), dict := none, data := .dict ((((hd_3 P).take 99).set 0 (dE P "__name__" 165 (qS "gateloom.walks" 1212))).set 78 (dE P "system_value" 1009 (qV 600))).toArray 99, slots := #[] })).ins 12 ({ cls := .none, dict := none, data := .fields (hf_12.take 264).toArray, slots := #[] })) 680 [ho_0, ho_7, qT #[(qS "s" 1144), (qS "ctx" 1145), (qS "inner" 1146), (qS "disabled" 1147)], ho_0, qR (stm 85) "run_block", qC #[(qS "run_block" 1141), (qS "run_block" 1142), (qS "/claim/cut.py" 1143), (qI 578), (qI 2), (qI 0), (qI 0), (qI 3), (qV 680), (.bool true), (qI 181), (qV 681), .none, (qV 682), (qV 683), (qV 684), (qI 1148), (qI 578), (qS "/claim/cut.py" 1149)], qN (stm 85) "run_block" .none (qS "gateloom.funcs" 1070) 685, ho_0, ho_7, qT #[(qS "s" 1154), (qS "ctx" 1155), (qS "value" 1156), (qS "key" 1157)], ho_0, qR (stm 86) "run_set", qC #[(qS "run_set" 1151), (qS "run_set" 1152), (qS "/claim/cut.py" 1153), (qI 586), (qI 2), (qI 0), (qI 0), (qI 3), (qV 687), (.bool true), (qI 181), (qV 688), .none, (qV 689), (qV 690), (qV 691), (qI 1158), (qI 586), (qS "/claim/cut.py" 1159)], qN (stm 86) "run_set" .none (qS "gateloom.funcs" 1070) 692, ho_0, ho_7, qT #[(qS "s" 1164), (qS "ctx" 1165), (qS "value" 1166), (qS "default" 1167), (qS "labels" 1168), (qS "inner" 1169), (qS "label" 1170)], ho_0, qR (stm 87) "run_case", qC #[(qS "run_case" 1161), (qS "run_case" 1162), (qS "/claim/cut.py" 1163), (qI 593), (qI 2), (qI 0), (qI 0), (qI 3), (qV 694), (.bool true), (qI 181), (qV 695), .none, (qV 696), (qV 697), (qV 698), (qI 1171), (qI 593), (qS "/claim/cut.py" 1172)], qN (stm 87) "run_case" .none (qS "gateloom.funcs" 1070) 699, ho_0, ho_7, qT #[(qS "condition" 1177), (qS "body" 1178), (qS "step" 1179), (qS "ctx" 1180), (qS "disabled" 1181)], ho_0, qR (stm 88) "run_while", qC #[(qS "run_while" 1174), (qS "run_while" 1175), (qS "/claim/cut.py" 1176), (qI 604), (qI 4), (qI 0), (qI 0), (qI 3), (qV 701), (.bool true), (qI 181), (qV 702), .none, (qV 703), (qV 704), (qV 705), (qI 1182), (qI 604), (qS "/claim/cut.py" 1183)], qN (stm 88) "run_while" .none (qS "gateloom.funcs" 1070) 706, ho_0, ho_7, qT #[(qS "s" 1188), (qS "ctx" 1189), (qS "count" 1190), (qS "disabled" 1191)], ho_0, qR (stm 89) "run_repeat", qC #[(qS "run_repeat" 1185), (qS "run_repeat" 1186), (qS "/claim/cut.py" 1187), (qI 612), (qI 2), (qI 0), (qI 0), (qI 3), (qV 708), (.bool true), (qI 181), (qV 709), .none, (qV 710), (qV 711), (qV 712), (qI 1192), (qI 612), (qS "/claim/cut.py" 1193)], qN (stm 89) "run_repeat" .none (qS "gateloom.funcs" 1070) 713, ho_0, ho_7, qT #[(qS "s" 1198), (qS "ctx" 1199)], ho_0, qR (stm 90) "run_for", qC #[(qS "run_for" 1195), (qS "run_for" 1196), (qS "/claim/cut.py" 1197), (qI 623), (qI 2), (qI 0), (qI 0), (qI 3), (qV 715), (.bool true), (qI 181), (qV 716), .none, (qV 717), (qV 718), (qV 719), (qI 1200), (qI 623), (qS "/claim/cut.py" 1201)], qN (stm 90) "run_for" .none (qS "gateloom.funcs" 1070) 720, ho_0, ho_7, qT #[(qS "s" 1206), (qS "ctx" 1207), (qS "tag" 1208)], ho_0, qR (stm 91) "run_statement", qC #[(qS "run_statement" 1203), (qS "run_statement" 1204), (qS "/claim/cut.py" 1205), (qI 626), (qI 2), (qI 0), (qI 0), (qI 3), (qV 722), (.bool true), (qI 181), (qV 723), .none, (qV 724), (qV 725), (qV 726), (qI 1209), (qI 626), (qS "/claim/cut.py" 1210)], qN (stm 91) "run_statement" .none (qS "gateloom.funcs" 1070) 727, ho_0, ho_7, qT #[(qS "e" 1217), (qS "tag" 1218)], ho_0, qR (stm 93) "children", ho_462, ho_463, ho_0, ho_7, qT #[(qS "e" 1225), (qS "found" 1226), (qS "stack" 1227), (qS "node" 1228), (qS "part" 1229)], ho_0, qR (stm 94) "subexpressions", qC #[(qS "subexpressions" 1222), (qS "subexpressions" 1223), (qS "/claim/cut.py" 1224), (qI 672), (qI 1), (qI 0), (qI 0), (qI 3), (qV 736), (.bool true), (qI 181), (qV 737), .none, (qV 738), (qV 739), (qV 740), (qI 1230), (qI 672), (qS "/claim/cut.py" 1231)], qN (stm 94) "subexpressions" .none (qS "gateloom.walks" 1212) 741, ho_0, ho_7, qT #[(qS "e" 1236), (qS "keys" 1237), (qS "node" 1238)], ho_0, qR (stm 95) "expr_reads", qC #[(qS "expr_reads" 1233), (qS "expr_reads" 1234), (qS "/claim/cut.py" 1235), (qI 681), (qI 1), (qI 0), (qI 0), (qI 3), (qV 743), (.bool true), (qI 181), (qV 744), .none, (qV 745), (qV 746), (qV 747), (qI 1239), (qI 681), (qS "/claim/cut.py" 1240)], qN (stm 95) "expr_reads" .none (qS "gateloom.walks" 1212) 748, ho_0, ho_7, qT #[(qS "e" 1245), (qS "numbers" 1246), (qS "node" 1247)], ho_0, qR (stm 96) "expr_calls", qC #[(qS "expr_calls" 1242), (qS "expr_calls" 1243), (qS "/claim/cut.py" 1244), (qI 687), (qI 1), (qI 0), (qI 0), (qI 3), (qV 750), (.bool true), (qI 181), (qV 751), .none, (qV 752), (qV 753), (qV 754), (qI 1248), (qI 687), (qS "/claim/cut.py" 1249)], qN (stm 96) "expr_calls" .none (qS "gateloom.walks" 1212) 755, ho_0, ho_7, qT #[(qS "lv" 1254), (qS "found" 1255), (qS "part" 1256)], ho_0, qR (stm 97) "target_indexes", qC #[(qS "target_indexes" 1251), (qS "target_indexes" 1252), (qS "/claim/cut.py" 1253), (qI 693), (qI 1), (qI 0), (qI 0), (qI 3), (qV 757), (.bool true), (qI 181), (qV 758), .none, (qV 759), (qV 760), (qV 761), (qI 1257), (qI 693), (qS "/claim/cut.py" 1258)], qN (stm 97) "target_indexes" .none (qS "gateloom.walks" 1212) 762]
noncomputable def tr_14 (P : Params) : BT := insF (((tr_13 P).ins 3 ({ cls := (.type "dict"), dict := none, data := .dict ((((hd_3 P).take 112).set 0 (dE P "__name__" 165 (qS "gateloom.elabparts" 1337))).set 78 (dE P "system_value" 1009 (qV 600))).toArray 112, slots := #[] })).ins 12 ({ cls := .none, dict := none, data := .fields (hf_12.take 300).toArray, slots := #[] })) 764 [ho_0, ho_7, qT #[(qS "lv" 1263), (qS "keys" 1264), (qS "part" 1265)], ho_0, qR (stm 98) "target_writes", qC #[(qS "target_writes" 1260), (qS "target_writes" 1261), (qS "/claim/cut.py" 1262), (qI 701), (qI 1), (qI 0), (qI 0), (qI 3), (qV 764), (.bool true), (qI 181), (qV 765), .none, (qV 766), (qV 767), (qV 768), (qI 1266), (qI 701), (qS "/claim/cut.py" 1267)], qN (stm 98) "target_writes" .none (qS "gateloom.walks" 1212) 769, ho_0, ho_7, qR (stm 99) "stmt_parts", qC #[(qS "stmt_parts" 1269), (qS "stmt_parts" 1270), (qS "/claim/cut.py" 1271), (qI 707), (qI 1), (qI 0), (qI 0), (qI 3), (qV 771), (.bool true), (qI 181), (qV 772), .none, .none, .none, (qV 773), (qI 1272), (qI 707), (qS "/claim/cut.py" 1273)], qN (stm 99) "stmt_parts" .none (qS "gateloom.walks" 1212) 774, ho_0, ho_7, qT #[(qS "s" 1278), (qS "found" 1279), (qS "stack" 1280), (qS "node" 1281), (qS "part" 1282)], ho_0, qR (stm 100) "substatements", qC #[(qS "substatements" 1275), (qS "substatements" 1276), (qS "/claim/cut.py" 1277), (qI 725), (qI 1), (qI 0), (qI 0), (qI 3), (qV 776), (.bool true), (qI 181), (qV 777), .none, (qV 778), (qV 779), (qV 780), (qI 1283), (qI 725), (qS "/claim/cut.py" 1284)], qN (stm 100) "substatements" .none (qS "gateloom.walks" 1212) 781, ho_0, ho_7, qR (stm 101) "stmt_targets", qC #[(qS "stmt_targets" 1286), (qS "stmt_targets" 1287), (qS "/claim/cut.py" 1288), (qI 736), (qI 1), (qI 0), (qI 0), (qI 3), (qV 783), (.bool true), (qI 181), (qV 784), .none, .none, .none, (qV 785), (qI 1289), (qI 736), (qS "/claim/cut.py" 1290)], qN (stm 101) "stmt_targets" .none (qS "gateloom.walks" 1212) 786, ho_0, ho_7, qT #[(qS "s" 1295), (qS "tag" 1296), (qS "found" 1297), (qS "row" 1298), (qS "arg" 1299), (qS "lv" 1300)], ho_0, qR (stm 102) "stmt_exprs", qC #[(qS "stmt_exprs" 1292), (qS "stmt_exprs" 1293), (qS "/claim/cut.py" 1294), (qI 742), (qI 1), (qI 0), (qI 0), (qI 3), (qV 788), (.bool true), (qI 181), (qV 789), .none, (qV 790), (qV 791), (qV 792), (qI 1301), (qI 742), (qS "/claim/cut.py" 1302)], qN (stm 102) "stmt_exprs" .none (qS "gateloom.walks" 1212) 793, ho_0, ho_7, qT #[(qS "s" 1307), (qS "keys" 1308), (qS "node" 1309), (qS "e" 1310), (qS "key" 1311)], ho_0, qR (stm 103) "stmt_reads", qC #[(qS "stmt_reads" 1304), (qS "stmt_reads" 1305), (qS "/claim/cut.py" 1306), (qI 767), (qI 1), (qI 0), (qI 0), (qI 3), (qV 795), (.bool true), (qI 181), (qV 796), .none, (qV 797), (qV 798), (qV 799), (qI 1312), (qI 767), (qS "/claim/cut.py" 1313)], qN (stm 103) "stmt_reads" .none (qS "gateloom.walks" 1212) 800, ho_0, ho_7, qT #[(qS "s" 1318), (qS "keys" 1319), (qS "node" 1320), (qS "lv" 1321), (qS "key" 1322)], ho_0, qR (stm 104) "stmt_writes", qC #[(qS "stmt_writes" 1315), (qS "stmt_writes" 1316), (qS "/claim/cut.py" 1317), (qI 774), (qI 1), (qI 0), (qI 0), (qI 3), (qV 802), (.bool true), (qI 181), (qV 803), .none, (qV 804), (qV 805), (qV 806), (qI 1323), (qI 774), (qS "/claim/cut.py" 1324)], qN (stm 104) "stmt_writes" .none (qS "gateloom.walks" 1212) 807, ho_0, ho_7, qT #[(qS "s" 1329), (qS "numbers" 1330), (qS "node" 1331), (qS "e" 1332), (qS "number" 1333)], ho_0, qR (stm 105) "stmt_calls", qC #[(qS "stmt_calls" 1326), (qS "stmt_calls" 1327), (qS "/claim/cut.py" 1328), (qI 781), (qI 1), (qI 0), (qI 0), (qI 3), (qV 809), (.bool true), (qI 181), (qV 810), .none, (qV 811), (qV 812), (qV 813), (qI 1334), (qI 781), (qS "/claim/cut.py" 1335)], qN (stm 105) "stmt_calls" .none (qS "gateloom.walks" 1212) 814, ho_0, ho_7, qT #[(qS "e" 1344), (qS "name" 1345), (qS "index" 1346)], ho_0, qR (stm 108) "last_select", ho_514, ho_515, ho_0, ho_7, qT #[(qS "scope" 1353), (qS "entry" 1354)], ho_0, qR (stm 109) "is_memory", ho_518, ho_519, ho_0, ho_7, qT #[(qS "scope" 1361), (qS "entry" 1362), (qS "at" 1363), (qS "signal" 1364)], ho_0, qR (stm 110) "shape", ho_522, ho_523, ho_0, ho_7, qT #[(qS "scope" 1371), (qS "entry" 1372), (qS "word" 1373), (qS "width" 1374)], ho_0, qR (stm 111) "read_entry", ho_526, ho_527]
noncomputable def tr_15 (P : Params) : BT := insF (((tr_14 P).ins 3 ({ cls := (.type "dict"), dict := none, data := .dict ((((hd_3 P).take 124).set 0 (dE P "__name__" 165 (qS "gateloom.elabexpr" 1473))).set 78 (dE P "system_value" 1009 (qV 600))).toArray 124, slots := #[] })).ins 12 ({ cls := .none, dict := none, data := .fields (hf_12.take 336).toArray, slots := #[] })) 844 [ho_0, ho_7, qT #[(qS "e" 1381)], ho_0, qR (stm 112) "folds", ho_532, ho_533, ho_0, ho_7, qT #[(qS "e" 1388), (qS "part" 1389)], ho_0, qR (stm 113) "folded", ho_536, ho_537, ho_0, ho_7, qT #[(qS "width" 1396), (qS "at" 1397)], ho_0, qR (stm 114) "checked_width", ho_540, ho_541, ho_0, ho_7, qT #[(qS "value" 1404), (qS "width" 1405), (qS "where" 1406)], ho_0, qR (stm 115) "selected", qC #[(qS "selected" 1401), (qS "selected" 1402), (qS "/claim/cut.py" 1403), (qI 840), (qI 3), (qI 0), (qI 0), (qI 3), (qV 865), (.bool true), (qI 181), (qV 866), .none, (qV 867), (qV 868), (qV 869), (qI 1407), (qI 840), (qS "/claim/cut.py" 1408)], qN (stm 115) "selected" .none (qS "gateloom.elabparts" 1337) 870, ho_0, ho_7, qT #[(qS "text" 1413), (qS "value" 1414), (qS "sign" 1415)], ho_0, qR (stm 116) "text_vec", ho_548, ho_549, ho_0, ho_7, qT #[(qS "e" 1422)], ho_0, qR (stm 117) "inner_join", ho_552, ho_553, ho_0, ho_7, qT #[(qS "op" 1429)], ho_0, qR (stm 118) "is_context_operator", qC #[(qS "is_context_operator" 1426), (qS "is_context_operator" 1427), (qS "/claim/cut.py" 1428), (qI 851), (qI 1), (qI 0), (qI 0), (qI 3), (qV 886), (.bool true), (qI 181), (qV 887), .none, (qV 888), (qV 889), (qV 890), (qI 1430), (qI 851), (qS "/claim/cut.py" 1431)], qN (stm 118) "is_context_operator" .none (qS "gateloom.elabparts" 1337) 891, ho_0, ho_7, qT #[(qS "op" 1436)], ho_0, qR (stm 119) "is_shift", qC #[(qS "is_shift" 1433), (qS "is_shift" 1434), (qS "/claim/cut.py" 1435), (qI 853), (qI 1), (qI 0), (qI 0), (qI 3), (qV 893), (.bool true), (qI 181), (qV 894), .none, (qV 895), (qV 896), (qV 897), (qI 1437), (qI 853), (qS "/claim/cut.py" 1438)], qN (stm 119) "is_shift" .none (qS "gateloom.elabparts" 1337) 898, ho_0, ho_7, qT #[(qS "value" 1443), (qS "w" 1444), (qS "signed" 1445)], ho_0, qR (stm 120) "widen", ho_564, ho_565, ho_0, ho_7, qT #[(qS "e" 1452), (qS "w" 1453), (qS "signed" 1454), (qS "number" 1455), (qS "fill" 1456)], ho_0, qR (stm 121) "number_value", ho_568, ho_569, ho_0, ho_7, qT #[(qS "design" 1463), (qS "e" 1464), (qS "node" 1465), (qS "numbers" 1466), (qS "seen" 1467), (qS "n" 1468), (qS "body" 1469)], ho_0, qR (stm 122) "is_constant", qC #[(qS "is_constant" 1460), (qS "is_constant" 1461), (qS "/claim/cut.py" 1462), (qI 863), (qI 2), (qI 0), (qI 0), (qI 3), (qV 914), (.bool true), (qI 181), (qV 915), .none, (qV 916), (qV 917), (qV 918), (qI 1470), (qI 863), (qS "/claim/cut.py" 1471)], qN (stm 122) "is_constant" .none (qS "gateloom.elabparts" 1337) 919, ho_0, ho_7, qT #[(qS "scope" 1478), (qS "e" 1479), (qS "names" 1480), (qS "name" 1481), (qS "index" 1482)], ho_0, qR (stm 124) "path_names", ho_576, ho_577]
noncomputable def tr_16 (P : Params) : BT := insF (((tr_15 P).ins 3 ({ cls := (.type "dict"), dict := none, data := .dict (((hd_3 P).take 135).set 0 (dE P "__name__" 165 (qS "gateloom.elabexpr" 1473))).toArray 135, slots := #[] })).ins 12 ({ cls := .none, dict := none, data := .fields (hf_12.take 369).toArray, slots := #[] })) 928 [ho_0, ho_7, qT #[(qS "scope" 1489), (qS "e" 1490), (qS "entry" 1491)], ho_0, qR (stm 125) "entry_of", ho_582, ho_583, ho_0, ho_7, qT #[(qS "scope" 1498), (qS "e" 1499), (qS "entry" 1500), (qS "inner" 1501)], ho_0, qR (stm 126) "base_entry", qC #[(qS "base_entry" 1495), (qS "base_entry" 1496), (qS "/claim/cut.py" 1497), (qI 895), (qI 2), (qI 0), (qI 0), (qI 3), (qV 935), (.bool true), (qI 181), (qV 936), .none, (qV 937), (qV 938), (qV 939), (qI 1502), (qI 895), (qS "/claim/cut.py" 1503)], qN (stm 126) "base_entry" .none (qS "gateloom.elabexpr" 1473) 940, ho_0, ho_7, qT #[(qS "scope" 1508), (qS "e" 1509)], ho_0, qR (stm 127) "select_width", qC #[(qS "select_width" 1505), (qS "select_width" 1506), (qS "/claim/cut.py" 1507), (qI 905), (qI 2), (qI 0), (qI 0), (qI 3), (qV 942), (.bool true), (qI 181), (qV 943), .none, (qV 944), (qV 945), (qV 946), (qI 1510), (qI 905), (qS "/claim/cut.py" 1511)], qN (stm 127) "select_width" .none (qS "gateloom.elabexpr" 1473) 947, ho_0, ho_7, qT #[(qS "scope" 1516), (qS "e" 1517), (qS "form" 1518), (qS "msb" 1519), (qS "lsb" 1520), (qS "step" 1521), (qS "left" 1522), (qS "right" 1523), (qS "width" 1524), (qS "base" 1525), (qS "index" 1526), (qS "signed" 1527)], ho_0, qR (stm 128) "select_where", qC #[(qS "select_where" 1513), (qS "select_where" 1514), (qS "/claim/cut.py" 1515), (qI 911), (qI 3), (qI 0), (qI 0), (qI 3), (qV 949), (.bool true), (qI 181), (qV 950), .none, (qV 951), (qV 952), (qV 953), (qI 1528), (qI 911), (qS "/claim/cut.py" 1529)], qN (stm 128) "select_where" .none (qS "gateloom.elabexpr" 1473) 954, ho_0, ho_7, qT #[(qS "scope" 1534), (qS "e" 1535), (qS "entry" 1536), (qS "inner" 1537)], ho_0, qR (stm 129) "named_type", ho_598, ho_599, ho_0, ho_7, qT #[(qS "scope" 1544), (qS "e" 1545), (qS "entry" 1546), (qS "inner" 1547), (qS "form" 1548), (qS "word" 1549), (qS "where" 1550)], ho_0, qR (stm 130) "named_value", ho_602, ho_603, ho_0, ho_7, qT #[(qS "scope" 1557), (qS "e" 1558), (qS "entry" 1559), (qS "routine" 1560)], ho_0, qR (stm 131) "function_of", ho_606, ho_607, ho_0, ho_7, qT #[(qS "scope" 1567), (qS "e" 1568), (qS "routine" 1569), (qS "args" 1570), (qS "at" 1571), (qS "port" 1572)], ho_0, qR (stm 132) "call_value", ho_610, ho_611, ho_0, ho_7, qT #[(qS "scope" 1579), (qS "e" 1580), (qS "name" 1581), (qS "count" 1582)], ho_0, qR (stm 133) "system_type", qC #[(qS "system_type" 1576), (qS "system_type" 1577), (qS "/claim/cut.py" 1578), (qI 985), (qI 2), (qI 0), (qI 0), (qI 3), (qV 984), (.bool true), (qI 181), (qV 985), .none, (qV 986), (qV 987), (qV 988), (qI 1583), (qI 985), (qS "/claim/cut.py" 1584)], qN (stm 133) "system_type" .none (qS "gateloom.elabexpr" 1473) 989, ho_0, ho_7, qT #[(qS "scope" 1589), (qS "e" 1590), (qS "width" 1591), (qS "args" 1592), (qS "arg" 1593)], ho_0, qR (stm 134) "system_value", qC #[(qS "system_value" 1586), (qS "system_value" 1587), (qS "/claim/cut.py" 1588), (qI 1003), (qI 2), (qI 0), (qI 0), (qI 3), (qV 991), (.bool true), (qI 181), (qV 992), .none, (qV 993), (qV 994), (qV 995), (qI 1594), (qI 1003), (qS "/claim/cut.py" 1595)], qN (stm 134) "system_value" .none (qS "gateloom.elabexpr" 1473) 996, ho_0, ho_7, qT #[(qS "scope" 1601), (qS "e" 1602), (qS "parts" 1603), (qS "part" 1604)], ho_0, qR (stm 136) "joined_parts", ho_622, ho_623]
noncomputable def tr_17 (P : Params) : BT := insF (((tr_16 P).ins 3 ({ cls := (.type "dict"), dict := none, data := .dict (((hd_3 P).take 147).set 0 (dE P "__name__" 165 (qS "gateloom.elabexpr" 1473))).toArray 147, slots := #[] })).ins 12 ({ cls := .none, dict := none, data := .fields (hf_12.take 405).toArray, slots := #[] })) 1005 [ho_0, ho_7, qT #[(qS "scope" 1611), (qS "e" 1612), (qS "n" 1613)], ho_0, qR (stm 137) "copies", ho_628, ho_629, ho_0, ho_7, qT #[(qS "scope" 1620), (qS "e" 1621), (qS "width" 1622), (qS "part" 1623)], ho_0, qR (stm 138) "joined_width", ho_632, ho_633, ho_0, ho_7, qT #[(qS "scope" 1630), (qS "e" 1631), (qS "width" 1632), (qS "parts" 1633), (qS "part" 1634)], ho_0, qR (stm 139) "joined_value", ho_636, ho_637, ho_0, ho_7, qT #[(qS "scope" 1641), (qS "left" 1642), (qS "right" 1643), (qS "one" 1644), (qS "other" 1645)], ho_0, qR (stm 140) "both_types", qC #[(qS "both_types" 1638), (qS "both_types" 1639), (qS "/claim/cut.py" 1640), (qI 1042), (qI 3), (qI 0), (qI 0), (qI 3), (qV 1026), (.bool true), (qI 181), (qV 1027), .none, (qV 1028), (qV 1029), (qV 1030), (qI 1646), (qI 1042), (qS "/claim/cut.py" 1647)], qN (stm 140) "both_types" .none (qS "gateloom.elabexpr" 1473) 1031, ho_0, ho_7, qT #[(qS "scope" 1652), (qS "e" 1653), (qS "tag" 1654), (qS "routine" 1655)], ho_0, qR (stm 141) "expr_type", ho_644, ho_645, ho_0, ho_7, qT #[(qS "scope" 1662), (qS "e" 1663), (qS "w" 1664), (qS "signed" 1665), (qS "op" 1666)], ho_0, qR (stm 142) "unary_value", qC #[(qS "unary_value" 1659), (qS "unary_value" 1660), (qS "/claim/cut.py" 1661), (qI 1074), (qI 4), (qI 0), (qI 0), (qI 3), (qV 1040), (.bool true), (qI 181), (qV 1041), .none, (qV 1042), (qV 1043), (qV 1044), (qI 1667), (qI 1074), (qS "/claim/cut.py" 1668)], qN (stm 142) "unary_value" .none (qS "gateloom.elabexpr" 1473) 1045, ho_0, ho_7, qT #[(qS "scope" 1673), (qS "e" 1674), (qS "w" 1675), (qS "signed" 1676), (qS "op" 1677), (qS "left" 1678), (qS "right" 1679), (qS "right_signed" 1680), (qS "width" 1681), (qS "both" 1682)], ho_0, qR (stm 143) "binary_value", qC #[(qS "binary_value" 1670), (qS "binary_value" 1671), (qS "/claim/cut.py" 1672), (qI 1081), (qI 4), (qI 0), (qI 0), (qI 3), (qV 1047), (.bool true), (qI 181), (qV 1048), .none, (qV 1049), (qV 1050), (qV 1051), (qI 1683), (qI 1081), (qS "/claim/cut.py" 1684)], qN (stm 143) "binary_value" .none (qS "gateloom.elabexpr" 1473) 1052, ho_0, ho_7, qT #[(qS "scope" 1689), (qS "e" 1690), (qS "w" 1691), (qS "signed" 1692), (qS "tag" 1693), (qS "test" 1694), (qS "then" 1695), (qS "value" 1696)], ho_0, qR (stm 144) "build", ho_656, ho_657, ho_0, ho_7, qT #[(qS "scope" 1703), (qS "e" 1704), (qS "width" 1705), (qS "signed" 1706)], ho_0, qR (stm 145) "self_determined", ho_660, ho_661, ho_0, ho_7, qT #[(qS "scope" 1713), (qS "e" 1714), (qS "w" 1715), (qS "width" 1716), (qS "signed" 1717)], ho_0, qR (stm 146) "sized", ho_664, ho_665, ho_0, ho_7, qT #[(qS "scope" 1724), (qS "value" 1725), (qS "at" 1726), (qS "store" 1727)], ho_0, qR (stm 147) "constant_vec", ho_668, ho_669, ho_0, ho_7, qT #[(qS "scope" 1734), (qS "e" 1735), (qS "value" 1736), (qS "signed" 1737)], ho_0, qR (stm 148) "constant", ho_672, ho_673]
noncomputable def tr_18 (P : Params) : BT := insF (((tr_17 P).ins 3 ({ cls := (.type "dict"), dict := none, data := .dict (((hd_3 P).take 149).set 0 (dE P "__name__" 165 (qS "gateloom.design" 1752))).toArray 149, slots := #[] })).ins 12 ({ cls := .none, dict := none, data := .fields (hf_12.take 411).toArray, slots := #[] })) 1089 [ho_0, ho_7, qT #[(qS "scope" 1744), (qS "e" 1745), (qS "value" 1746), (qS "signed" 1747), (qS "number" 1748)], ho_0, qR (stm 149) "whole", ho_678, ho_679, ho_0, ho_7, ho_0, ho_0, qR (stm 151) "net_kinds", ho_681, ho_682]
noncomputable def tr_19 (P : Params) : BT := insF (((tr_18 P).ins 3 ({ cls := (.type "dict"), dict := none, data := .dict (((hd_3 P).take 150).set 0 (dE P "__name__" 165 (qS "gateloom.design" 1752))).toArray 150, slots := #[] })).ins 12 ({ cls := .none, dict := none, data := .fields (hf_12.take 414).toArray, slots := #[] })) 1103 [ho_0, ho_13, { cls := (.type "dict"), dict := none, data := .dict #[dE P "__module__" 1767 (qS "gateloom.design" 1752), dE P "__qualname__" 1769 (qS "Signal" 1768), dE P "__firstlineno__" 1771 (.int (1148) 1770), dE P "__init__" 1785 (qV 1116), dE P "is_net" 1792 (qV 1123), dE P "is_memory" 1799 (qV 1130), dE P "words" 1806 (qV 1137), dE P "offset" 1815 (qV 1144), dE P "place" 1824 (qV 1151), dE P "__static_attributes__" 1837 (qV 1152)] 10, slots := #[] }, ho_0, qF #[(qI 1150), (qI 4), (qV 1115), (qI 1164), (qI 4), (qV 1122), (qI 1167), (qI 4), (qV 1129), (qI 1170), (qI 4), (qV 1136), (qI 1175), (qI 4), (qV 1143), (qI 1184), (qI 4), (qV 1150)], qC #[(qS "Signal" 1762), (qS "Signal" 1763), (qS "/claim/cut.py" 1764), (qI 1148), (qI 0), (qI 0), (qI 0), (qI 0), (qV 1106), (.bool false), (qI 181), (qV 1107), .none, .none, .none, .none, (qI 1765), (qI 1148), (qS "/claim/cut.py" 1766)], { cls := (.type "frame"), dict := none, data := .plain, slots := #[(some (qV 1108)), (some (qV 3)), (some (qV 1105)), none, (some (qS "gateloom.design" 1752)), none, (some (qV 0))] }, ho_0, ho_7, qT #[(qS "self" 1775), (qS "key" 1776), (qS "path" 1777), (qS "kind" 1778), (qS "width" 1779), (qS "signed" 1780), (qS "msb" 1781), (qS "lsb" 1782)], ho_0, qR (met 152 0) "Signal.__init__", ho_691, ho_692, ho_0, ho_7, qT #[(qS "self" 1789)], ho_0, qR (met 152 1) "Signal.is_net", ho_695, ho_696, ho_0, ho_7, qT #[(qS "self" 1796)], ho_0, qR (met 152 2) "Signal.is_memory", ho_699, ho_700, ho_0, ho_7, qT #[(qS "self" 1803)], ho_0, qR (met 152 3) "Signal.words", qC #[(qS "words" 1800), (qS "Signal.words" 1801), (qS "/claim/cut.py" 1802), (qI 1170), (qI 1), (qI 0), (qI 0), (qI 3), (qV 1131), (.bool true), (qI 181), (qV 1132), .none, (qV 1133), (qV 1134), (qV 1135), (qI 1804), (qI 1170), (qS "/claim/cut.py" 1805)], qN (met 152 3) "Signal.words" .none (qS "gateloom.design" 1752) 1136, ho_0, ho_7, qT #[(qS "self" 1810), (qS "index" 1811), (qS "place" 1812)], ho_0, qR (met 152 4) "Signal.offset", qC #[(qS "offset" 1807), (qS "Signal.offset" 1808), (qS "/claim/cut.py" 1809), (qI 1175), (qI 2), (qI 0), (qI 0), (qI 3), (qV 1138), (.bool true), (qI 181), (qV 1139), .none, (qV 1140), (qV 1141), (qV 1142), (qI 1813), (qI 1175), (qS "/claim/cut.py" 1814)], qN (met 152 4) "Signal.offset" .none (qS "gateloom.design" 1752) 1143, ho_0, ho_7, qT #[(qS "self" 1819), (qS "index" 1820), (qS "place" 1821)], ho_0, qR (met 152 5) "Signal.place", qC #[(qS "place" 1816), (qS "Signal.place" 1817), (qS "/claim/cut.py" 1818), (qI 1184), (qI 2), (qI 0), (qI 0), (qI 3), (qV 1145), (.bool true), (qI 181), (qV 1146), .none, (qV 1147), (qV 1148), (qV 1149), (qI 1822), (qI 1184), (qS "/claim/cut.py" 1823)], qN (met 152 5) "Signal.place" .none (qS "gateloom.design" 1752) 1150, qT #[(qS "at" 1825), (qS "first" 1826), (qS "init" 1827), (qS "key" 1828), (qS "kind" 1829), (qS "last" 1830), (qS "lsb" 1831), (qS "msb" 1832), (qS "path" 1833), (qS "scalar" 1834), (qS "signed" 1835), (qS "width" 1836)], ho_714 P, ho_715, { cls := (.type "getset_descriptor"), dict := none, data := .fields #[(qS "__dict__" 1838), (qV 1154), (.builtin "function.__dict__"), (.builtin "function.__dict__#set")], slots := #[] }, { cls := (.type "getset_descriptor"), dict := none, data := .fields #[(qS "__weakref__" 1840), (qV 1154), (.builtin "ExceptionGroup.__weakref__"), .none], slots := #[] }, { cls := (.type "super"), dict := none, data := .fields #[(qV 1154), (qV 1154), (qV 1154)], slots := #[] }, { cls := (.type "builtin_function_or_method"), dict := none, data := .fields #[(.builtin "object.__init_subclass__"), (qV 1154)], slots := #[] }]
noncomputable def tr_20 (P : Params) : BT := insF (((tr_19 P).ins 3 ({ cls := (.type "dict"), dict := none, data := .dict (((hd_3 P).take 151).set 0 (dE P "__name__" 165 (qS "gateloom.design" 1752))).toArray 151, slots := #[] })).ins 12 ({ cls := .none, dict := none, data := .fields (hf_12.take 417).toArray, slots := #[] })) 1159 [ho_0, ho_13, { cls := (.type "dict"), dict := none, data := .dict #[dE P "__module__" 1852 (qS "gateloom.design" 1752), dE P "__qualname__" 1854 (qS "Routine" 1853), dE P "__firstlineno__" 1856 (.int (1194) 1855), dE P "__init__" 1868 (qV 1172), dE P "inputs" 1874 (qV 1177), dE P "__static_attributes__" 1889 (qV 1178)] 6, slots := #[] }, ho_0, qF #[(qI 1196), (qI 4), (qV 1171), (qI 1212), (qI 4), (qV 1176)], qC #[(qS "Routine" 1847), (qS "Routine" 1848), (qS "/claim/cut.py" 1849), (qI 1194), (qI 0), (qI 0), (qI 0), (qI 0), (qV 1162), (.bool false), (qI 181), (qV 1163), .none, .none, .none, .none, (qI 1850), (qI 1194), (qS "/claim/cut.py" 1851)], { cls := (.type "frame"), dict := none, data := .plain, slots := #[(some (qV 1164)), (some (qV 3)), (some (qV 1161)), none, (some (qS "gateloom.design" 1752)), none, (some (qV 0))] }, ho_0, ho_7, qT #[(qS "self" 1860), (qS "number" 1861), (qS "path" 1862), (qS "is_function" 1863), (qS "automatic" 1864), (qS "at" 1865)], ho_0, qR (met 153 0) "Routine.__init__", ho_728, ho_729, ho_0, ho_7, qR (met 153 1) "Routine.inputs", ho_731, ho_732, qT #[(qS "at" 1875), (qS "automatic" 1876), (qS "body" 1877), (qS "disable_scope" 1878), (qS "is_function" 1879), (qS "made" 1880), (qS "number" 1881), (qS "path" 1882), (qS "ports" 1883), (qS "scope" 1884), (qS "signed" 1885), (qS "slots" 1886), (qS "source" 1887), (qS "width" 1888)], ho_734 P, ho_735, { cls := (.type "getset_descriptor"), dict := none, data := .fields #[(qS "__dict__" 1890), (qV 1180), (.builtin "function.__dict__"), (.builtin "function.__dict__#set")], slots := #[] }, { cls := (.type "getset_descriptor"), dict := none, data := .fields #[(qS "__weakref__" 1892), (qV 1180), (.builtin "ExceptionGroup.__weakref__"), .none], slots := #[] }, { cls := (.type "super"), dict := none, data := .fields #[(qV 1180), (qV 1180), (qV 1180)], slots := #[] }, { cls := (.type "builtin_function_or_method"), dict := none, data := .fields #[(.builtin "object.__init_subclass__"), (qV 1180)], slots := #[] }]
noncomputable def tr_21 (P : Params) : BT := insF (((tr_20 P).ins 3 ({ cls := (.type "dict"), dict := none, data := .dict (((hd_3 P).take 152).set 0 (dE P "__name__" 165 (qS "gateloom.design" 1752))).toArray 152, slots := #[] })).ins 12 ({ cls := .none, dict := none, data := .fields (hf_12.take 420).toArray, slots := #[] })) 1185 [ho_0, ho_13, { cls := (.type "dict"), dict := none, data := .dict #[dE P "__module__" 1904 (qS "gateloom.design" 1752), dE P "__qualname__" 1906 (qS "Design" 1905), dE P "__firstlineno__" 1908 (.int (1214) 1907), dE P "__init__" 1915 (qV 1198), dE P "add_signal" 1930 (qV 1205), dE P "add_scope" 1938 (qV 1212), dE P "add_routine" 1950 (qV 1219), dE P "add_process" 1961 (qV 1226), dE P "find" 1969 (qV 1233), dE P "routine" 1978 (qV 1240), dE P "__static_attributes__" 1990 (qV 1241)] 11, slots := #[] }, ho_0, qF #[(qI 1216), (qI 4), (qV 1197), (qI 1229), (qI 4), (qV 1204), (qI 1236), (qI 4), (qV 1211), (qI 1240), (qI 4), (qV 1218), (qI 1245), (qI 4), (qV 1225), (qI 1248), (qI 4), (qV 1232), (qI 1251), (qI 4), (qV 1239)], qC #[(qS "Design" 1899), (qS "Design" 1900), (qS "/claim/cut.py" 1901), (qI 1214), (qI 0), (qI 0), (qI 0), (qI 0), (qV 1188), (.bool false), (qI 181), (qV 1189), .none, .none, .none, .none, (qI 1902), (qI 1214), (qS "/claim/cut.py" 1903)], { cls := (.type "frame"), dict := none, data := .plain, slots := #[(some (qV 1190)), (some (qV 3)), (some (qV 1187)), none, (some (qS "gateloom.design" 1752)), none, (some (qV 0))] }, ho_0, ho_7, qT #[(qS "self" 1912)], ho_0, qR (met 154 0) "Design.__init__", ho_748, ho_749, ho_0, ho_7, qT #[(qS "self" 1919), (qS "path" 1920), (qS "kind" 1921), (qS "width" 1922), (qS "signed" 1923), (qS "msb" 1924), (qS "lsb" 1925), (qS "at" 1926), (qS "signal" 1927)], ho_0, qR (met 154 1) "Design.add_signal", ho_752, ho_753, ho_0, ho_7, qT #[(qS "self" 1934), (qS "path" 1935)], ho_0, qR (met 154 2) "Design.add_scope", ho_756, ho_757, ho_0, ho_7, qT #[(qS "self" 1942), (qS "path" 1943), (qS "is_function" 1944), (qS "automatic" 1945), (qS "at" 1946), (qS "routine" 1947)], ho_0, qR (met 154 3) "Design.add_routine", ho_760, ho_761, ho_0, ho_7, qT #[(qS "self" 1954), (qS "kind" 1955), (qS "body" 1956), (qS "path" 1957), (qS "at" 1958)], ho_0, qR (met 154 4) "Design.add_process", qC #[(qS "add_process" 1951), (qS "Design.add_process" 1952), (qS "/claim/cut.py" 1953), (qI 1245), (qI 5), (qI 0), (qI 0), (qI 3), (qV 1220), (.bool true), (qI 181), (qV 1221), .none, (qV 1222), (qV 1223), (qV 1224), (qI 1959), (qI 1245), (qS "/claim/cut.py" 1960)], qN (met 154 4) "Design.add_process" .none (qS "gateloom.design" 1752) 1225, ho_0, ho_7, qT #[(qS "self" 1965), (qS "path" 1966)], ho_0, qR (met 154 5) "Design.find", qC #[(qS "find" 1962), (qS "Design.find" 1963), (qS "/claim/cut.py" 1964), (qI 1248), (qI 2), (qI 0), (qI 0), (qI 3), (qV 1227), (.bool true), (qI 181), (qV 1228), .none, (qV 1229), (qV 1230), (qV 1231), (qI 1967), (qI 1248), (qS "/claim/cut.py" 1968)], qN (met 154 5) "Design.find" .none (qS "gateloom.design" 1752) 1232, ho_0, ho_7, qT #[(qS "self" 1973), (qS "n" 1974), (qS "routine" 1975)], ho_0, qR (met 154 6) "Design.routine", qC #[(qS "routine" 1970), (qS "Design.routine" 1971), (qS "/claim/cut.py" 1972), (qI 1251), (qI 2), (qI 0), (qI 0), (qI 3), (qV 1234), (.bool true), (qI 181), (qV 1235), .none, (qV 1236), (qV 1237), (qV 1238), (qI 1976), (qI 1251), (qS "/claim/cut.py" 1977)], qN (met 154 6) "Design.routine" .none (qS "gateloom.design" 1752) 1239, qT #[(qS "assigns" 1979), (qS "by_path" 1980), (qS "gates" 1981), (qS "maker" 1982), (qS "ports" 1983), (qS "processes" 1984), (qS "routines" 1985), (qS "scopes" 1986), (qS "signals" 1987), (qS "tops" 1988), (qS "udps" 1989)], ho_775 P, ho_776, { cls := (.type "getset_descriptor"), dict := none, data := .fields #[(qS "__dict__" 1991), (qV 1243), (.builtin "function.__dict__"), (.builtin "function.__dict__#set")], slots := #[] }, { cls := (.type "getset_descriptor"), dict := none, data := .fields #[(qS "__weakref__" 1993), (qV 1243), (.builtin "ExceptionGroup.__weakref__"), .none], slots := #[] }, { cls := (.type "super"), dict := none, data := .fields #[(qV 1243), (qV 1243), (qV 1243)], slots := #[] }, { cls := (.type "builtin_function_or_method"), dict := none, data := .fields #[(.builtin "object.__init_subclass__"), (qV 1243)], slots := #[] }]
noncomputable def tr_22 (P : Params) : BT := insF ((tr_21 P).ins 3 ({ cls := (.type "dict"), dict := none, data := .dict (((hd_3 P).take 152).set 0 (dE P "__name__" 165 (qS "gateloom.scopes" 1998))).toArray 152, slots := #[] })) 1248 []
noncomputable def tr_23 (P : Params) : BT := insF (((tr_22 P).ins 3 ({ cls := (.type "dict"), dict := none, data := .dict (((hd_3 P).take 153).set 0 (dE P "__name__" 165 (qS "gateloom.scopes" 1998))).toArray 153, slots := #[] })).ins 12 ({ cls := .none, dict := none, data := .fields (hf_12.take 423).toArray, slots := #[] })) 1248 [ho_0, ho_13, { cls := (.type "dict"), dict := none, data := .dict #[dE P "__module__" 2007 (qS "gateloom.scopes" 1998), dE P "__qualname__" 2009 (qS "Scope" 2008), dE P "__firstlineno__" 2011 (.int (1259) 2010), dE P "__init__" 2022 (qV 1261), dE P "child" 2033 (qV 1268), dE P "declare" 2043 (qV 1275), dE P "module_scope" 2050 (qV 1282), dE P "lookup" 2059 (qV 1289), dE P "lookup_routine" 2069 (qV 1296), dE P "descend" 2080 (qV 1303), dE P "resolve" 2091 (qV 1310), dE P "answers_to" 2099 (qV 1317), dE P "__static_attributes__" 2109 (qV 1318)] 13, slots := #[] }, ho_0, qF #[(qI 1261), (qI 4), (qV 1260), (qI 1275), (qI 4), (qV 1267), (qI 1280), (qI 4), (qV 1274), (qI 1285), (qI 4), (qV 1281), (qI 1288), (qI 4), (qV 1288), (qI 1298), (qI 4), (qV 1295), (qI 1309), (qI 4), (qV 1302), (qI 1321), (qI 4), (qV 1309), (qI 1332), (qI 4), (qV 1316)], qC #[(qS "Scope" 2002), (qS "Scope" 2003), (qS "/claim/cut.py" 2004), (qI 1259), (qI 0), (qI 0), (qI 0), (qI 0), (qV 1251), (.bool false), (qI 181), (qV 1252), .none, .none, .none, .none, (qI 2005), (qI 1259), (qS "/claim/cut.py" 2006)], { cls := (.type "frame"), dict := none, data := .plain, slots := #[(some (qV 1253)), (some (qV 3)), (some (qV 1250)), none, (some (qS "gateloom.scopes" 1998)), none, (some (qV 0))] }, ho_0, ho_7, qT #[(qS "self" 2015), (qS "design" 2016), (qS "name" 2017), (qS "parent" 2018), (qS "kind" 2019)], ho_0, qR (met 156 0) "Scope.__init__", ho_790, ho_791, ho_0, ho_7, qT #[(qS "self" 2026), (qS "name" 2027), (qS "kind" 2028), (qS "at" 2029), (qS "inner" 2030)], ho_0, qR (met 156 1) "Scope.child", ho_794, ho_795, ho_0, ho_7, qT #[(qS "self" 2037), (qS "name" 2038), (qS "entry" 2039), (qS "at" 2040)], ho_0, qR (met 156 2) "Scope.declare", ho_798, ho_799, ho_0, ho_7, qT #[(qS "self" 2047)], ho_0, qR (met 156 3) "Scope.module_scope", qC #[(qS "module_scope" 2044), (qS "Scope.module_scope" 2045), (qS "/claim/cut.py" 2046), (qI 1285), (qI 1), (qI 0), (qI 0), (qI 3), (qV 1276), (.bool true), (qI 181), (qV 1277), .none, (qV 1278), (qV 1279), (qV 1280), (qI 2048), (qI 1285), (qS "/claim/cut.py" 2049)], qN (met 156 3) "Scope.module_scope" .none (qS "gateloom.scopes" 1998) 1281, ho_0, ho_7, qT #[(qS "self" 2054), (qS "name" 2055), (qS "scope" 2056)], ho_0, qR (met 156 4) "Scope.lookup", ho_806, ho_807, ho_0, ho_7, qT #[(qS "self" 2063), (qS "name" 2064), (qS "scope" 2065), (qS "entry" 2066)], ho_0, qR (met 156 5) "Scope.lookup_routine", ho_810, ho_811, ho_0, ho_7, qT #[(qS "self" 2073), (qS "parts" 2074), (qS "scope" 2075), (qS "entry" 2076), (qS "name" 2077)], ho_0, qR (met 156 6) "Scope.descend", ho_814, ho_815, ho_0, ho_7, qT #[(qS "self" 2084), (qS "parts" 2085), (qS "at" 2086), (qS "scope" 2087), (qS "entry" 2088)], ho_0, qR (met 156 7) "Scope.resolve", ho_818, ho_819, ho_0, ho_7, qT #[(qS "self" 2095), (qS "name" 2096)], ho_0, qR (met 156 8) "Scope.answers_to", ho_822, ho_823, qT #[(qS "design" 2100), (qS "entries" 2101), (qS "kind" 2102), (qS "module_name" 2103), (qS "name" 2104), (qS "nettype" 2105), (qS "number" 2106), (qS "parent" 2107), (qS "path" 2108)], ho_825 P, ho_826, { cls := (.type "getset_descriptor"), dict := none, data := .fields #[(qS "__dict__" 2110), (qV 1320), (.builtin "function.__dict__"), (.builtin "function.__dict__#set")], slots := #[] }, { cls := (.type "getset_descriptor"), dict := none, data := .fields #[(qS "__weakref__" 2112), (qV 1320), (.builtin "ExceptionGroup.__weakref__"), .none], slots := #[] }, { cls := (.type "super"), dict := none, data := .fields #[(qV 1320), (qV 1320), (qV 1320)], slots := #[] }, { cls := (.type "builtin_function_or_method"), dict := none, data := .fields #[(.builtin "object.__init_subclass__"), (qV 1320)], slots := #[] }]
noncomputable def tr_24 (P : Params) : BT := insF (((tr_23 P).ins 3 ({ cls := (.type "dict"), dict := none, data := .dict ((hd_3 P).take 164).toArray 164, slots := #[] })).ins 12 ({ cls := .none, dict := none, data := .fields (hf_12.take 456).toArray, slots := #[] })) 1325 [ho_0, ho_7, qT #[(qS "script" 2122), (qS "row" 2123), (qS "cell" 2124), (qS "number" 2125), (qS "turn" 2126)], ho_0, qR (stm 158) "_law_row", ho_835, ho_836, ho_0, ho_7, qT #[(qS "row" 2133)], ho_0, qR (stm 159) "_law_next", ho_839, ho_840, ho_0, ho_7, qT #[(qS "row" 2140), (qS "wide" 2141), (qS "bits" 2142), (qS "turn" 2143), (qS "number" 2144), (qS "step" 2145)], ho_0, qR (stm 160) "_law_bits", ho_843, ho_844, ho_0, ho_7, qT #[(qS "bits" 2152), (qS "low" 2153), (qS "high" 2154), (qS "spot" 2155)], ho_0, qR (stm 161) "_law_made", ho_847, ho_848, ho_0, ho_7, qT #[(qS "row" 2162), (qS "bits" 2163), (qS "signed" 2164)], ho_0, qR (stm 162) "_law_number", ho_851, ho_852, ho_0, ho_7, qT #[(qS "figure" 2171)], ho_0, qR (stm 163) "_law_small", ho_855, ho_856, ho_0, ho_7, qT #[(qS "row" 2178), (qS "fault" 2179), (qS "parts" 2180), (qS "bits" 2181), (qS "turn" 2182), (qS "source" 2183), (qS "found" 2184), (qS "signed" 2185), (qS "kind" 2186), (qS "many" 2187)], ho_0, qR (stm 164) "_law_joined", ho_859, ho_860, ho_0, ho_7, qR (stm 165) "_law_text", ho_862, ho_863, ho_0, ho_7, qT #[(qS "row" 2200), (qS "widths" 2201), (qS "pick" 2202), (qS "args" 2203), (qS "due" 2204), (qS "wide" 2205), (qS "source" 2206), (qS "bits" 2207), (qS "signed" 2208), (qS "fault" 2209), (qS "name" 2210)], ho_0, qR (stm 166) "_law_call", ho_866, ho_867, ho_0, ho_7, qR (stm 167) "_law_name", ho_869, ho_870, ho_0, ho_7, qR (stm 168) "law", ho_872, ho_873]
noncomputable def hEnv : Env := { scope := PySem.Challenge.pw_nn0344_04.main.scope, locals := mainNs, globals := mainNs, cells := [], code := .ref 13, frame := some 14 }
noncomputable def hB : List Stmt := behindTheImports PySem.Challenge.pw_nn0344_04
noncomputable abbrev hC : Code := .body hB hEnv
noncomputable abbrev hL : Life := ⟨[], [], [], 0, [], [], false, #[], [], 0, false, false, false, 0, [2000, 10, 10], false, 0, true, [], [], 0, false⟩
noncomputable abbrev hT_0 (w : World) (os : OsState) : SharedT := ⟨tr_0 w.params, 15, hL, Array.mk [], ⟨0, 0, 0, 0⟩, 187, os⟩
noncomputable abbrev hT_1 (w : World) (os : OsState) : SharedT := ⟨tr_1 w.params, 43, hL, Array.mk [], ⟨0, 0, 0, 0⟩, 232, os⟩
noncomputable abbrev hT_2 (w : World) (os : OsState) : SharedT := ⟨tr_2 w.params, 55, hL, Array.mk [], ⟨0, 0, 0, 0⟩, 248, os⟩
noncomputable abbrev hT_3 (w : World) (os : OsState) : SharedT := ⟨tr_3 w.params, 103, hL, Array.mk [], ⟨0, 0, 0, 0⟩, 306, os⟩
noncomputable abbrev hT_4 (w : World) (os : OsState) : SharedT := ⟨tr_4 w.params, 173, hL, Array.mk [], ⟨0, 0, 0, 0⟩, 412, os⟩
noncomputable abbrev hT_5 (w : World) (os : OsState) : SharedT := ⟨tr_5 w.params, 215, hL, Array.mk [], ⟨0, 0, 0, 0⟩, 478, os⟩
noncomputable abbrev hT_6 (w : World) (os : OsState) : SharedT := ⟨tr_6 w.params, 272, hL, Array.mk [], ⟨0, 0, 0, 0⟩, 555, os⟩
noncomputable abbrev hT_7 (w : World) (os : OsState) : SharedT := ⟨tr_7 w.params, 356, hL, Array.mk [], ⟨0, 0, 0, 0⟩, 682, os⟩
noncomputable abbrev hT_8 (w : World) (os : OsState) : SharedT := ⟨tr_8 w.params, 440, hL, Array.mk [], ⟨0, 0, 0, 0⟩, 799, os⟩
noncomputable abbrev hT_9 (w : World) (os : OsState) : SharedT := ⟨tr_9 w.params, 524, hL, Array.mk [], ⟨0, 0, 0, 0⟩, 904, os⟩
noncomputable abbrev hT_10 (w : World) (os : OsState) : SharedT := ⟨tr_10 w.params, 606, hL, Array.mk [], ⟨0, 0, 0, 0⟩, 1017, os⟩
noncomputable abbrev hT_11 (w : World) (os : OsState) : SharedT := ⟨tr_11 w.params, 634, hL, Array.mk [], ⟨0, 0, 0, 0⟩, 1074, os⟩
noncomputable abbrev hT_12 (w : World) (os : OsState) : SharedT := ⟨tr_12 w.params, 680, hL, Array.mk [], ⟨0, 0, 0, 0⟩, 1141, os⟩
noncomputable abbrev hT_13 (w : World) (os : OsState) : SharedT := ⟨tr_13 w.params, 764, hL, Array.mk [], ⟨0, 0, 0, 0⟩, 1260, os⟩
noncomputable abbrev hT_14 (w : World) (os : OsState) : SharedT := ⟨tr_14 w.params, 844, hL, Array.mk [], ⟨0, 0, 0, 0⟩, 1378, os⟩
noncomputable abbrev hT_15 (w : World) (os : OsState) : SharedT := ⟨tr_15 w.params, 928, hL, Array.mk [], ⟨0, 0, 0, 0⟩, 1486, os⟩
noncomputable abbrev hT_16 (w : World) (os : OsState) : SharedT := ⟨tr_16 w.params, 1005, hL, Array.mk [], ⟨0, 0, 0, 0⟩, 1608, os⟩
noncomputable abbrev hT_17 (w : World) (os : OsState) : SharedT := ⟨tr_17 w.params, 1089, hL, Array.mk [], ⟨0, 0, 0, 0⟩, 1741, os⟩
noncomputable abbrev hT_18 (w : World) (os : OsState) : SharedT := ⟨tr_18 w.params, 1103, hL, Array.mk [], ⟨0, 0, 0, 0⟩, 1760, os⟩
noncomputable abbrev hT_19 (w : World) (os : OsState) : SharedT := ⟨tr_19 w.params, 1159, hL, Array.mk [], ⟨0, 0, 0, 0⟩, 1845, os⟩
noncomputable abbrev hT_20 (w : World) (os : OsState) : SharedT := ⟨tr_20 w.params, 1185, hL, Array.mk [], ⟨0, 0, 0, 0⟩, 1897, os⟩
noncomputable abbrev hT_21 (w : World) (os : OsState) : SharedT := ⟨tr_21 w.params, 1248, hL, Array.mk [], ⟨0, 0, 0, 0⟩, 1998, os⟩
noncomputable abbrev hT_22 (w : World) (os : OsState) : SharedT := ⟨tr_22 w.params, 1248, hL, Array.mk [], ⟨0, 0, 0, 0⟩, 2000, os⟩
noncomputable abbrev hT_23 (w : World) (os : OsState) : SharedT := ⟨tr_23 w.params, 1325, hL, Array.mk [], ⟨0, 0, 0, 0⟩, 2117, os⟩
noncomputable abbrev hT_24 (w : World) (os : OsState) : SharedT := ⟨tr_24 w.params, 1396, hL, Array.mk [], ⟨0, 0, 0, 0⟩, 2226, os⟩
noncomputable def hS_0 : List Stmt := (hB.drop 0).take 3
noncomputable def hS_1 : List Stmt := (hB.drop 3).take 1
noncomputable def hS_2 : List Stmt := (hB.drop 4).take 7
noncomputable def hS_3 : List Stmt := (hB.drop 11).take 11
noncomputable def hS_4 : List Stmt := (hB.drop 22).take 1
noncomputable def hS_5 : List Stmt := (hB.drop 23).take 4
noncomputable def hS_6 : List Stmt := (hB.drop 27).take 12
noncomputable def hS_7 : List Stmt := (hB.drop 39).take 13
noncomputable def hS_8 : List Stmt := (hB.drop 52).take 13
noncomputable def hS_9 : List Stmt := (hB.drop 65).take 13
noncomputable def hS_10 : List Stmt := (hB.drop 78).take 6
noncomputable def hS_11 : List Stmt := (hB.drop 84).take 1
noncomputable def hS_12 : List Stmt := (hB.drop 85).take 13
noncomputable def hS_13 : List Stmt := (hB.drop 98).take 14
noncomputable def hS_14 : List Stmt := (hB.drop 112).take 13
noncomputable def hS_15 : List Stmt := (hB.drop 125).take 12
noncomputable def hS_16 : List Stmt := (hB.drop 137).take 12
noncomputable def hS_17 : List Stmt := (hB.drop 149).take 3
noncomputable def hS_18 : List Stmt := (hB.drop 152).take 1
noncomputable def hS_19 : List Stmt := (hB.drop 153).take 1
noncomputable def hS_20 : List Stmt := (hB.drop 154).take 1
noncomputable def hS_21 : List Stmt := (hB.drop 155).take 1
noncomputable def hS_22 : List Stmt := (hB.drop 156).take 1
noncomputable def hS_23 : List Stmt := (hB.drop 157).take 12
theorem hp_pre (w : World) : (fun os => topGo treeTable PySem.Challenge.pw_nn0344_04 w 11 (some (.ref 6)) 12 ⟨boot_heap w.params, Array.mk [], boot_drawn, boot_toks, os⟩ (topStub PySem.Challenge.pw_nn0344_04)) = fun os => some ((hT_0 w os).abs, ⟨denote treeTable hC, hC, ⟨0, 0, 0, 0⟩, [topFrame ⟨0, 0, 0, 0⟩]⟩) := by
 rw [PySem.W.Fast.te15667345088766844465, PySem.W.Fast.te14364793385576792824, PySem.W.Fast.te11892475500146522536]; kernel_rfl
theorem hp_block (w : World) : (fun os => segRun treeTable PySem.Challenge.pw_nn0344_04 w 11 (some (.ref 6)) 1 1 (hT_0 w os).abs (blockOf hB hEnv hC ⟨0, 0, 0, 0⟩ [topFrame ⟨0, 0, 0, 0⟩])) = fun os => some (.next, (hT_0 w os).abs, hC, ⟨0, 0, 0, 0⟩) := by
 rw [PySem.W.Fast.te14374325043358763698, PySem.W.Fast.te14364793385576792824]; kernel_rfl
theorem hp_0 (w : World) : (fun os => segRunT treeTable PySem.Challenge.pw_nn0344_04 w 11 (some (.ref 6)) 1 279 (hT_0 w os) (piecesOf hS_0 hEnv hC ⟨0, 0, 0, 0⟩ [topFrame ⟨0, 0, 0, 0⟩])) = fun os => some (.next, hT_1 w os, hC, ⟨5, 0, 10, 28⟩) := by
 rw [PySem.W.Fast.te10110043849684766642, PySem.W.Fast.te14364793385576792824]; kernel_rfl
theorem hp_1 (w : World) : (fun os => segRunT treeTable PySem.Challenge.pw_nn0344_04 w 11 (some (.ref 6)) 1 214 (hT_1 w os) (piecesOf hS_1 hEnv hC ⟨5, 0, 10, 28⟩ [topFrame ⟨0, 0, 0, 0⟩])) = fun os => some (.next, hT_2 w os, hC, ⟨11, 0, 12, 8⟩) := by
 rw [PySem.W.Fast.te10110043849684766642, PySem.W.Fast.te14364793385576792824]; kernel_rfl
theorem hp_2 (w : World) : (fun os => segRunT treeTable PySem.Challenge.pw_nn0344_04 w 11 (some (.ref 6)) 1 374 (hT_2 w os) (piecesOf hS_2 hEnv hC ⟨11, 0, 12, 8⟩ [topFrame ⟨0, 0, 0, 0⟩])) = fun os => some (.next, hT_3 w os, hC, ⟨26, 0, 27, 26⟩) := by
 rw [PySem.W.Fast.te10110043849684766642, PySem.W.Fast.te14364793385576792824]; kernel_rfl
theorem hp_3 (w : World) : (fun os => segRunT treeTable PySem.Challenge.pw_nn0344_04 w 11 (some (.ref 6)) 1 334 (hT_3 w os) (piecesOf hS_3 hEnv hC ⟨26, 0, 27, 26⟩ [topFrame ⟨0, 0, 0, 0⟩])) = fun os => some (.next, hT_4 w os, hC, ⟨90, 0, 90, 8⟩) := by
 rw [PySem.W.Fast.te10110043849684766642, PySem.W.Fast.te14364793385576792824]; kernel_rfl
theorem hp_4 (w : World) : (fun os => segRunT treeTable PySem.Challenge.pw_nn0344_04 w 11 (some (.ref 6)) 1 332 (hT_4 w os) (piecesOf hS_4 hEnv hC ⟨90, 0, 90, 8⟩ [topFrame ⟨0, 0, 0, 0⟩])) = fun os => some (.next, hT_5 w os, hC, ⟨91, 0, 133, 19⟩) := by
 rw [PySem.W.Fast.te10110043849684766642, PySem.W.Fast.te14364793385576792824]; kernel_rfl
theorem hp_5 (w : World) : (fun os => segRunT treeTable PySem.Challenge.pw_nn0344_04 w 11 (some (.ref 6)) 1 395 (hT_5 w os) (piecesOf hS_5 hEnv hC ⟨91, 0, 133, 19⟩ [topFrame ⟨0, 0, 0, 0⟩])) = fun os => some (.next, hT_6 w os, hC, ⟨158, 0, 161, 38⟩) := by
 rw [PySem.W.Fast.te10110043849684766642, PySem.W.Fast.te14364793385576792824]; kernel_rfl
theorem hp_6 (w : World) : (fun os => segRunT treeTable PySem.Challenge.pw_nn0344_04 w 11 (some (.ref 6)) 1 392 (hT_6 w os) (piecesOf hS_6 hEnv hC ⟨158, 0, 161, 38⟩ [topFrame ⟨0, 0, 0, 0⟩])) = fun os => some (.next, hT_7 w os, hC, ⟨246, 0, 250, 39⟩) := by
 rw [PySem.W.Fast.te10110043849684766642, PySem.W.Fast.te14364793385576792824]; kernel_rfl
theorem hp_7 (w : World) : (fun os => segRunT treeTable PySem.Challenge.pw_nn0344_04 w 11 (some (.ref 6)) 1 389 (hT_7 w os) (piecesOf hS_7 hEnv hC ⟨246, 0, 250, 39⟩ [topFrame ⟨0, 0, 0, 0⟩])) = fun os => some (.next, hT_8 w os, hC, ⟨289, 0, 290, 28⟩) := by
 rw [PySem.W.Fast.te10110043849684766642, PySem.W.Fast.te14364793385576792824]; kernel_rfl
theorem hp_8 (w : World) : (fun os => segRunT treeTable PySem.Challenge.pw_nn0344_04 w 11 (some (.ref 6)) 1 377 (hT_8 w os) (piecesOf hS_8 hEnv hC ⟨289, 0, 290, 28⟩ [topFrame ⟨0, 0, 0, 0⟩])) = fun os => some (.next, hT_9 w os, hC, ⟨339, 0, 339, 8⟩) := by
 rw [PySem.W.Fast.te10110043849684766642, PySem.W.Fast.te14364793385576792824]; kernel_rfl
theorem hp_9 (w : World) : (fun os => segRunT treeTable PySem.Challenge.pw_nn0344_04 w 11 (some (.ref 6)) 1 385 (hT_9 w os) (piecesOf hS_9 hEnv hC ⟨339, 0, 339, 8⟩ [topFrame ⟨0, 0, 0, 0⟩])) = fun os => some (.next, hT_10 w os, hC, ⟨462, 0, 492, 52⟩) := by
 rw [PySem.W.Fast.te10110043849684766642, PySem.W.Fast.te14364793385576792824]; kernel_rfl
theorem hp_10 (w : World) : (fun os => segRunT treeTable PySem.Challenge.pw_nn0344_04 w 11 (some (.ref 6)) 1 160 (hT_10 w os) (piecesOf hS_10 hEnv hC ⟨462, 0, 492, 52⟩ [topFrame ⟨0, 0, 0, 0⟩])) = fun os => some (.next, hT_11 w os, hC, ⟨534, 0, 534, 11⟩) := by
 rw [PySem.W.Fast.te10110043849684766642, PySem.W.Fast.te14364793385576792824]; kernel_rfl
theorem hp_11 (w : World) : (fun os => segRunT treeTable PySem.Challenge.pw_nn0344_04 w 11 (some (.ref 6)) 1 383 (hT_11 w os) (piecesOf hS_11 hEnv hC ⟨534, 0, 534, 11⟩ [topFrame ⟨0, 0, 0, 0⟩])) = fun os => some (.next, hT_12 w os, hC, ⟨535, 0, 577, 44⟩) := by
 rw [PySem.W.Fast.te10110043849684766642, PySem.W.Fast.te14364793385576792824]; kernel_rfl
theorem hp_12 (w : World) : (fun os => segRunT treeTable PySem.Challenge.pw_nn0344_04 w 11 (some (.ref 6)) 1 391 (hT_12 w os) (piecesOf hS_12 hEnv hC ⟨535, 0, 577, 44⟩ [topFrame ⟨0, 0, 0, 0⟩])) = fun os => some (.next, hT_13 w os, hC, ⟨693, 0, 700, 16⟩) := by
 rw [PySem.W.Fast.te10110043849684766642, PySem.W.Fast.te14364793385576792824]; kernel_rfl
theorem hp_13 (w : World) : (fun os => segRunT treeTable PySem.Challenge.pw_nn0344_04 w 11 (some (.ref 6)) 1 393 (hT_13 w os) (piecesOf hS_13 hEnv hC ⟨693, 0, 700, 16⟩ [topFrame ⟨0, 0, 0, 0⟩])) = fun os => some (.next, hT_14 w os, hC, ⟨812, 0, 822, 46⟩) := by
 rw [PySem.W.Fast.te10110043849684766642, PySem.W.Fast.te14364793385576792824]; kernel_rfl
theorem hp_14 (w : World) : (fun os => segRunT treeTable PySem.Challenge.pw_nn0344_04 w 11 (some (.ref 6)) 1 380 (hT_14 w os) (piecesOf hS_14 hEnv hC ⟨812, 0, 822, 46⟩ [topFrame ⟨0, 0, 0, 0⟩])) = fun os => some (.next, hT_15 w os, hC, ⟨881, 0, 887, 16⟩) := by
 rw [PySem.W.Fast.te10110043849684766642, PySem.W.Fast.te14364793385576792824]; kernel_rfl
theorem hp_15 (w : World) : (fun os => segRunT treeTable PySem.Challenge.pw_nn0344_04 w 11 (some (.ref 6)) 1 374 (hT_15 w os) (piecesOf hS_15 hEnv hC ⟨881, 0, 887, 16⟩ [topFrame ⟨0, 0, 0, 0⟩])) = fun os => some (.next, hT_16 w os, hC, ⟨1012, 0, 1021, 16⟩) := by
 rw [PySem.W.Fast.te10110043849684766642, PySem.W.Fast.te14364793385576792824]; kernel_rfl
theorem hp_16 (w : World) : (fun os => segRunT treeTable PySem.Challenge.pw_nn0344_04 w 11 (some (.ref 6)) 1 398 (hT_16 w os) (piecesOf hS_16 hEnv hC ⟨1012, 0, 1021, 16⟩ [topFrame ⟨0, 0, 0, 0⟩])) = fun os => some (.next, hT_17 w os, hC, ⟨1136, 0, 1138, 53⟩) := by
 rw [PySem.W.Fast.te10110043849684766642, PySem.W.Fast.te14364793385576792824]; kernel_rfl
theorem hp_17 (w : World) : (fun os => segRunT treeTable PySem.Challenge.pw_nn0344_04 w 11 (some (.ref 6)) 1 71 (hT_17 w os) (piecesOf hS_17 hEnv hC ⟨1136, 0, 1138, 53⟩ [topFrame ⟨0, 0, 0, 0⟩])) = fun os => some (.next, hT_18 w os, hC, ⟨1146, 0, 1147, 89⟩) := by
 rw [PySem.W.Fast.te10110043849684766642, PySem.W.Fast.te14364793385576792824]; kernel_rfl
theorem hp_18 (w : World) : (fun os => segRunT treeTable PySem.Challenge.pw_nn0344_04 w 11 (some (.ref 6)) 1 399 (hT_18 w os) (piecesOf hS_18 hEnv hC ⟨1146, 0, 1147, 89⟩ [topFrame ⟨0, 0, 0, 0⟩])) = fun os => some (.next, hT_19 w os, hC, ⟨1148, 0, 1193, 20⟩) := by
 rw [PySem.W.Fast.te10110043849684766642, PySem.W.Fast.te14364793385576792824]; kernel_rfl
theorem hp_19 (w : World) : (fun os => segRunT treeTable PySem.Challenge.pw_nn0344_04 w 11 (some (.ref 6)) 1 268 (hT_19 w os) (piecesOf hS_19 hEnv hC ⟨1148, 0, 1193, 20⟩ [topFrame ⟨0, 0, 0, 0⟩])) = fun os => some (.next, hT_20 w os, hC, ⟨1194, 0, 1213, 67⟩) := by
 rw [PySem.W.Fast.te10110043849684766642, PySem.W.Fast.te14364793385576792824]; kernel_rfl
theorem hp_20 (w : World) : (fun os => segRunT treeTable PySem.Challenge.pw_nn0344_04 w 11 (some (.ref 6)) 1 439 (hT_20 w os) (piecesOf hS_20 hEnv hC ⟨1194, 0, 1213, 67⟩ [topFrame ⟨0, 0, 0, 0⟩])) = fun os => some (.next, hT_21 w os, hC, ⟨1214, 0, 1257, 22⟩) := by
 rw [PySem.W.Fast.te10110043849684766642, PySem.W.Fast.te14364793385576792824]; kernel_rfl
theorem hp_21 (w : World) : (fun os => segRunT treeTable PySem.Challenge.pw_nn0344_04 w 11 (some (.ref 6)) 1 10 (hT_21 w os) (piecesOf hS_21 hEnv hC ⟨1214, 0, 1257, 22⟩ [topFrame ⟨0, 0, 0, 0⟩])) = fun os => some (.next, hT_22 w os, hC, ⟨1258, 0, 1258, 8⟩) := by
 rw [PySem.W.Fast.te10110043849684766642, PySem.W.Fast.te14364793385576792824]; kernel_rfl
theorem hp_22 (w : World) : (fun os => segRunT treeTable PySem.Challenge.pw_nn0344_04 w 11 (some (.ref 6)) 1 503 (hT_22 w os) (piecesOf hS_22 hEnv hC ⟨1258, 0, 1258, 8⟩ [topFrame ⟨0, 0, 0, 0⟩])) = fun os => some (.next, hT_23 w os, hC, ⟨1259, 0, 1333, 88⟩) := by
 rw [PySem.W.Fast.te10110043849684766642, PySem.W.Fast.te14364793385576792824]; kernel_rfl
theorem hp_23 (w : World) : (fun os => segRunT treeTable PySem.Challenge.pw_nn0344_04 w 11 (some (.ref 6)) 1 353 (hT_23 w os) (piecesOf hS_23 hEnv hC ⟨1259, 0, 1333, 88⟩ [topFrame ⟨0, 0, 0, 0⟩])) = fun os => some (.next, hT_24 w os, hC, ⟨1440, 0, 1485, 77⟩) := by
 rw [PySem.W.Fast.te10110043849684766642, PySem.W.Fast.te14364793385576792824]; kernel_rfl
theorem hp_fin (w : World) : (fun os => topRun treeTable PySem.Challenge.pw_nn0344_04 w 11 (some (.ref 6)) 2 (hT_24 w os).abs ⟨doneF .next, hC, ⟨1440, 0, 1485, 77⟩, [topFrame ⟨0, 0, 0, 0⟩]⟩) = fun os => some (hT_24 w os).abs := by
 rw [PySem.W.Fast.te14082659384304107361, PySem.W.Fast.te14364793385576792824]; kernel_rfl
theorem hB_eq : hB = hS_0 ++ (hS_1 ++ (hS_2 ++ (hS_3 ++ (hS_4 ++ (hS_5 ++ (hS_6 ++ (hS_7 ++ (hS_8 ++ (hS_9 ++ (hS_10 ++ (hS_11 ++ (hS_12 ++ (hS_13 ++ (hS_14 ++ (hS_15 ++ (hS_16 ++ (hS_17 ++ (hS_18 ++ (hS_19 ++ (hS_20 ++ (hS_21 ++ (hS_22 ++ (hS_23 ++ ([])))))))))))))))))))))))) := by kernel_rfl
theorem hp_rest (w : World) (os : OsState) : topRun treeTable PySem.Challenge.pw_nn0344_04 w 11 (some (.ref 6)) (279 + (214 + (374 + (334 + (332 + (395 + (392 + (389 + (377 + (385 + (160 + (383 + (391 + (393 + (380 + (374 + (398 + (71 + (399 + (268 + (439 + (10 + (503 + (353 + (2))))))))))))))))))))))))) (hT_0 w os).abs (restOf hB hEnv hC ⟨0, 0, 0, 0⟩ [topFrame ⟨0, 0, 0, 0⟩]) = some (hT_24 w os).abs :=
 (congrArg (fun b => topRun treeTable PySem.Challenge.pw_nn0344_04 w 11 (some (.ref 6)) (279 + (214 + (374 + (334 + (332 + (395 + (392 + (389 + (377 + (385 + (160 + (383 + (391 + (393 + (380 + (374 + (398 + (71 + (399 + (268 + (439 + (10 + (503 + (353 + (2))))))))))))))))))))))))) (hT_0 w os).abs (restOf b hEnv hC ⟨0, 0, 0, 0⟩ [topFrame ⟨0, 0, 0, 0⟩]) = some (hT_24 w os).abs) hB_eq).mpr (piece_app (segRun_of (congrFun (hp_0 w) os)) (piece_app (segRun_of (congrFun (hp_1 w) os)) (piece_app (segRun_of (congrFun (hp_2 w) os)) (piece_app (segRun_of (congrFun (hp_3 w) os)) (piece_app (segRun_of (congrFun (hp_4 w) os)) (piece_app (segRun_of (congrFun (hp_5 w) os)) (piece_app (segRun_of (congrFun (hp_6 w) os)) (piece_app (segRun_of (congrFun (hp_7 w) os)) (piece_app (segRun_of (congrFun (hp_8 w) os)) (piece_app (segRun_of (congrFun (hp_9 w) os)) (piece_app (segRun_of (congrFun (hp_10 w) os)) (piece_app (segRun_of (congrFun (hp_11 w) os)) (piece_app (segRun_of (congrFun (hp_12 w) os)) (piece_app (segRun_of (congrFun (hp_13 w) os)) (piece_app (segRun_of (congrFun (hp_14 w) os)) (piece_app (segRun_of (congrFun (hp_15 w) os)) (piece_app (segRun_of (congrFun (hp_16 w) os)) (piece_app (segRun_of (congrFun (hp_17 w) os)) (piece_app (segRun_of (congrFun (hp_18 w) os)) (piece_app (segRun_of (congrFun (hp_19 w) os)) (piece_app (segRun_of (congrFun (hp_20 w) os)) (piece_app (segRun_of (congrFun (hp_21 w) os)) (piece_app (segRun_of (congrFun (hp_22 w) os)) (piece_app (segRun_of (congrFun (hp_23 w) os)) (congrFun (hp_fin w) os)))))))))))))))))))))))))
theorem hp_run (w : World) (os : OsState) : topRun treeTable PySem.Challenge.pw_nn0344_04 w 11 (some (.ref 6)) (12 + (1 + (279 + (214 + (374 + (334 + (332 + (395 + (392 + (389 + (377 + (385 + (160 + (383 + (391 + (393 + (380 + (374 + (398 + (71 + (399 + (268 + (439 + (10 + (503 + (353 + (2))))))))))))))))))))))))))) ⟨boot_heap w.params, Array.mk [], boot_drawn, boot_toks, os⟩ (topStub PySem.Challenge.pw_nn0344_04) = some (hT_24 w os).abs :=
 go_top (congrFun (hp_pre w) os) (piece_block (congrFun (hp_block w) os) (hp_rest w os))
end NN
end
section
open PySem PySem.W PyProof.Rows PySem.Calls
set_option maxRecDepth 100000
set_option linter.all false
namespace NN
noncomputable def K3 (P : Params) : Frag := [(73, ho_53), (72, ho_52), (81, ho_58), (80, ho_57), (74, ho_54), (95, ho_66), (94, ho_65), (109, ho_76), (108, ho_75), (123, ho_84), (122, ho_83), (130, ho_88), (129, ho_87), (144, ho_96), (143, ho_95), (151, ho_100), (150, ho_99), (158, ho_104), (157, ho_103), (605, ho_378), (604, ho_377), (735, ho_463), (734, ho_462), (822, ho_515), (821, ho_514), (829, ho_519), (828, ho_518), (836, ho_523), (835, ho_522), (843, ho_527), (842, ho_526), (850, ho_533), (849, ho_532), (857, ho_537), (856, ho_536), (864, ho_541), (863, ho_540), (878, ho_549), (877, ho_548), (885, ho_553), (884, ho_552), (906, ho_565), (905, ho_564), (913, ho_569), (912, ho_568), (927, ho_577), (926, ho_576), (934, ho_583), (933, ho_582), (962, ho_599), (961, ho_598), (969, ho_603), (968, ho_602), (976, ho_607), (975, ho_606), (983, ho_611), (982, ho_610), (1004, ho_623), (1003, ho_622), (1011, ho_629), (1010, ho_628), (1018, ho_633), (1017, ho_632), (1025, ho_637), (1024, ho_636), (1039, ho_645), (1038, ho_644), (1060, ho_657), (1059, ho_656), (1067, ho_661), (1066, ho_660), (1074, ho_665), (1073, ho_664), (1081, ho_669), (1080, ho_668), (1088, ho_673), (1087, ho_672), (1095, ho_679), (1094, ho_678), (1102, ho_682), (1101, ho_681), (1331, ho_836), (1330, ho_835), (1338, ho_840), (1337, ho_839), (1345, ho_844), (1344, ho_843), (1352, ho_848), (1351, ho_847), (1359, ho_852), (1358, ho_851), (1366, ho_856), (1365, ho_855), (1373, ho_860), (1372, ho_859), (1378, ho_863), (1377, ho_862), (1385, ho_867), (1384, ho_866), (1390, ho_870), (1389, ho_869), (1395, ho_873), (1394, ho_872), (39, ho_42), (38, ho_24 P), (52, ho_37), (51, ho_36 P), (210, ho_137), (209, ho_136 P), (253, ho_399), (252, ho_166 P), (677, ho_427), (676, ho_426 P), (1154, ho_715), (1153, ho_714 P), (1180, ho_735), (1179, ho_734 P), (1243, ho_776), (1242, ho_775 P), (1320, ho_826), (1319, ho_825 P), (36, ho_22), (35, ho_21), (29, ho_18), (186, ho_122), (185, ho_121), (193, ho_126), (192, ho_125), (207, ho_134), (206, ho_133), (229, ho_152), (228, ho_151), (222, ho_148), (1116, ho_692), (1115, ho_691), (1123, ho_696), (1122, ho_695), (1130, ho_700), (1129, ho_699), (1172, ho_729), (1171, ho_728), (1177, ho_732), (1176, ho_731), (1198, ho_749), (1197, ho_748), (1205, ho_753), (1204, ho_752), (1212, ho_757), (1211, ho_756), (1219, ho_761), (1218, ho_760), (1261, ho_791), (1260, ho_790), (1268, ho_795), (1267, ho_794), (1275, ho_799), (1274, ho_798), (1289, ho_807), (1288, ho_806), (1296, ho_811), (1295, ho_810), (1303, ho_815), (1302, ho_814), (1310, ho_819), (1309, ho_818), (1317, ho_823), (1316, ho_822)]
noncomputable def as3 : List Addr := [73, 72, 81, 80, 74, 95, 94, 109, 108, 123, 122, 130, 129, 144, 143, 151, 150, 158, 157, 605, 604, 735, 734, 822, 821, 829, 828, 836, 835, 843, 842, 850, 849, 857, 856, 864, 863, 878, 877, 885, 884, 906, 905, 913, 912, 927, 926, 934, 933, 962, 961, 969, 968, 976, 975, 983, 982, 1004, 1003, 1011, 1010, 1018, 1017, 1025, 1024, 1039, 1038, 1060, 1059, 1067, 1066, 1074, 1073, 1081, 1080, 1088, 1087, 1095, 1094, 1102, 1101, 1331, 1330, 1338, 1337, 1345, 1344, 1352, 1351, 1359, 1358, 1366, 1365, 1373, 1372, 1378, 1377, 1385, 1384, 1390, 1389, 1395, 1394, 39, 38, 52, 51, 210, 209, 253, 252, 677, 676, 1154, 1153, 1180, 1179, 1243, 1242, 1320, 1319, 36, 35, 29, 186, 185, 193, 192, 207, 206, 229, 228, 222, 1116, 1115, 1123, 1122, 1130, 1129, 1172, 1171, 1177, 1176, 1198, 1197, 1205, 1204, 1212, 1211, 1219, 1218, 1261, 1260, 1268, 1267, 1275, 1274, 1289, 1288, 1296, 1295, 1303, 1302, 1310, 1309, 1317, 1316]
theorem as3_ok (P : Params) : as3 = (K3 P).map (·.1) := by rfl
end NN
end
section
set_option maxRecDepth 100000
set_option Elab.async false
set_option maxHeartbeats 0
open PySem PySem.W PyProof.Rows PySem.Calls
namespace NN
theorem said4 : OpenLaw.wellSaid PySem.Challenge.rw_nn0344_04 = true := by
 unfold OpenLaw.wellSaid OpenRow.wellSaid OpenRow.partSaid looksOpen
 repeat' (with_reducible refine look_both ?_ ?_)
 all_goals (
  try rw [PySem.W.Fast.te11788848310118352699]
  try rw [PySem.W.Fast.te2368527892694137696]
  try rw [PySem.W.Fast.te9807087744658564304]
  try rw [PySem.W.Fast.te12862048085361865435]
  try rw [PySem.W.Fast.te8377067652309620493]
  try rw [PySem.W.R.allR_eq]
  try rw [PySem.W.Fast.te18344453789297297638]
  try rw [PySem.W.Fast.te3471404346716756564]
  try rw [PySem.W.Fast.sDec_eq]
  try rw [PySem.W.Fast.te14412699480532031325]
  try rw [PySem.W.Fast.te8326940854005059898]
  try rw [PySem.W.Fast.te5923862056798008813]
  try rw [PySem.W.Fast.te17691160309236699985]
  try rw [PySem.W.R.filterR_eq]
  try rw [PySem.W.Fast.te13343964577679436407]
  try rw [PySem.W.Fast.te17119622794617984870]
  try rw [PySem.W.Fast.te17868728402115742887]
  try rw [PySem.W.Fast.te9706382859710513879]
  try rw [PySem.W.S.strDecS_eq]
  try rw [PySem.W.Fast.te2357444279172408678]
  try rw [PySem.W.R.mapR_eq]
  try rw [PySem.W.Fast.te4857012375875476094]
  try rw [PySem.W.Fast.named_eq]
  try rw [PySem.W.Fast.te13582783067957832011]
  try rw [PySem.W.Fast.te5318747976498570220]
  try rw [PySem.W.Fast.te4579403493507170074]
  try rw [PySem.W.R.anyR_eq]
  try rw [PySem.W.Fast.te4274047373036748609]
  try rw [PySem.W.Fast.te12749700546528644094]
  try rw [PySem.W.Fast.te10501279942588096481]
  try rw [PySem.W.Fast.te8179353310426384613]
  try rw [PySem.W.Fast.te797321630700447069]
  try rw [PySem.W.Fast.te9572597257264208301]
  try rw [PySem.W.Fast.te9558739934217749035]
  try rw [PySem.W.Fast.te16286561074155671207]
  try rw [PySem.W.Fast.te6984425678791042302]
  try rw [PySem.W.Fast.te17095254045102204799]
  try rw [PySem.W.Fast.te12879404354523853263]
  try rw [PySem.W.Fast.te482687673346738481]
  try rw [PySem.W.Fast.te10792542408131684335]
  try rw [PySem.W.Fast.te7723801398212525404]
  decide +kernel)
end NN
end
section
open PySem PySem.W PyProof.Rows PySem.Calls
set_option maxRecDepth 100000
set_option linter.all false
set_option maxHeartbeats 0
namespace NN
noncomputable def qv : Program := view PySem.Challenge.pw_nn0344_04 [168]
noncomputable def looseN : List Str := (PySem.Challenge.pw_nn0344_04.boundNames).filter fun n => !(n == ("law" : Str))
noncomputable def frO (ob : Obj) : Bool := match ob.data with
 | .dict .. => !(ob.cls == .type "frame")
 | _ => true
noncomputable def smO (s : Shared) : Bool := match s.heap.get? sysModules with
 | some ob => !(ob.cls == .type "frame")
 | none => false
noncomputable def yf (s : Shared) : List (Option Obj) × List (Option Value) × Bool := (as3.map s.heap.get?, G3.map fun p => s.heap.nsMap mainGlobals p.1, s.heap.objs.toList.all frO && smO s)
noncomputable def ya (w : World) : List (Option Obj) × List (Option Value) × Bool := ((K3 w.params).map fun p => some p.2, G3.map fun p => p.2, true)
noncomputable abbrev hH1 (P : Params) : Heap := absHeap (tr_24 P) 1396 hL
noncomputable abbrev hS1 (w : World) (os : OsState) : Shared := ⟨hH1 w.params, Array.mk [], ⟨0, 0, 0, 0⟩, 2226, os⟩
theorem hl_0 (w : World) : (fun os => staticsOk (importedModules PySem.Challenge.pw_nn0344_04.main.body) (boot_heap w.params) (hH1 w.params) && namesBound PySem.Challenge.pw_nn0344_04 (hH1 w.params) && gensDone (hS1 w os) && laidKept (boot_heap w.params) (hH1 w.params)) = fun _ => true := by
 rw [PySem.W.Fast.te5923862056798008813]; kernel_rfl
theorem hl_1 (w : World) : (fun os => seen ((recsOf qv).map (·.name)) (ownsOf qv) [] { hS1 w os with gens := #[] }) = fun _ => expectedOf qv := by
 rw [PySem.W.Fast.te5160383126252970620, PySem.W.R.mapR_eq, PySem.W.Fast.te3399658132070893891, PySem.W.Fast.te5991557255702980513]; kernel_rfl
theorem hl_2 (w : World) : (fun os => (hS1 w os).heap.bltView) = fun _ => bltViewBooted := by
 kernel_rfl
theorem hl_3 (w : World) : (fun os => (hS1 w os).heap.keysOk (looseW qv looseN) ((recsOf qv).map (·.name)) ((litsOf qv).map (·.1)) ((clssOf qv (looseW qv looseN)).map (·.name)) && (hS1 w os).heap.accountedOkI (importedModules PySem.Challenge.pw_nn0344_04.main.body) && (hS1 w os).heap.isNs mainGlobals && (hS1 w os).heap.isNs builtinsNs && tablesOk qv (hS1 w os).heap && (fun _ => true) (hS1 w os) && (if true then (hS1 w os).gens.size == 0 else !leftWithCleanup (hS1 w os).gens)) = fun _ => true := by
 rw [PySem.W.Fast.te10880121769531294198, PySem.W.Fast.te821141287760084731, PySem.W.Fast.te3399658132070893891, PySem.W.Fast.te7409074990110511671, PySem.W.Fast.te13664370479719496447, PySem.W.Fast.te14722251495701143533, PySem.W.Fast.te5923862056798008813, PySem.W.Fast.te10994771534591457954]; kernel_rfl
theorem hl_4 (w : World) : (fun os => tabsOk qv (hS1 w os)) = fun _ => true := by
 rw [PySem.W.Fast.te479339242167458305]; kernel_rfl
theorem hl_5 (w : World) : (fun os => pinSeenD qv (drecsOf qv) (hS1 w os)) = fun _ => pinGoodD (drecsOf qv) := by
 rw [PySem.W.Fast.te16090120013241838585, PySem.W.Fast.te3247288618530077131]; kernel_rfl
theorem hl_6 (w : World) : (fun os => plainSeenE qv (looseW qv looseN) (hS1 w os)) = fun _ => plainGoodE qv (looseW qv looseN) := by
 rw [PySem.W.Fast.te2386780881361962483, PySem.W.Fast.te821141287760084731]; kernel_rfl
theorem hl_7 (w : World) : (fun os => plainSeenD qv looseN (hS1 w os)) = fun _ => plainGoodD qv looseN := by
 rw [PySem.W.Fast.te11698064438423848299]; kernel_rfl
theorem hl_8 (w : World) : (fun os => wideSeen qv (hS1 w os)) = fun _ => wideGood qv := by
 rw [PySem.W.Fast.te7317090234206586261]; kernel_rfl
theorem hl_9 (w : World) : (fun os => clsSeenW qv looseN (hS1 w os)) = fun _ => clsGoodW qv looseN := by
 rw [PySem.W.Fast.te7369524293546568484]; kernel_rfl
theorem hl_10 (w : World) : (fun os => yf (hS1 w os)) = fun _ => ya w := by
 kernel_rfl
theorem hl_size (w : World) : ((boot_heap w.params).isNs mainGlobals && (Array.mk [] : Array GenState).size == 0, (boot_heap w.params).objs.size, (boot_heap w.params).nsMap mainGlobals "__annotations__") = (true, 11, some (.ref 6)) := by
 rw [PySem.W.Fast.te8920871248978507458]; kernel_rfl
theorem hl_open (w : World) : (fencedOpening treeTable PySem.Challenge.pw_nn0344_04 w 15000).map (fun s => (s.heap, s.gens, s.drawn, s.toks)) = some (boot_heap w.params, Array.mk [], boot_drawn, boot_toks) :=
 boot_open (by kernel_rfl) (by kernel_rfl) (fun s => by kernel_rfl) w
theorem hT_abs (w : World) (os : OsState) : (hT_24 w os).abs = hS1 w os := by kernel_rfl
theorem left3 : LeftO PySem.Challenge.pw_nn0344_04 qv looseN (fun _ => true) yf ya 15000 := by
 refine leftMk (p := PySem.Challenge.pw_nn0344_04) (q := qv) (loose := looseN) (Xt := fun _ => true) (Yf := yf) (Ya := ya) (N := 15000) (S := hS1) (H₀ := boot_heap) (H₁ := hH1) (gs₀ := Array.mk []) (gs₁ := Array.mk []) (d₀ := boot_drawn) (d₁ := ⟨0, 0, 0, 0⟩) (k₀ := boot_toks) (k₁ := 2226) (m₀ := 11) (ann := some (.ref 6)) (M := (12 + (1 + (279 + (214 + (374 + (334 + (332 + (395 + (392 + (389 + (377 + (385 + (160 + (383 + (391 + (393 + (380 + (374 + (398 + (71 + (399 + (268 + (439 + (10 + (503 + (353 + (2)))))))))))))))))))))))))))) ?a ?b ?c ?d ?e ?l0 ?l1 ?l2 ?l3 ?l4 ?l5 ?l6 ?l7 ?l8 ?l9 ?l10
 case a => exact fun _ _ => rfl
 case b => exact hl_open
 case c => exact hl_size
 case d => exact fun w os => (hp_run w os).trans (congrArg some (hT_abs w os))
 case e => decide +kernel
 case l0 => exact hl_0
 case l1 => exact hl_1
 case l2 => exact hl_2
 case l3 => exact hl_3
 case l4 => exact hl_4
 case l5 => exact hl_5
 case l6 => exact hl_6
 case l7 => exact hl_7
 case l8 => exact hl_8
 case l9 => exact hl_9
 case l10 => exact hl_10
theorem head3 (call : ∀ (d : DefRec) (kwd : List (Str × Expr)), d.name = Str.ofString "law" → WalkX qv looseN (fun _ _ => True) yf ya PySem.Challenge.rw_nn0344_04.row.toRowW d kwd (fun f vs => PySem.call f vs)) : PySem.Challenge.rw_nn0344_04.Holds := by
 w_on
 refine holds_law said4 fun ws => ?_
 refine holds_openX (q := qv) (loose := looseN) (Xt := fun _ => true) (XP := fun _ _ => True) (Yf := yf) (Ya := ya) (N := 15000) left3 (fun _ _ => trivial) (fun _ _ _ _ _ => trivial) (by rfl) (by rfl) (by rfl) (fun s e => recFacts_nil rfl) (by rfl) ws (by decide +kernel) ⟨rfl, rfl, rfl, rfl, rfl, by decide +kernel⟩ ?hw ?hc
 case hw => w_witness2
 exact call _ _ rfl
end NN
end
section
open PySem PySem.W PyProof.Rows PySem.Calls
set_option maxRecDepth 100000
set_option linter.all false
namespace NN
set_option genInjectivity true in
inductive V where
 | none | bool (b : Bool) | int (i : Int) | str (x : Str) | tup (vs : List V) | ptr (a : Addr) | obj (a C dx : Addr) | rng (lo hi : Int) | raw (v : Value)
 deriving Inhabited
mutual
inductive VR (h : Heap) : V -> Value -> Prop
 | none : VR h .none .none
 | bool (b) : VR h (.bool b) (.bool b)
 | int (i t) : VR h (.int i) (.int i t)
 | str (x t) : VR h (.str x) (.str x t)
 | tup {vs ws a n} : IsT h a ws.toArray n -> VRs h vs ws -> VR h (.tup vs) (.ref a)
 | ptr (a) : VR h (.ptr a) (.ref a)
 | obj {a C dx ob} : h.get? a = some ob -> ob.cls = .ref C -> ob.data = .plain -> ob.dict = some dx -> VR h (.obj a C dx) (.ref a)
 | rng {lo hi a t u v} : h.get? a = some { cls := .type "range", dict := none, data := .fields #[.int lo t, .int hi u, .int 1 v], slots := #[] } -> VR h (.rng lo hi) (.ref a)
 | raw (v) : VR h (.raw v) v
inductive VRs (h : Heap) : List V -> List Value -> Prop
 | nil : VRs h [] []
 | cons {x xs v vs} : VR h x v -> VRs h xs vs -> VRs h (x :: xs) (v :: vs)
end
theorem VRs.ind {h : Heap} {P : List V -> List Value -> Prop} (n : P [] []) (c : ∀ {x xs v vs}, VR h x v -> VRs h xs vs -> P xs vs -> P (x :: xs) (v :: vs)) {xs : List V} {vs : List Value} (r : VRs h xs vs) : P xs vs :=
 @VRs.rec h (fun _ _ _ => True) (fun xs vs _ => P xs vs) trivial (fun _ => trivial) (fun _ _ => trivial) (fun _ _ => trivial) (fun _ _ _ => trivial) (fun _ => trivial) (fun _ _ _ _ => trivial) (fun _ => trivial) (fun _ => trivial) n (fun a r _ ih => c a r ih) _ _ r
theorem VRs.length {h : Heap} {xs : List V} {vs : List Value} (r : VRs h xs vs) : xs.length = vs.length := r.ind (P := fun xs vs => xs.length = vs.length) rfl fun _ _ ih => congrArg Nat.succ ih
theorem VRs.get {h : Heap} {xs : List V} {vs : List Value} (r : VRs h xs vs) {i : Nat} {x : V} (e : xs[i]? = some x) : ∃ v, vs[i]? = some v /\ VR h x v :=
 r.ind (P := fun xs vs => ∀ i : Nat, xs[i]? = some x -> ∃ v, vs[i]? = some v /\ VR h x v) (fun i e => nomatch List.getElem?_nil.symm.trans e) (fun a _ ih i e => match i, e with
  | 0, e => ⟨_, rfl, Option.some.inj e ▸ a⟩
  | i + 1, e => ih i e) i e
theorem VRs.append {h : Heap} {xs ys : List V} {vs ws : List Value} (r : VRs h xs vs) (r' : VRs h ys ws) : VRs h (xs ++ ys) (vs ++ ws) := r.ind (P := fun xs vs => VRs h (xs ++ ys) (vs ++ ws)) r' fun a _ ih => .cons a ih
theorem VRs.reverse {h : Heap} {xs : List V} {vs : List Value} (r : VRs h xs vs) : VRs h xs.reverse vs.reverse := r.ind (P := fun xs vs => VRs h xs.reverse vs.reverse) .nil fun a _ ih => by rw [List.reverse_cons, List.reverse_cons]; exact ih.append (.cons a .nil)
theorem VRs.take {h : Heap} {xs : List V} {vs : List Value} (r : VRs h xs vs) (n : Nat) : VRs h (xs.take n) (vs.take n) :=
 r.ind (P := fun xs vs => ∀ n, VRs h (xs.take n) (vs.take n)) (fun n => by cases n <;> exact .nil) (fun a _ ih n => match n with
  | 0 => .nil
  | n + 1 => .cons a (ih n)) n
theorem VRs.drop {h : Heap} {xs : List V} {vs : List Value} (r : VRs h xs vs) (n : Nat) : VRs h (xs.drop n) (vs.drop n) :=
 r.ind (P := fun xs vs => ∀ n, VRs h (xs.drop n) (vs.drop n)) (fun n => by cases n <;> exact .nil) (fun a r ih n => match n with
  | 0 => .cons a r
  | n + 1 => ih n) n
theorem nosome {α : Type} {a : α} {P : Prop} (h : none = some a) : P := nomatch h
theorem nosome' {α : Type} {a : α} {P : Prop} (h : some a = none) : P := nomatch h
theorem VR.ptr_inv {h : Heap} {a : Addr} {v : Value} (r : VR h (.ptr a) v) : v = .ref a := by cases r; rfl
theorem VR.int_inv {h : Heap} {i : Int} {v : Value} (r : VR h (.int i) v) : ∃ t, v = .int i t := by cases r; exact ⟨_, rfl⟩
theorem VR.str_inv {h : Heap} {x : Str} {v : Value} (r : VR h (.str x) v) : ∃ t, v = .str x t := by cases r; exact ⟨_, rfl⟩
theorem VR.bool_inv {h : Heap} {b : Bool} {v : Value} (r : VR h (.bool b) v) : v = .bool b := by cases r; rfl
theorem VR.none_inv {h : Heap} {v : Value} (r : VR h .none v) : v = .none := by cases r; rfl
theorem VR.raw_inv {h : Heap} {u v : Value} (r : VR h (.raw u) v) : v = u := by cases r; rfl
theorem VRs.nil_inv {h : Heap} {vs : List Value} (r : VRs h [] vs) : vs = [] := by cases r; rfl
inductive VR1 (h : Heap) (x : V) : List Value -> Prop
 | mk {v} (r : VR h x v) : VR1 h x [v]
inductive VR2 (h : Heap) (x y : V) : List Value -> Prop
 | mk {v w} (r : VR h x v) (r' : VR h y w) : VR2 h x y [v, w]
inductive VR3 (h : Heap) (x y z : V) : List Value -> Prop
 | mk {v w u} (r : VR h x v) (r' : VR h y w) (r'' : VR h z u) : VR3 h x y z [v, w, u]
theorem VRs.inv1 {h : Heap} {x : V} {vs : List Value} (r : VRs h [x] vs) : VR1 h x vs := by
 cases r with
 | cons a r => cases r; exact ⟨a⟩
theorem VRs.inv2 {h : Heap} {x y : V} {vs : List Value} (r : VRs h [x, y] vs) : VR2 h x y vs := by
 cases r with
 | cons a r => cases r.inv1 with | mk b => exact ⟨a, b⟩
inductive MO where
 | lst (xs : List V)
 | sd (l : List (Str × V))
 | nd (l : List (Int × V))
 | exo (C : Addr) (d : Option Addr)
inductive SEs (P : Params) (h : Heap) : List (Str × V) -> List DictEntry -> Prop
 | nil : SEs P h [] []
 | cons {k x l t v es} : VR h x v -> SEs P h l es -> SEs P h ((k, x) :: l) (⟨PyData.keyHash P k, .str k t, v⟩ :: es)
inductive NEs (h : Heap) : List (Int × V) -> List DictEntry -> Prop
 | nil : NEs h [] []
 | cons {k x l t v es} : VR h x v -> NEs h l es -> NEs h ((k, x) :: l) (⟨hashInt k, .int k t, v⟩ :: es)
noncomputable abbrev dictO (es : List DictEntry) (n : Nat) : Obj := { cls := .type "dict", data := .dict es.toArray n }
noncomputable abbrev listO (ws : List Value) (n : Nat) : Obj := { cls := .type "list", dict := none, data := .seq ws.toArray n, slots := #[] }
inductive MOR (P : Params) (h : Heap) : MO -> Obj -> Prop
 | lst {xs ws n} : VRs h xs ws -> MOR P h (.lst xs) (listO ws n)
 | sd {l es n} : SEs P h l es -> MOR P h (.sd l) (dictO es n)
 | nd {l es n} : NEs h l es -> MOR P h (.nd l) (dictO es n)
 | exo {C d ob vs a0} : ob.cls = .ref C -> ob.dict = d -> ob.data = .fields vs -> vs[0]? = some a0 -> vs[1]? = some .none -> MOR P h (.exo C d) ob
inductive HO (P : Params) (h : Heap) (a : Addr) (m : MO) : Prop
 | mk (o : Obj) (e : h.get? a = some o) (r : MOR P h m o)
inductive HL (h : Heap) (l : Addr) (xs : List V) : Prop
 | mk (ws : List Value) (n : Nat) (e : h.get? l = some (listO ws n)) (r : VRs h xs ws)
inductive HSd (P : Params) (h : Heap) (a : Addr) (l : List (Str × V)) : Prop
 | mk (es : List DictEntry) (n : Nat) (e : h.get? a = some (dictO es n)) (r : SEs P h l es)
theorem lst_of {P : Params} {h : Heap} {l : Addr} {xs : List V} (x : HO P h l (.lst xs)) : HL h l xs := by
 obtain ⟨_, e, m⟩ := x
 cases m with
 | lst r => exact ⟨_, _, e, r⟩
theorem sd_of {P : Params} {h : Heap} {a : Addr} {l : List (Str × V)} (x : HO P h a (.sd l)) : HSd P h a l := by
 obtain ⟨_, e, m⟩ := x
 cases m with
 | sd r => exact ⟨_, _, e, r⟩
theorem MOR.shape {P : Params} {h : Heap} {m : MO} {o : Obj} (x : MOR P h m o) : (o.cls = .type "list" /\ ∃ ws n, o.data = .seq ws n) \/ (o.cls = .type "dict" /\ ∃ es n, o.data = .dict es n) \/ ∃ C vs, o.cls = .ref C /\ o.data = .fields vs := by
 cases x with
 | lst r => exact .inl ⟨rfl, _, _, rfl⟩
 | sd r => exact .inr (.inl ⟨rfl, _, _, rfl⟩)
 | nd r => exact .inr (.inl ⟨rfl, _, _, rfl⟩)
 | exo a b c d e => exact .inr (.inr ⟨_, _, a, c⟩)
noncomputable def St := Addr -> Option MO
noncomputable def St.nil : St := fun _ => none
noncomputable def St.set (st : St) (a : Addr) (m : MO) : St := fun b => if b = a then some m else st b
noncomputable def St.get (st : St) (a : Addr) : Option MO := st a
@[simp] theorem St.set_same (st : St) (a : Addr) (m : MO) : (st.set a m) a = some m := by simp [St.set]
theorem St.set_ne (st : St) {a b : Addr} (m : MO) (h : b ≠ a) : (st.set a m) b = st b := by simp [St.set, h]
noncomputable def Holds (P : Params) (st : St) (h : Heap) : Prop := ∀ a m, st a = some m -> HO P h a m
noncomputable def KO (o o' : Obj) : Prop := o' = o \/ ((o.cls = .type "frame" /\ ∃ es n, o.data = .dict es n) /\ o'.cls = o.cls /\ o'.data = o.data)
theorem KO.refl (o : Obj) : KO o o := .inl rfl
theorem KO.trans {a b c : Obj} (x : KO a b) (y : KO b c) : KO a c := by
 rcases x with rfl | ⟨x1, x2, x3⟩
 . exact y
 . rcases y with rfl | ⟨_, y2, y3⟩
   . exact .inr ⟨x1, x2, x3⟩
   . exact .inr ⟨x1, y2.trans x2, y3.trans x3⟩
theorem KO.cls {a b : Obj} (x : KO a b) : b.cls = a.cls := by rcases x with rfl | ⟨_, x2, _⟩ <;> first | rfl | exact x2
theorem KO.data {a b : Obj} (x : KO a b) : b.data = a.data := by rcases x with rfl | ⟨_, _, x3⟩ <;> first | rfl | exact x3
theorem KO.eq {a b : Obj} (x : KO a b) (h : a.cls ≠ .type "frame") : b = a := by rcases x with rfl | ⟨h', _, _⟩ <;> first | rfl | exact absurd h'.1 h
noncomputable def OO (o o' : Obj) : Prop := o'.cls = o.cls /\ ((∃ es n, o.data = .dict es n) -> ∃ es n, o'.data = .dict es n) /\ ((∃ v, o.data = .cell v) -> ∃ v, o'.data = .cell v)
theorem OO.refl (o : Obj) : OO o o := ⟨rfl, id, id⟩
theorem OO.trans {a b c : Obj} (x : OO a b) (y : OO b c) : OO a c := ⟨y.1.trans x.1, fun h => y.2.1 (x.2.1 h), fun h => y.2.2 (x.2.2 h)⟩
theorem KO.oo {a b : Obj} (x : KO a b) : OO a b := ⟨x.cls, fun ⟨es, n, h⟩ => ⟨es, n, x.data.trans h⟩, fun ⟨v, h⟩ => ⟨v, x.data.trans h⟩⟩
inductive KOx (h : Heap) (b : Addr) (o : Obj) : Prop
 | mk (o' : Obj) (e : h.get? b = some o') (k : KO o o')
inductive OOx (h : Heap) (b : Addr) (o : Obj) : Prop
 | mk (o' : Obj) (e : h.get? b = some o') (k : OO o o')
structure Step (P : Params) (F : Addr -> Prop) (st : St) (s : Shared) (st' : St) (s' : Shared) : Prop where
 holds : Holds P st' s'.heap
 sub : ∀ a, st' a ≠ none -> st a ≠ none \/ s.heap.get? a = none
 ext : ∀ b o, ¬ F b -> st b = none -> s.heap.get? b = some o -> KOx s'.heap b o
 own : ∀ b o, F b -> st b = none -> s.heap.get? b = some o -> OOx s'.heap b o
 mono : ∀ b, (s.heap.get? b).isSome = true -> (s'.heap.get? b).isSome = true
 gens : s'.gens = s.gens
 os : s'.os = s.os
noncomputable def noF : Addr -> Prop := fun _ => False
section
variable {P : Params} {F : Addr -> Prop} {st st₁ st₂ : St} {s s₁ s₂ : Shared}
theorem Step.still (x : Step P F st s st₁ s₁) {b : Addr} {o : Obj} (hb : st b = none) (ho : s.heap.get? b = some o) : st₁ b = none := by
 cases q : st₁ b with
 | none => rfl
 | some m =>
  rcases x.sub b (by rw [q]; simp) with h | h
  . exact absurd hb h
  . rw [ho] at h; cases h
theorem Step.trans (x : Step P F st s st₁ s₁) (y : Step P F st₁ s₁ st₂ s₂) : Step P F st s st₂ s₂ where
 holds := y.holds
 sub a h := by
  rcases y.sub a h with h | h
  . exact x.sub a h
  . right
    cases q : s.heap.get? a with
    | none => rfl
    | some o => have := x.mono a (by rw [q]; rfl); rw [h] at this; cases this
 ext b o hf hb ho := by
  obtain ⟨o₁, h1, k1⟩ := x.ext b o hf hb ho
  obtain ⟨o₂, h2, k2⟩ := y.ext b o₁ hf (x.still hb ho) h1
  exact ⟨o₂, h2, k1.trans k2⟩
 own b o hf hb ho := by
  obtain ⟨o₁, h1, k1⟩ := x.own b o hf hb ho
  obtain ⟨o₂, h2, k2⟩ := y.own b o₁ hf (x.still hb ho) h1
  exact ⟨o₂, h2, k1.trans k2⟩
 mono b h := y.mono b (x.mono b h)
 gens := y.gens.trans x.gens
 os := y.os.trans x.os
theorem Step.weak (x : Step P noF st s st₁ s₁) : Step P F st s st₁ s₁ := ⟨x.holds, x.sub, fun b o _ => x.ext b o (fun h => h), fun b o _ hb ho => let ⟨o', h, k⟩ := x.ext b o (fun h => h) hb ho; ⟨o', h, k.oo⟩, x.mono, x.gens, x.os⟩
theorem Step.toks (h : Holds P st s.heap) (t : Nat) : Step P F st s st { s with toks := t } := ⟨h, fun _ h => .inl h, fun _ o _ _ ho => ⟨o, ho, .refl o⟩, fun _ o _ _ ho => ⟨o, ho, .refl o⟩, fun _ h => h, rfl, rfl⟩
theorem Step.refl (h : Holds P st s.heap) : Step P F st s st s := Step.toks h _
noncomputable def St.le (a b : St) : Prop := ∀ x, a x = none \/ a x = b x
theorem Step.forget (x : Step P F st s st₁ s₁) (h : St.le st₂ st₁) : Step P F st s st₂ s₁ := by
 refine ⟨fun a m e => ?_, fun a e => ?_, x.ext, x.own, x.mono, x.gens, x.os⟩
 . rcases h a with q | q
   . rw [q] at e; cases e
   . exact x.holds a m (q ▸ e)
 . rcases h a with q | q
   . exact absurd q e
   . exact x.sub a (q ▸ e)
end
section
variable {P : Params} {h h' : Heap} {st : St}
theorem tup_not_st (H : Holds P st h) {a : Addr} {ws : Array Value} {n : Nat} (x : IsT h a ws n) : st a = none := by
 cases q : st a with
 | none => rfl
 | some m =>
  obtain ⟨o, ho, hm⟩ := H a m q
  have e : o = _ := Option.some.inj (ho.symm.trans x)
  have e := congrArg Obj.cls e
  rcases hm.shape with ⟨q, _⟩ | ⟨q, _⟩ | ⟨C, vs, q, _⟩ <;> (rw [q] at e; simp at e)
theorem inst_not_st (H : Holds P st h) {a : Addr} {ob : Obj} (x : h.get? a = some ob) (hd : ob.data = .plain) : st a = none := by
 cases q : st a with
 | none => rfl
 | some m =>
  obtain ⟨o, ho, hm⟩ := H a m q
  rw [ho] at x; cases x
  rcases hm.shape with ⟨_, _, _, q⟩ | ⟨_, _, _, q⟩ | ⟨_, _, _, q⟩ <;> (rw [q] at hd; cases hd)
theorem rec_not_st (H : Holds P st h) {a : Addr} {ob : Obj} {vs : Array Value} {T : String} (x : h.get? a = some ob) (hc : ob.cls = .type T) (hd : ob.data = .fields vs) : st a = none := by
 cases q : st a with
 | none => rfl
 | some m =>
  obtain ⟨o, ho, hm⟩ := H a m q
  rw [ho] at x; cases x
  rcases hm.shape with ⟨_, _, _, q⟩ | ⟨_, _, _, q⟩ | ⟨_, _, q, _⟩
  . rw [q] at hd; cases hd
  . rw [q] at hd; cases hd
  . rw [q] at hc; cases hc
noncomputable def KpD (D : Addr -> Prop) (h h' : Heap) : Prop := ∀ b o, ¬ D b -> h.get? b = some o -> KOx h' b o
structure DOk (D : Addr -> Prop) (h : Heap) : Prop where
 tup : ∀ a ws n, IsT h a ws n -> ¬ D a
 rng : ∀ a ob vs, h.get? a = some ob -> ob.cls = .type "range" -> ob.data = .fields vs -> ¬ D a
 obj : ∀ a ob, h.get? a = some ob -> ob.data = .plain -> (∃ C, ob.cls = .ref C) -> ¬ D a
structure KpV (h h' : Heap) : Prop where
 tup : ∀ a ws n, IsT h a ws n -> IsT h' a ws n
 rng : ∀ a ob vs, h.get? a = some ob -> ob.cls = .type "range" -> ob.data = .fields vs -> h'.get? a = some ob
 obj : ∀ a ob, h.get? a = some ob -> ob.data = .plain -> (∃ C, ob.cls = .ref C) -> h'.get? a = some ob
theorem VR.keepV (K : KpV h h') {x : V} {v : Value} (r : VR h x v) : VR h' x v :=
 @VR.rec h (fun x v _ => VR h' x v) (fun xs vs _ => VRs h' xs vs) .none .bool .int .str (fun a _ ih => .tup (K.tup _ _ _ a) ih) .ptr (fun e hc hn hd => .obj (K.obj _ _ e hn ⟨_, hc⟩) hc hn hd) (fun e => .rng (K.rng _ _ _ e rfl rfl)) .raw .nil (fun _ _ a b => .cons a b) _ _ r
theorem VRs.keepV (K : KpV h h') {xs : List V} {vs : List Value} (r : VRs h xs vs) : VRs h' xs vs := r.ind (P := VRs h') .nil fun a _ ih => .cons (a.keepV K) ih
theorem SEs.keepV (K : KpV h h') {l : List (Str × V)} {es : List DictEntry} (r : SEs P h l es) : SEs P h' l es := by
 induction r with
 | nil => exact .nil
 | cons a _ ih => exact .cons (a.keepV K) ih
theorem NEs.keepV (K : KpV h h') {l : List (Int × V)} {es : List DictEntry} (r : NEs h l es) : NEs h' l es := by
 induction r with
 | nil => exact .nil
 | cons a _ ih => exact .cons (a.keepV K) ih
theorem MOR.keepV (K : KpV h h') {m : MO} {o : Obj} (x : MOR P h m o) : MOR P h' m o := by
 cases x with
 | lst r => exact .lst (r.keepV K)
 | sd r => exact .sd (r.keepV K)
 | nd r => exact .nd (r.keepV K)
 | exo a b c d e => exact .exo a b c d e
theorem KpV.of {D : Addr -> Prop} (H : DOk D h) (K : KpD D h h') : KpV h h' where
 tup a ws n x := by
  obtain ⟨o', ho', k⟩ := K _ _ (H.tup _ _ _ x) x
  have := k.eq (by simp)
  subst this
  exact ho'
 rng a ob vs x hc hd := by
  obtain ⟨o', ho', k⟩ := K _ _ (H.rng _ _ _ x hc hd) x
  have := k.eq (by rw [hc]; simp)
  subst this
  exact ho'
 obj a ob x hn hC := by
  obtain ⟨o', ho', k⟩ := K _ _ (H.obj _ _ x hn hC) x
  obtain ⟨C, hc⟩ := hC
  have := k.eq (by rw [hc]; intro q; cases q)
  subst this
  exact ho'
theorem VR.keepD {D : Addr -> Prop} (H : DOk D h) (K : KpD D h h') {x : V} {v : Value} (r : VR h x v) : VR h' x v := r.keepV (.of H K)
theorem VRs.keepD {D : Addr -> Prop} (H : DOk D h) (K : KpD D h h') {xs : List V} {vs : List Value} (r : VRs h xs vs) : VRs h' xs vs := r.keepV (.of H K)
theorem MOR.keepD {D : Addr -> Prop} (H : DOk D h) (K : KpD D h h') {m : MO} {o : Obj} (x : MOR P h m o) : MOR P h' m o := x.keepV (.of H K)
noncomputable def Kp (st : St) (h h' : Heap) : Prop := ∀ b o, st b = none -> h.get? b = some o -> KOx h' b o
theorem Kp.d (K : Kp st h h') : KpD (fun b => st b ≠ none) h h' := fun b o hb ho => K b o (Classical.byContradiction hb) ho
theorem DOk.ofSt (H : Holds P st h) : DOk (fun b => st b ≠ none) h := ⟨fun a ws n x q => q (tup_not_st H x), fun a ob vs x hc hd q => q (rec_not_st H x hc hd), fun a ob x hd _ q => q (inst_not_st H x hd)⟩
theorem VR.keep (H : Holds P st h) (K : Kp st h h') {x : V} {v : Value} (r : VR h x v) : VR h' x v := r.keepD (.ofSt H) K.d
theorem VRs.keep (H : Holds P st h) (K : Kp st h h') {xs : List V} {vs : List Value} (r : VRs h xs vs) : VRs h' xs vs := r.keepD (.ofSt H) K.d
theorem MOR.keep (H : Holds P st h) (K : Kp st h h') {m : MO} {o : Obj} (x : MOR P h m o) : MOR P h' m o := x.keepD (.ofSt H) K.d
theorem Step.kp {st₁ : St} {s s₁ : Shared} (x : Step P noF st s st₁ s₁) : Kp st s.heap s₁.heap := fun b o hb ho => x.ext b o (fun h => h) hb ho
end
end NN
end
local macro_rules
  | `(tactic| cases $x:ident) => `(tactic| first | (have e := NN.VR.ptr_inv $x; subst e) | (refine Exists.elim (NN.VR.int_inv $x) ?_; intro _ e; subst e) | (refine Exists.elim (NN.VR.str_inv $x) ?_; intro _ e; subst e) | (have e := NN.VRs.nil_inv $x; subst e) | (have e := NN.VR.bool_inv $x; subst e) | (have e := NN.VR.none_inv $x; subst e) | (have e := NN.VR.raw_inv $x; subst e) | exact NN.nosome $x | exact NN.nosome' $x | (have e := Option.some.inj $x; clear $x; subst e) | cases ($x))
section
open PySem PySem.W PyProof.Rows PySem.Calls
set_option maxRecDepth 100000
set_option linter.all false
namespace NN
structure Wo where
 prog : Program
 w : World
 K : Frag
 mg : Str -> Option Value
 mb : Str -> Option Value
structure Wo.In (o : Wo) (h : Heap) : Prop where
 k : o.K.In h
 g : h.Ns mainGlobals o.mg
 b : h.Ns builtinsNs o.mb
 bi : ∀ x : Str, x ≠ "__name__" -> o.mb x = bootBuiltins x
 nolimit : h.NoLimit
noncomputable abbrev Wo.M (o : Wo) : Model := model o.prog o.w
noncomputable abbrev Wo.P (o : Wo) : Params := o.w.params
noncomputable def Wo.ad (o : Wo) (a : Addr) : Prop := (∃ ob, o.K.lookup a = some ob) \/ a = mainGlobals \/ a = builtinsNs \/ a = cStatics
inductive FrX (env : Env) (h : Heap) : Prop
 | mk (k : env.scope.kind ≠ .module) (L : Addr) (o : Obj) (f : env.frame = some L) (e : h.get? L = some o) (c : o.cls = .type "frame") (d : ∃ es n, o.data = .dict es n)
noncomputable def FrOk (fs : List Env) (h : Heap) : Prop := ∀ env ∈ fs, FrX env h
structure Kx where
 A : Around
 fs : List Env
 n : Nat
structure KxOk (k : Kx) : Prop where
 fr : k.A.frames = some k.fs
 depth : k.A.depth + k.n < recursionLimit
 units : k.A.units + 5 * k.n + 40 < cLine
 handled : k.A.handled = none
structure SI (o : Wo) (k : Kx) (st : St) (s : Shared) : Prop where
 ok : KxOk k
 wd : o.In s.heap
 fs : FrOk k.fs s.heap
 hs : Holds o.P st s.heap
 sep : ∀ a, o.ad a -> st a = none
structure Cx where
 k : Kx
 env : Env
structure CxOk (c : Cx) : Prop where
 kind : c.env.scope.kind = .function
 glob : c.env.globals = mainGlobals
 blt : c.env.builtins = builtinsNs
noncomputable def LocF := Str -> Option V
noncomputable def LocF.nil : LocF := fun _ => none
noncomputable def LocF.set (l : LocF) (x : Str) (v : V) : LocF := fun y => if y = x then some v else l y
theorem LocF.set_same (l : LocF) (x : Str) (v : V) : (l.set x v) x = some v := by simp [LocF.set]
theorem LocF.set_ne (l : LocF) {x y : Str} (v : V) (h : y ≠ x) : (l.set x v) y = l y := by simp [LocF.set, h]
inductive LBl (env : Env) (m : Str -> Option Value) (h : Heap) (x : Str) (v : V) : Prop
 | mk (k : env.kindOf x = some .local) (u : Value) (e : m x = some u) (r : VR h v u)
inductive LBc (env : Env) (h : Heap) (x : Str) (v : V) : Prop
 | mk (k : env.kindOf x = some .cell \/ env.kindOf x = some .free) (n : (x == ("__classdict__" : Str)) = false) (a : Addr) (u : Value) (e : env.cells.lookup x = some a) (c : h.IsCell a (some u)) (r : VR h v u)
structure LocR (env : Env) (loc : LocF) (h : Heap) : Prop where
 ns : ∃ m, h.Ns env.locals m /\ ∀ x v, loc x = some v -> LBl env m h x v \/ LBc env h x v
 cells : ∀ x a, env.cells.lookup x = some a -> ∃ u, h.IsCell a u
 apart : env.cells.Pairwise fun x y => x.2 ≠ y.2
theorem LocR.nil {env : Env} {loc : LocF} {h : Heap} (x : LocR env loc h) : LocR env LocF.nil h := ⟨let ⟨m, hm, _⟩ := x.ns; ⟨m, hm, fun _ _ e => nomatch e⟩, x.cells, x.apart⟩
noncomputable def own (c : Cx) (a : Addr) : Prop := a = c.env.locals \/ ∃ x, (x, a) ∈ c.env.cells
inductive OwX (h : Heap) (b : Addr) : Prop
 | mk (o : Obj) (T : String) (e : h.get? b = some o) (c : o.cls = .type T) (d : (∃ es n, o.data = .dict es n) \/ ∃ v, o.data = .cell v)
structure OwnT (c : Cx) (h : Heap) : Prop where
 ex : ∀ b, own c b -> OwX h b
structure Inv (o : Wo) (c : Cx) (loc : LocF) (st : St) (s : Shared) : Prop where
 cx : CxOk c
 si : SI o c.k st s
 lc : LocR c.env loc s.heap
 ow : OwnT c s.heap
 ost : ∀ a, own c a -> st a = none
 oad : ∀ a, own c a -> ¬ o.ad a
theorem Inv.loc {o : Wo} {c : Cx} {loc : LocF} {st : St} {s : Shared} (I : Inv o c loc st s) : st c.env.locals = none := I.ost _ (.inl rfl)
theorem Inv.cel {o : Wo} {c : Cx} {loc : LocF} {st : St} {s : Shared} (I : Inv o c loc st s) : ∀ x a, (x, a) ∈ c.env.cells -> st a = none := fun x a h => I.ost _ (.inr ⟨x, h⟩)
section
variable {o : Wo} {env : Env} {st st' : St} {s s' : Shared} {h h' : Heap} {loc : LocF} {P : Params}
theorem ns_keep {a : Addr} {m : Str -> Option Value} (K : Kp st h h') (ha : st a = none) (x : h.Ns a m) : h'.Ns a m := by
 obtain ⟨ob, es, ep, ho, hd, r⟩ := x
 obtain ⟨o', ho', k⟩ := K a ob ha ho
 exact ⟨o', es, ep, ho', k.data.trans hd, r⟩
theorem cell_keep {a : Addr} {v : Option Value} (K : Kp st h h') (ha : st a = none) (x : h.IsCell a v) : h'.IsCell a v := by
 obtain ⟨ob, ho, hd⟩ := x
 obtain ⟨o', ho', k⟩ := K a ob ha ho
 exact ⟨o', ho', k.data.trans hd⟩
noncomputable def KNoFrame (K : Frag) : Prop := ∀ a ob, K.lookup a = some ob -> ob.cls ≠ .type "frame"
theorem In.keep (hK : KNoFrame o.K) (K : Kp st h h') (sep : ∀ a, o.ad a -> st a = none) (x : o.In h) : o.In h' where
 k := fun a ob e => by
  obtain ⟨o', ho', k⟩ := K a ob (sep a (.inl ⟨ob, e⟩)) (x.k a ob e)
  rw [k.eq (hK a ob e)] at ho'
  exact ho'
 g := ns_keep K (sep _ (.inr (.inl rfl))) x.g
 b := ns_keep K (sep _ (.inr (.inr (.inl rfl)))) x.b
 bi := x.bi
 nolimit := by
  obtain ⟨mc, h1, h2⟩ := x.nolimit
  exact ⟨mc, ns_keep K (sep _ (.inr (.inr (.inr rfl)))) h1, h2⟩
theorem FrOk.not_st {fs : List Env} (H : Holds P st h) (x : FrOk fs h) {env : Env} (he : env ∈ fs) {L : Addr} (hL : env.frame = some L) : st L = none := by
 obtain ⟨_, L', ob, hf, ho, hc, _⟩ := x env he
 rw [hL] at hf; cases hf
 cases q : st L with
 | none => rfl
 | some m =>
  obtain ⟨o', ho', hm⟩ := H L m q
  rw [ho] at ho'; cases ho'
  rcases hm.shape with ⟨q, _⟩ | ⟨q, _⟩ | ⟨C, vs, q, _⟩ <;> (rw [q] at hc; simp at hc)
theorem FrOk.keep {fs : List Env} (H : Holds P st h) (K : Kp st h h') (x : FrOk fs h) : FrOk fs h' := fun env he => by
 have hn := fun L hL => FrOk.not_st H x he (L := L) hL
 obtain ⟨hk, L, ob, hf, ho, hc, es, n, hd⟩ := x env he
 obtain ⟨o', ho', k⟩ := K L ob (hn L hf) ho
 exact ⟨hk, L, o', hf, ho', k.cls.trans hc, es, n, k.data.trans hd⟩
theorem LocR.keep (H : Holds P st h) (K : Kp st h h') (hl : st env.locals = none) (hc : ∀ x a, (x, a) ∈ env.cells -> st a = none) (x : LocR env loc h) : LocR env loc h' where
 ns := by
  obtain ⟨m, hm, q⟩ := x.ns
  refine ⟨m, ns_keep K hl hm, fun y v e => ?_⟩
  rcases q y v e with ⟨a, u, b, r⟩ | ⟨a, a', c', u, b, d, r⟩
  . exact .inl ⟨a, u, b, r.keep H K⟩
  . exact .inr ⟨a, a', c', u, b, cell_keep K (hc _ _ (mem_of_lookup b)) d, r.keep H K⟩
 cells y a e := by
  obtain ⟨u, q⟩ := x.cells y a e
  exact ⟨u, cell_keep K (hc _ _ (mem_of_lookup e)) q⟩
 apart := x.apart
theorem none_of_sub {a : Addr} (sub : ∀ a, st' a ≠ none -> st a ≠ none \/ h.get? a = none) (h1 : st a = none) (h2 : (h.get? a).isSome = true) : st' a = none := by
 cases q : st' a with
 | none => rfl
 | some m =>
  rcases sub a (by rw [q]; simp) with h | h
  . exact absurd h1 h
  . rw [h] at h2; cases h2
theorem Ns.isSome {a : Addr} {m : Str -> Option Value} (x : h.Ns a m) : (h.get? a).isSome = true := by
 obtain ⟨_, _, _, ho, _⟩ := x; rw [ho]; rfl
theorem In.ex (x : o.In h) {a : Addr} (ha : o.ad a) : (h.get? a).isSome = true := by
 rcases ha with ⟨ob, e⟩ | rfl | rfl | rfl
 . rw [x.k a ob e]; rfl
 . exact Ns.isSome x.g
 . exact Ns.isSome x.b
 . obtain ⟨mc, h1, _⟩ := x.nolimit; exact Ns.isSome h1
end
class WoOk (o : Wo) : Prop where
 noFrame : KNoFrame o.K
section
variable {o : Wo} [W : WoOk o] {k : Kx} {c : Cx} {st st' : St} {s s' : Shared} {loc : LocF}
theorem SI.step (S : SI o k st s) (x : Step o.P noF st s st' s') : SI o k st' s' :=
 have K := x.kp
 ⟨S.ok, In.keep W.noFrame K S.sep S.wd, S.fs.keep S.hs K, x.holds, fun a ha => none_of_sub x.sub (S.sep a ha) (In.ex S.wd ha)⟩
theorem OwnT.step {F : Addr -> Prop} (W : OwnT c s.heap) (hst : ∀ a, own c a -> st a = none) (x : Step o.P F st s st' s') : OwnT c s'.heap := ⟨fun b hb => by
 obtain ⟨ob, T, h1, h2, h3⟩ := W.ex b hb
 have : OOx s'.heap b ob := by
  by_cases hf : F b
  . exact x.own b ob hf (hst b hb) h1
  . obtain ⟨o', h, k⟩ := x.ext b ob hf (hst b hb) h1
    exact ⟨o', h, k.oo⟩
 obtain ⟨o', h, k1, k2, k3⟩ := this
 exact ⟨o', T, h, k1.trans h2, h3.imp k2 k3⟩⟩
theorem Inv.step (I : Inv o c loc st s) (x : Step o.P noF st s st' s') : Inv o c loc st' s' := by
 have K := x.kp
 have L' := LocR.keep I.si.hs K I.loc I.cel I.lc
 refine ⟨I.cx, I.si.step x, L', I.ow.step I.ost x, fun a ha => ?_, I.oad⟩
 obtain ⟨ob, T, h1, _⟩ := I.ow.ex a ha
 exact x.still (I.ost a ha) h1
theorem FrOk.stepF {F : Addr -> Prop} {fs : List Env} (H : Holds o.P st s.heap) (x : Step o.P F st s st' s') (y : FrOk fs s.heap) : FrOk fs s'.heap := fun env he => by
 have hn := fun L hL => FrOk.not_st H y he (L := L) hL
 obtain ⟨hk, L, ob, hf, ho, hc, es, n, hd⟩ := y env he
 by_cases hF : F L
 . obtain ⟨o', ho', k1, k2, _⟩ := x.own L ob hF (hn L hf) ho
   obtain ⟨es', n', hd'⟩ := k2 ⟨es, n, hd⟩
   exact ⟨hk, L, o', hf, ho', k1.trans hc, es', n', hd'⟩
 . obtain ⟨o', ho', k⟩ := x.ext L ob hF (hn L hf) ho
   exact ⟨hk, L, o', hf, ho', k.cls.trans hc, es, n, k.data.trans hd⟩
theorem Inv.stepF {loc' : LocF} (I : Inv o c loc st s) (x : Step o.P (own c) st s st' s') (L' : LocR c.env loc' s'.heap) : Inv o c loc' st' s' := by
 have ad : ∀ a, o.ad a -> ∀ ob, s.heap.get? a = some ob -> KOx s'.heap a ob := fun a ha ob hob => x.ext a ob (fun q => I.oad a q ha) (I.si.sep a ha) hob
 have nk : ∀ {a : Addr} {m : Str -> Option Value}, o.ad a -> s.heap.Ns a m -> s'.heap.Ns a m := fun {a m} ha ⟨ob, es, ep, h1, h2, r⟩ => by
  obtain ⟨o', h, k⟩ := ad a ha ob h1
  exact ⟨o', es, ep, h, k.data.trans h2, r⟩
 refine ⟨I.cx, ⟨I.si.ok, ⟨fun a ob e => ?_, nk (.inr (.inl rfl)) I.si.wd.g, nk (.inr (.inr (.inl rfl))) I.si.wd.b, I.si.wd.bi, ?_⟩, I.si.fs.stepF I.si.hs x, x.holds, fun a ha => ?_⟩, L', I.ow.step I.ost x, fun a ha => ?_, I.oad⟩
 . obtain ⟨o', h, k⟩ := ad a (.inl ⟨ob, e⟩) ob (I.si.wd.k a ob e)
   rw [k.eq (W.noFrame a ob e)] at h
   exact h
 . obtain ⟨mc, h1, h2⟩ := I.si.wd.nolimit
   exact ⟨mc, nk (.inr (.inr (.inr rfl))) h1, h2⟩
 . exact none_of_sub x.sub (I.si.sep a ha) (In.ex I.si.wd ha)
 . obtain ⟨ob, T, h1, _⟩ := I.ow.ex a ha
   exact x.still (I.ost a ha) h1
theorem DOk.own (I : Inv o c loc st s) : DOk (fun b => st b ≠ none \/ own c b) s.heap where
 tup a ws n x q := by
  rcases q with q | q
  . exact q (tup_not_st I.si.hs x)
  . obtain ⟨ob, T, h1, h2, h3⟩ := I.ow.ex a q
    have e : ob = _ := Option.some.inj (h1.symm.trans x)
    subst e
    rcases h3 with ⟨es, n, h3⟩ | ⟨v, h3⟩ <;> cases h3
 rng a ob vs x hc hd q := by
  rcases q with q | q
  . exact q (rec_not_st I.si.hs x hc hd)
  . obtain ⟨ob', T, h1, h2, h3⟩ := I.ow.ex a q
    rw [x] at h1; cases h1
    rcases h3 with ⟨es, n, h3⟩ | ⟨v, h3⟩ <;> (rw [hd] at h3; cases h3)
 obj a ob x hd hC q := by
  rcases q with q | q
  . exact q (inst_not_st I.si.hs x hd)
  . obtain ⟨ob', T, h1, h2, h3⟩ := I.ow.ex a q
    rw [x] at h1; cases h1
    obtain ⟨C, hc⟩ := hC
    rw [hc] at h2; cases h2
theorem Step.kpd {F : Addr -> Prop} (x : Step o.P F st s st' s') : KpD (fun b => st b ≠ none \/ F b) s.heap s'.heap := fun b ob hb hob =>
 x.ext b ob (fun q => hb (.inr q)) (Classical.byContradiction fun q => hb (.inl q)) hob
theorem VR.stepF (I : Inv o c loc st s) (x : Step o.P (own c) st s st' s') {a : V} {v : Value} (r : VR s.heap a v) : VR s'.heap a v := r.keepD (DOk.own I) x.kpd
theorem VRs.stepF (I : Inv o c loc st s) (x : Step o.P (own c) st s st' s') {a : List V} {v : List Value} (r : VRs s.heap a v) : VRs s'.heap a v := r.keepD (DOk.own I) x.kpd
end
structure Exc where
 C : Addr
 at' : List (Str × V)
inductive TbIs (N : Addr -> Prop) (h : Heap) (e : Addr) (w : Option Value -> Prop) (v : Option Value) : Prop
 | no (q : v = some .none)
 | tb (T : Addr) (oT : Obj) (ts : Array Value) (c1 : v = some (.ref T)) (c2 : T ≠ e) (c3 : N T) (c4 : h.get? T = some oT) (c5 : oT.data = .fields ts) (c6 : w (ts[3]?)) (c7 : oT.cls = .type "traceback")
theorem TbIs.imp {N N' : Addr -> Prop} {h h' : Heap} {e : Addr} {w w' : Option Value -> Prop} {v : Option Value} (b : TbIs N h e w v) (hN : ∀ T, N T -> N' T) (hh : ∀ T oT, N T -> h.get? T = some oT -> oT.cls = .type "traceback" -> (∃ ts, oT.data = .fields ts) -> h'.get? T = some oT) (hw : ∀ x, w x -> w' x) : TbIs N' h' e w' v := by
 cases b with
 | no q => exact .no q
 | tb T oT ts c1 c2 c3 c4 c5 c6 c7 => exact .tb T oT ts c1 c2 (hN _ c3) (hh _ _ c3 c4 c7 ⟨_, c5⟩) c5 (hw _ c6) c7
inductive FlW (fl : Option Addr) (x : Option Value) : Prop
 | no (q : x = some .none)
 | «at» (L : Addr) (d : fl = some L) (q : x = some (rawInt L))
inductive Flying (P : Params) (fl : Option Addr) (st' : St) (h0 h : Heap) (x : Exc) (e : Addr) : Prop
 | mk (dx : Addr) (oe : Obj) (vs : Array Value) (a0 : Value) (es : List DictEntry) (n : Nat) (b1 : h.get? e = some oe) (b2 : oe.cls = .ref x.C) (b3 : oe.dict = some dx) (b4 : oe.data = .fields vs) (b5 : vs[0]? = some a0)
  (b6 : h.get? dx = some (dictO es n)) (b7 : SEs P h x.at' es) (b8 : h0.get? e = none) (b9 : h0.get? dx = none) (b10 : st' dx = none /\ st' e = none)
  (b11 : TbIs (fun T => h0.get? T = none) h e (FlW fl) (vs[1]?))
theorem Flying.weak {P : Params} {fl : Option Addr} {st' : St} {h0 h : Heap} {x : Exc} {e : Addr} (f : Flying P none st' h0 h x e) : Flying P fl st' h0 h x e := by
 obtain ⟨dx, oe, vs, a0, es, n, b1, b2, b3, b4, b5, b6, b7, b8, b9, b10, b11⟩ := f
 exact ⟨dx, oe, vs, a0, es, n, b1, b2, b3, b4, b5, b6, b7, b8, b9, b10, b11.imp (fun _ => id) (fun _ _ _ q _ _ => q) fun _ q => match q with | .no q => .no q | .at _ d _ => nomatch d⟩
inductive UpP {α : Type} (X : α -> St -> Prop) (x : α) (st' : St) : Prop
 | mk (st'' : St) (le : St.le st'' st') (q : X x st'')
inductive PV (o : Wo) (st : St) (s : Shared) (Q : V -> St -> Prop) (v : Value) (s' : Shared) : Prop
 | mk (r : V) (st' : St) (h : VR s'.heap r v) (S : Step o.P noF st s st' s') (q : Q r st')
inductive PB (o : Wo) (st : St) (s : Shared) (Q : Bool -> St -> Prop) (b : Bool) (s' : Shared) : Prop
 | mk (st' : St) (S : Step o.P noF st s st' s') (q : Q b st')
inductive PVs (o : Wo) (st : St) (s : Shared) (Q : List V -> St -> Prop) (v : List Value) (s' : Shared) : Prop
 | mk (r : List V) (st' : St) (h : VRs s'.heap r v) (S : Step o.P noF st s st' s') (q : Q r st')
inductive PXg (o : Wo) (F : Addr -> Prop) (G : Heap -> Prop) (fl : Option Addr) (st : St) (s : Shared) (X : Exc -> St -> Prop) (ev : Value) (s' : Shared) : Prop
 | mk (x : Exc) (st' : St) (e : Addr) (he : ev = .ref e) (f : Flying o.P fl st' s.heap s'.heap x e) (S : Step o.P F st s st' s') (g : G s'.heap) (q : X x st')
noncomputable abbrev PX (o : Wo) (F : Addr -> Prop) (st : St) (s : Shared) (X : Exc -> St -> Prop) : Value -> Shared -> Prop := PXg o F (fun _ => True) none st s X
section
variable {o : Wo} {F : Addr -> Prop} {st st₁ : St} {s s₁ s' : Shared}
theorem none_of_mono {F : Addr -> Prop} (x : Step o.P F st s st₁ s₁) {a : Addr} (h : s₁.heap.get? a = none) : s.heap.get? a = none := by
 cases q : s.heap.get? a with
 | none => rfl
 | some o => have := x.mono a (by rw [q]; rfl); rw [h] at this; cases this
theorem PV.trans {Q : V -> St -> Prop} {v : Value} (x : Step o.P noF st s st₁ s₁) (h : PV o st₁ s₁ Q v s') : PV o st s Q v s' :=
 let ⟨r, st', a, b, c⟩ := h; ⟨r, st', a, x.trans b, c⟩
theorem PB.trans {Q : Bool -> St -> Prop} {v : Bool} (x : Step o.P noF st s st₁ s₁) (h : PB o st₁ s₁ Q v s') : PB o st s Q v s' :=
 let ⟨st', b, c⟩ := h; ⟨st', x.trans b, c⟩
theorem PXg.trans {fl : Option Addr} {G : Heap -> Prop} {X : Exc -> St -> Prop} {v : Value} (x : Step o.P F st s st₁ s₁) (h : PXg o F G fl st₁ s₁ X v s') : PXg o F G fl st s X v s' := by
 obtain ⟨y, st', e, a, ⟨dx, oe, vs, a0, es, n, b1, b2, b3, b4, b5, b6, b7, b8, b9, b10, b11⟩, c, g, d⟩ := h
 exact ⟨y, st', e, a, ⟨dx, oe, vs, a0, es, n, b1, b2, b3, b4, b5, b6, b7, none_of_mono x b8, none_of_mono x b9, b10, b11.imp (fun _ => none_of_mono x) (fun _ _ _ q _ _ => q) fun _ => id⟩, x.trans c, g, d⟩
theorem PXg.drop {fl : Option Addr} {G : Heap -> Prop} {X : Exc -> St -> Prop} {v : Value} (h : PXg o F G fl st s X v s') : PXg o F (fun _ => True) fl st s X v s' :=
 let ⟨y, st', e, a, b, c, g, d⟩ := h; ⟨y, st', e, a, b, c, trivial, d⟩
theorem PV.mono {Q Q' : V -> St -> Prop} {v : Value} (h : PV o st s Q v s') (q : ∀ r st', Q r st' -> Q' r st') : PV o st s Q' v s' :=
 let ⟨r, st', a, b, c⟩ := h; ⟨r, st', a, b, q _ _ c⟩
theorem PXg.mono {fl : Option Addr} {G : Heap -> Prop} {X X' : Exc -> St -> Prop} {v : Value} (h : PXg o F G fl st s X v s') (q : ∀ r st', X r st' -> X' r st') : PXg o F G fl st s X' v s' :=
 let ⟨y, st', e, a, b, c, g, d⟩ := h; ⟨y, st', e, a, b, c, g, q _ _ d⟩
end
noncomputable def EV (o : Wo) (c : Cx) (loc : LocF) (st : St) (e : Expr) (Q : V -> St -> Prop) (X : Exc -> St -> Prop) : Prop :=
 ∀ s, Inv o c loc st s -> wpAny o.M c.k.A (eval e c.env) (PV o st s Q) (PX o noF st s X) s
noncomputable def EVs (o : Wo) (c : Cx) (loc : LocF) (st : St) (pos : Pos) (es : List Expr) (Q : List V -> St -> Prop) (X : Exc -> St -> Prop) : Prop :=
 ∀ s, Inv o c loc st s -> wpAny o.M c.k.A (spliced (backTo pos (starEach es c.env))) (PVs o st s Q) (PX o noF st s X) s
noncomputable def TR (o : Wo) (c : Cx) (loc : LocF) (st : St) (e : Expr) (Q : Bool -> St -> Prop) (X : Exc -> St -> Prop) : Prop :=
 ∀ s, Inv o c loc st s -> wpAny o.M c.k.A (isTrue e c.env (eval e c.env)) (PB o st s Q) (PX o noF st s X) s
noncomputable def OPB (o : Wo) (k : Kx) (st : St) (op : Operator) (a b : V) (Q : V -> St -> Prop) (X : Exc -> St -> Prop) : Prop :=
 ∀ s va vb, SI o k st s -> VR s.heap a va -> VR s.heap b vb -> wpAny o.M k.A (binaryOp op va vb) (PV o st s Q) (PX o noF st s X) s
noncomputable def OPI (o : Wo) (k : Kx) (st : St) (op : Operator) (a b : V) (Q : V -> St -> Prop) (X : Exc -> St -> Prop) : Prop :=
 ∀ s va vb, SI o k st s -> VR s.heap a va -> VR s.heap b vb -> wpAny o.M k.A (inplaceOp op va vb) (PV o st s Q) (PX o noF st s X) s
noncomputable def OPU (o : Wo) (k : Kx) (st : St) (op : UnaryOp) (a : V) (Q : V -> St -> Prop) (X : Exc -> St -> Prop) : Prop :=
 ∀ s va, SI o k st s -> VR s.heap a va -> wpAny o.M k.A (unaryOp op va) (PV o st s Q) (PX o noF st s X) s
noncomputable def CMP (o : Wo) (k : Kx) (st : St) (op : CmpOp) (a b : V) (Q : V -> St -> Prop) (X : Exc -> St -> Prop) : Prop :=
 ∀ s va vb, SI o k st s -> VR s.heap a va -> VR s.heap b vb -> wpAny o.M k.A (compareOp op va vb) (PV o st s Q) (PX o noF st s X) s
noncomputable def TRV (o : Wo) (k : Kx) (st : St) (a : V) (Q : Bool -> St -> Prop) (X : Exc -> St -> Prop) : Prop :=
 ∀ s va, SI o k st s -> VR s.heap a va -> wpAny o.M k.A (truthy va) (PB o st s Q) (PX o noF st s X) s
noncomputable def CALL (o : Wo) (k : Kx) (st : St) (f : Value) (as : List V) (Q : V -> St -> Prop) (X : Exc -> St -> Prop) : Prop :=
 ∀ s vs, SI o k st s -> VRs s.heap as vs -> wpAny o.M k.A (call f vs []) (PV o st s Q) (PX o noF st s X) s
noncomputable def RV (o : Wo) (st : St) (s : Shared) (Q : V -> St -> Prop) (X : Exc -> St -> Prop) : Result -> Shared -> Prop := fun r s' => match r with
 | .ok (.ret v) => PV o st s Q v s'
 | .ok _ => False
 | .error e => PX o noF st s X e s'
noncomputable def CALLC (o : Wo) (k : Kx) (st : St) (f : Value) (as : List V) (Q : V -> St -> Prop) (X : Exc -> St -> Prop) : Prop :=
 ∀ s vs, SI o k st s -> VRs s.heap as vs -> codeAny o.M k.A (.call f ⟨vs, []⟩) (RV o st s Q X) s
theorem CALLC.call {o : Wo} {k : Kx} {st : St} {f : Value} {as : List V} {Q : V -> St -> Prop} {X : Exc -> St -> Prop} (h : CALLC o k st f as Q X) : CALL o k st f as Q X := fun s vs S r => wpAny_call (h s vs S r)
section
variable {o : Wo} [W : WoOk o] {c : Cx} {k : Kx} {loc : LocF} {st : St} {Q : V -> St -> Prop} {X : Exc -> St -> Prop}
theorem EV.mono {e : Expr} {Q' : V -> St -> Prop} {X' : Exc -> St -> Prop} (h : EV o c loc st e Q X) (q : ∀ r st', Q r st' -> Q' r st') (x : ∀ r st', X r st' -> X' r st') : EV o c loc st e Q' X' :=
 fun s I => wpAny_mono (h s I) (fun _ _ p => p.mono q) fun _ _ p => p.mono x
theorem ev_name {x : Str} {pos : Pos} {v : V} (hx : loc x = some v) (hd : (x == ("__debug__" : Str)) = false) (h : Q v st) : EV o c loc st (.Name x pos) Q X := fun s I => by
 obtain ⟨m, hm, q⟩ := I.lc.ns
 have fin : ∀ u, VR s.heap v u -> PV o st s Q u s := fun u r => ⟨v, st, r, Step.refl I.si.hs, h⟩
 rcases q x v hx with ⟨hl, u, hu, r⟩ | ⟨hl, hn, a, u, ha, hc, r⟩
 . exact wpAny_Name (wpAny_loadName_local I.cx.kind hl hm hu (fin u r)) hd
 . rcases hl with hl | hl
   . exact wpAny_Name (wpAny_loadName_cell I.cx.kind hl ha hc (fin u r)) hd
   . exact wpAny_Name (wpAny_loadName_free I.cx.kind hl ha hc (fin u r) hn) hd
theorem ev_glob {x : Str} {pos : Pos} {v : Value} (hk : c.env.kindOf x = some .globalImplicit) (hx : o.mg x = some v) (hd : (x == ("__debug__" : Str)) = false) (h : Q (.raw v) st) :
 EV o c loc st (.Name x pos) Q X := fun s I =>
 Name_function_global I.cx.kind hk (loadGlobal_global (by rw [I.cx.glob]; exact I.si.wd.g) hx ⟨.raw v, st, .raw v, Step.refl I.si.hs, h⟩) hd
theorem ev_blt {x : Str} {pos : Pos} {v : Value} (hk : c.env.kindOf x = some .globalImplicit) (hx : o.mg x = none) (hv : bootBuiltins x = some v) (hn : x ≠ "__name__") (hd : (x == ("__debug__" : Str)) = false) (h : Q (.raw v) st) :
 EV o c loc st (.Name x pos) Q X := fun s I =>
 Name_function_global I.cx.kind hk (loadGlobal_builtin (by rw [I.cx.glob]; exact I.si.wd.g) hx (by rw [I.cx.blt]; exact I.si.wd.b) ((I.si.wd.bi x hn).trans hv) ⟨.raw v, st, .raw v, Step.refl I.si.hs, h⟩) hd
theorem ev_int {i : Int} {k : Nat} {pos : Pos} (h : Q (.int i) st) : EV o c loc st (.Constant (.int i) k pos) Q X := fun s I =>
 wpAny_Constant_int ⟨.int i, st, .int _ _, Step.toks I.si.hs _, h⟩
theorem ev_str {x : Str} {k : Nat} {pos : Pos} (h : Q (.str x) st) : EV o c loc st (.Constant (.str x) k pos) Q X := fun s I =>
 Constant_str ⟨.str x, st, .str _ _, Step.toks I.si.hs _, h⟩
theorem ev_bool {b : Bool} {k : Nat} {pos : Pos} (h : Q (.bool b) st) : EV o c loc st (.Constant (.bool b) k pos) Q X := fun s I =>
 show wpAny _ _ (pure (Value.bool b)) _ _ s from wpAny_pure ⟨.bool b, st, .bool _, Step.refl I.si.hs, h⟩
theorem ev_none {k : Nat} {pos : Pos} (h : Q .none st) : EV o c loc st (.Constant .none k pos) Q X := fun s I =>
 show wpAny _ _ (pure Value.none) _ _ s from wpAny_pure ⟨.none, st, .none, Step.refl I.si.hs, h⟩
theorem ev_bin {l r : Expr} {op : Operator} {pos : Pos} (h : EV o c loc st l (fun a st₁ => EV o c loc st₁ r (fun b st₂ => OPB o c.k st₂ op a b Q X) X) X) : EV o c loc st (.BinOp l op r pos) Q X := fun s I => by
 refine wpAny_BinOp (wpAny_mono (h s I) (fun va s₁ p => ?_) fun _ _ p => p)
 obtain ⟨a, st₁, ra, S₁, q₁⟩ := p
 have I₁ := I.step S₁
 refine wpAny_mono (q₁ s₁ I₁) (fun vb s₂ p => ?_) fun _ _ p => p.trans S₁
 obtain ⟨b, st₂, rb, S₂, q₂⟩ := p
 have I₂ := I₁.step S₂
 exact wpAny_mono (q₂ s₂ va vb I₂.si (ra.keep I₁.si.hs S₂.kp) rb) (fun _ _ p => p.trans (S₁.trans S₂)) fun _ _ p => p.trans (S₁.trans S₂)
end
section
variable {P : Params} {F : Addr -> Prop} {st : St} {s : Shared} {h : Heap}
theorem Kp.push (ob : Obj) : Kp st h (h.push ob) := fun b o _ ho => ⟨o, Heap.get?_push_of_some _ ho, .refl o⟩
theorem Holds.push (H : Holds P st h) (ob : Obj) : Holds P st (h.push ob) := fun a m e => by
 obtain ⟨o, ho, hm⟩ := H a m e
 exact ⟨o, Heap.get?_push_of_some _ ho, hm.keep H (Kp.push ob)⟩
theorem Step.push (H : Holds P st s.heap) (ob : Obj) (t : Nat) : Step P F st s st { s with heap := s.heap.push ob, toks := t } where
 holds := H.push ob
 sub _ h := .inl h
 ext b o _ _ ho := ⟨o, Heap.get?_push_of_some _ ho, .refl o⟩
 own b o _ _ ho := ⟨o, Heap.get?_push_of_some _ ho, .refl o⟩
 mono b h := by
  obtain ⟨o, ho⟩ := Option.isSome_iff_exists.mp h
  rw [show ({ s with heap := s.heap.push ob, toks := t } : Shared).heap = s.heap.push ob from rfl, Heap.get?_push_of_some _ ho]; rfl
 gens := rfl
 os := rfl
theorem size_none (H : Holds P st h) : st h.objs.size = none := by
 cases q : st h.objs.size with
 | none => rfl
 | some m => obtain ⟨o, ho, _⟩ := H _ m q; exact absurd (Heap.lt_size ho) (Nat.lt_irrefl _)
theorem Step.alloc (H : Holds P st s.heap) (ob : Obj) (m : MO) (hf : ob.isFreed = false) (hm : MOR P s.heap m ob) (t : Nat) :
 Step P F st s (st.set s.heap.objs.size m) { s with heap := s.heap.push ob, toks := t } where
 holds := fun a m' e => by
  unfold St.set at e
  split at e
  . rename_i q; cases e; subst q
    exact ⟨ob, Heap.get?_push_size _ hf, hm.keep H (Kp.push ob)⟩
  . exact (H.push ob) a m' e
 sub a e := by
  unfold St.set at e
  split at e
  . rename_i q; subst q; exact .inr (Heap.get?_none_of_le (Nat.le_refl _))
  . exact .inl e
 ext b o _ _ ho := ⟨o, Heap.get?_push_of_some _ ho, .refl o⟩
 own b o _ _ ho := ⟨o, Heap.get?_push_of_some _ ho, .refl o⟩
 mono b h := by
  obtain ⟨o, ho⟩ := Option.isSome_iff_exists.mp h
  rw [show ({ s with heap := s.heap.push ob, toks := t } : Shared).heap = s.heap.push ob from rfl, Heap.get?_push_of_some _ ho]; rfl
 gens := rfl
 os := rfl
theorem Step.upd {a : Addr} {m : MO} {ob : Obj} {h' : Heap} (H : Holds P st s.heap) (ha : st a ≠ none) (hs : Heap.SameBut a s.heap h') (ho : h'.get? a = some ob) (hm : ∀ hh, Kp st s.heap hh -> MOR P hh m ob) (t : Nat) :
 Step P F st s (st.set a m) { s with heap := h', toks := t } := by
 have K : Kp st s.heap h' := fun b o hb hob => ⟨o, (hs.2 b (by intro q; subst q; exact ha hb)).trans hob, .refl o⟩
 refine ⟨fun b m' e => ?_, fun b e => ?_, fun b o _ hb hob => K b o hb hob, fun b o _ hb hob => let ⟨o', h, k⟩ := K b o hb hob; ⟨o', h, k.oo⟩, fun b e => ?_, rfl, rfl⟩
 . unfold St.set at e
   split at e
   . rename_i q; cases e; subst q
     exact ⟨ob, ho, hm _ K⟩
   . rename_i q
     obtain ⟨o, h1, h2⟩ := H b m' e
     exact ⟨o, (hs.2 b q).trans h1, h2.keep H K⟩
 . unfold St.set at e
   split at e
   . rename_i q; subst q; exact .inl ha
   . exact .inl e
 . by_cases q : b = a
   . subst q; rw [show ({ s with heap := h', toks := t } : Shared).heap = h' from rfl, ho]; rfl
   . rw [show ({ s with heap := h', toks := t } : Shared).heap = h' from rfl, hs.2 b q]; exact e
end
section
variable {o : Wo} {k : Kx} {st : St} {Q : V -> St -> Prop} {X : Exc -> St -> Prop}
theorem pv_toks {s : Shared} {v : V} {u : Value} {t : Nat} (S : SI o k st s) (r : VR s.heap v u) (h : Q v st) : PV o st s Q u { s with toks := t } := ⟨v, st, r, Step.toks S.hs _, h⟩
theorem pv_here {s : Shared} {v : V} {u : Value} (S : SI o k st s) (r : VR s.heap v u) (h : Q v st) : PV o st s Q u s := ⟨v, st, r, Step.refl S.hs, h⟩
section
variable {i j : Int}
theorem opb_ii {op : Operator} (f : ∀ s t u, SI o k st s -> wpAny o.M k.A (binaryOp op (.int i t) (.int j u)) (PV o st s Q) (PX o noF st s X) s) : OPB o k st op (.int i) (.int j) Q X := fun s va vb S ra rb => by cases ra; cases rb; exact f _ _ _ S
theorem cmp_ii {op : CmpOp} (f : ∀ s t u, SI o k st s -> wpAny o.M k.A (compareOp op (.int i t) (.int j u)) (PV o st s Q) (PX o noF st s X) s) : CMP o k st op (.int i) (.int j) Q X := fun s va vb S ra rb => by cases ra; cases rb; exact f _ _ _ S
theorem opb_add (h : Q (.int (i + j)) st) : OPB o k st .Add (.int i) (.int j) Q X := opb_ii fun s _ _ S => add_int (pv_toks S (.int _ _) h)
theorem opb_sub (h : Q (.int (i - j)) st) : OPB o k st .Sub (.int i) (.int j) Q X := opb_ii fun s _ _ S => sub_int (pv_toks S (.int _ _) h)
theorem opb_mul (hm : IntMulOk i j) (h : Q (.int (i * j)) st) : OPB o k st .Mult (.int i) (.int j) Q X := opb_ii fun s _ _ S => mul_int (pv_toks S (.int _ _) h) hm
theorem opb_fdiv (hj : j ≠ 0) (hs : j.natAbs.log2 < 9000) (h : Q (.int (i.fdiv j)) st) : OPB o k st .FloorDiv (.int i) (.int j) Q X := opb_ii fun s _ _ S => floordiv_int hj (pv_toks S (.int _ _) h) (.inl (PyProof.noPylong_of_log2 hs))
theorem opb_mod (hj : j ≠ 0) (h : Q (.int (i.fmod j)) st) : OPB o k st .Mod (.int i) (.int j) Q X := opb_ii fun s _ _ S => mod_int' hj (pv_toks S (.int _ _) h)
theorem opb_pow (hj : 0 <= j) (hs : (Builtin.Int.intBits i : Int) * j <= 2 ^ 27) (h : Q (.int (i ^ j.toNat)) st) : OPB o k st .Pow (.int i) (.int j) Q X := opb_ii fun s _ _ S => pow_int hj hs (pv_toks S (.int _ _) h)
theorem opb_shl (hj : 0 <= j) (hs : (Builtin.Int.intBits i : Int) + j <= 2 ^ 27) (h : Q (.int (i * 2 ^ j.toNat)) st) : OPB o k st .LShift (.int i) (.int j) Q X := opb_ii fun s _ _ S => lshift_int hj hs (pv_toks S (.int _ _) h)
theorem opb_shr (hj : 0 <= j) (h : Q (.int (i.fdiv (2 ^ j.toNat))) st) : OPB o k st .RShift (.int i) (.int j) Q X := opb_ii fun s _ _ S => rshift_int hj (pv_toks S (.int _ _) h)
theorem opb_and (h : Q (.int (Builtin.bitAnd i j)) st) : OPB o k st .BitAnd (.int i) (.int j) Q X := opb_ii fun s _ _ S => and_int (pv_toks S (.int _ _) h)
theorem opb_or (h : Q (.int (Builtin.bitOr i j)) st) : OPB o k st .BitOr (.int i) (.int j) Q X := opb_ii fun s _ _ S => or_int (pv_toks S (.int _ _) h)
theorem opb_xor (h : Q (.int (Builtin.bitXor i j)) st) : OPB o k st .BitXor (.int i) (.int j) Q X := opb_ii fun s _ _ S => xor_int (pv_toks S (.int _ _) h)
theorem opi_add (h : Q (.int (i + j)) st) : OPI o k st .Add (.int i) (.int j) Q X := fun s va vb S ra rb => by cases ra; cases rb; exact iadd_int (pv_toks S (.int _ _) h)
theorem opi_sub (h : Q (.int (i - j)) st) : OPI o k st .Sub (.int i) (.int j) Q X := fun s va vb S ra rb => by cases ra; cases rb; exact isub_int (pv_toks S (.int _ _) h)
theorem opu_neg (h : Q (.int (-i)) st) : OPU o k st .USub (.int i) Q X := fun s va S ra => by cases ra; exact PyProof.Rows.neg_int (pv_toks S (.int _ _) h)
theorem cmp_lt (h : Q (.bool (decide (i < j))) st) : CMP o k st .Lt (.int i) (.int j) Q X := cmp_ii fun s _ _ S => lt_int (pv_here S (.bool _) h)
theorem cmp_le (h : Q (.bool (decide (i <= j))) st) : CMP o k st .LtE (.int i) (.int j) Q X := cmp_ii fun s _ _ S => le_int (pv_here S (.bool _) h)
theorem cmp_gt (h : Q (.bool (decide (j < i))) st) : CMP o k st .Gt (.int i) (.int j) Q X := cmp_ii fun s _ _ S => gt_int (pv_here S (.bool _) h)
theorem cmp_ge (h : Q (.bool (decide (j <= i))) st) : CMP o k st .GtE (.int i) (.int j) Q X := cmp_ii fun s _ _ S => ge_int (pv_here S (.bool _) h)
theorem cmp_eq_int (h : Q (.bool (i == j)) st) : CMP o k st .Eq (.int i) (.int j) Q X := cmp_ii fun s _ _ S => eq_int (pv_here S (.bool _) h)
theorem cmp_ne_int (h : Q (.bool (i != j)) st) : CMP o k st .NotEq (.int i) (.int j) Q X := cmp_ii fun s _ _ S => ne_int (pv_here S (.bool _) h)
end
theorem cmp_eq_str {x y : Str} (h : Q (.bool (x == y)) st) : CMP o k st .Eq (.str x) (.str y) Q X := fun s va vb S ra rb => by cases ra; cases rb; exact eq_str (pv_here S (.bool _) h)
theorem cmp_ne_str {x y : Str} (h : Q (.bool (x != y)) st) : CMP o k st .NotEq (.str x) (.str y) Q X := fun s va vb S ra rb => by cases ra; cases rb; exact ne_str (pv_here S (.bool _) h)
noncomputable def V.isNone : V -> Bool | .none => true | .raw .none => true | _ => false
theorem VR.isNone {h : Heap} {a : V} {v : Value} (r : VR h a v) : (v == Value.none) = a.isNone := by
 cases r <;> first | rfl | (cases v <;> rfl)
theorem cmp_is_none {a : V} (h : Q (.bool a.isNone) st) : CMP o k st .Is a .none Q X := fun s va vb S ra rb => by
 cases rb; exact PySem.is_none (pv_here S (by rw [ra.isNone]; exact .bool _) h)
theorem cmp_isnot_none {a : V} (h : Q (.bool (!a.isNone)) st) : CMP o k st .IsNot a .none Q X := fun s va vb S ra rb => by
 cases rb; exact PySem.isNot_none (pv_here S (by rw [ra.isNone]; exact .bool _) h)
theorem opb_add_str {x y : Str} (hz : x.length + y.length <= sizeLine) (h : Q (.str (x ++ y)) st) : OPB o k st .Add (.str x) (.str y) Q X := fun s va vb S ra rb => by
 cases ra; cases rb; exact PyProof.Rows.add_str (fun t' tk => pv_toks S (.str _ _) h) hz
mutual
noncomputable def V.py : V -> Option PyData
 | .none => some .none
 | .bool b => some (.bool b)
 | .int i => some (.int i)
 | .str x => some (.str x)
 | .tup vs => (V.pys vs).map .tuple
 | .ptr _ | .obj .. | .rng .. | .raw _ => Option.none
noncomputable def V.pys : List V -> Option (List PyData)
 | [] => some []
 | x :: xs => match V.py x, V.pys xs with
  | some d, some ds => some (d :: ds)
  | _, _ => Option.none
end
theorem V.pys_some {x : V} {xs : List V} {ds : List PyData} (e : V.pys (x :: xs) = some ds) : ∃ d es, x.py = some d /\ V.pys xs = some es /\ d :: es = ds := by
 have e : (match x.py, V.pys xs with | some d, some ds => some (d :: ds) | _, _ => Option.none) = some ds := e
 cases h1 : x.py with
 | none => rw [h1] at e; cases e
 | some d =>
 cases h2 : V.pys xs with
 | none => rw [h1, h2] at e; cases e
 | some es => rw [h1, h2] at e; exact ⟨d, es, rfl, rfl, Option.some.inj e⟩
theorem VR.reads {h : Heap} {a : V} {v : Value} {d : PyData} (r : VR h a v) (e : a.py = some d) : ∃ as, Reads h v d as :=
 @VR.rec h (fun a v _ => ∀ d, a.py = some d -> ∃ as, Reads h v d as) (fun xs vs _ => ∀ ds, V.pys xs = some ds -> ∃ as, ReadsAll h vs ds as)
  (fun _ e => Option.some.inj e ▸ ⟨_, .none⟩) (fun b _ e => Option.some.inj e ▸ ⟨_, .bool b⟩) (fun i t _ e => Option.some.inj e ▸ ⟨_, .int i t⟩) (fun x t _ e => Option.some.inj e ▸ ⟨_, .str x t⟩)
  (fun {vs ws a n} ht _ ih d e => by
   obtain ⟨ds, hds, rfl⟩ := Option.map_eq_some_iff.mp (show (V.pys vs).map PyData.tuple = some d from e)
   obtain ⟨as, ra⟩ := ih ds hds
   exact ⟨as, .tuple ht rfl rfl (by simpa using ra)⟩)
  (fun _ _ e => nomatch e) (fun _ _ _ _ _ e => nomatch e) (fun _ _ e => nomatch e) (fun _ _ e => nomatch e) (fun _ e => Option.some.inj e ▸ ⟨_, .nil⟩)
  (fun _ _ iha ihr ds e => by
   obtain ⟨d, es, h1, h2, rfl⟩ := V.pys_some e
   obtain ⟨as, ra⟩ := iha d h1
   obtain ⟨bs, rb⟩ := ihr es h2
   exact ⟨_, .cons ra rb⟩) _ _ r d e
theorem VRs.reads {h : Heap} {xs : List V} {vs : List Value} {ds : List PyData} (r : VRs h xs vs) (e : V.pys xs = some ds) : ∃ as, ReadsAll h vs ds as :=
 r.ind (P := fun xs vs => ∀ ds, V.pys xs = some ds -> ∃ as, ReadsAll h vs ds as) (fun _ e => Option.some.inj e ▸ ⟨_, .nil⟩) (fun a _ ih ds e => by
  obtain ⟨d, es, h1, h2, rfl⟩ := V.pys_some e
  obtain ⟨as, ra⟩ := a.reads h1
  obtain ⟨bs, rb⟩ := ih es h2
  exact ⟨_, .cons ra rb⟩) ds e
theorem units_room {k : Kx} (h : KxOk k) {n : Nat} (hn : n <= 30) : k.A.units + n < cLine := by have := h.units; (first | lia | omega)
theorem cmp_eq {a b : V} {da db : PyData} (ha : a.py = some da) (hb : b.py = some db) (la : da.canLay0 = true) (lb : db.canLay0 = true) (hd : min da.depth db.depth <= 30) (h : Q (.bool (PyData.eqv da db)) st) :
 CMP o k st .Eq a b Q X := fun s va vb S ra rb => by
 obtain ⟨_, r1⟩ := ra.reads ha
 obtain ⟨_, r2⟩ := rb.reads hb
 exact SeqAt.compareEq_reads r1 r2 la lb (units_room S.ok hd) (pv_here S (.bool _) h)
theorem cmp_ne {a b : V} {da db : PyData} (ha : a.py = some da) (hb : b.py = some db) (la : da.canLay0 = true) (lb : db.canLay0 = true) (hd : min da.depth db.depth <= 30) (h : Q (.bool (!PyData.eqv da db)) st) :
 CMP o k st .NotEq a b Q X := fun s va vb S ra rb => by
 obtain ⟨_, r1⟩ := ra.reads ha
 obtain ⟨_, r2⟩ := rb.reads hb
 exact SeqAt.compareNe_reads r1 r2 la lb (units_room S.ok hd) (pv_here S (.bool _) h)
theorem opb_add_tup {xs ys : List V} (hz : xs.length + ys.length <= sizeLine) (h : Q (.tup (xs ++ ys)) st) : OPB o k st .Add (.tup xs) (.tup ys) Q X := fun s va vb S ra rb => by
 cases ra with
 | tup ht r1 =>
 cases rb with
 | tup hb r2 =>
 rename_i ws a n us b m
 have l1 := r1.length
 have l2 := r2.length
 by_cases hv : xs = []
 . subst hv
   cases r1
   exact concat_meets ⟨_, ht, rfl⟩ ⟨_, hb, rfl⟩ noFill_tuple_add seq_tuple_add PySem.F.slot_tuple_add PySem.F.entry_tuple_add (PySem.F.args_tuple_add_2 _ _)
    (tuple_addW0 a b _ _ n m none none #[] #[] (by simp)) ⟨ht, hb, pv_here S (.tup hb r2) (by simpa using h)⟩
 . by_cases hw : ys = []
   . subst hw
     cases r2
     exact concat_meets ⟨_, ht, rfl⟩ ⟨_, hb, rfl⟩ noFill_tuple_add seq_tuple_add PySem.F.slot_tuple_add PySem.F.entry_tuple_add (PySem.F.args_tuple_add_2 _ _)
      (tuple_addW1 a b _ _ n m none none #[] #[] (by cases r1 <;> simp at hv ⊢) (by simp)) ⟨ht, hb, pv_here S (.tup ht r1) (by simpa using h)⟩
   . refine concat_meets ⟨_, ht, rfl⟩ ⟨_, hb, rfl⟩ noFill_tuple_add seq_tuple_add PySem.F.slot_tuple_add PySem.F.entry_tuple_add (PySem.F.args_tuple_add_2 _ _)
      (tuple_addW2 a b _ _ n m none none #[] #[] (by cases r1 <;> simp at hv ⊢) (by cases r2 <;> simp at hw ⊢) (by rw [List.size_toArray, List.size_toArray, <- l1, <- l2]; exact hz)) ⟨ht, hb, ?_⟩
     rw [show ws.toArray ++ us.toArray = (ws ++ us).toArray by simp]
     exact ⟨.tup (xs ++ ys), st, .tup (IsT.new _ _) ((r1.append r2).keep S.hs (Kp.push _)), Step.push S.hs _ s.toks, h⟩
theorem opb_add_lst {a b : Addr} {xs ys : List V} (ha : st a = some (.lst xs)) (hb : st b = some (.lst ys)) (hz : xs.length + ys.length <= sizeLine) (h : ∀ c, st c = none -> Q (.ptr c) (st.set c (.lst (xs ++ ys)))) :
 OPB o k st .Add (.ptr a) (.ptr b) Q X := fun s va vb S ra rb => by
 cases ra; cases rb
 obtain ⟨o1, h1, m1⟩ := S.hs a _ ha
 obtain ⟨o2, h2, m2⟩ := S.hs b _ hb
 cases m1 with
 | lst r1 =>
 cases m2 with
 | lst r2 =>
 rename_i ws n us m
 refine PySem.P.add_list h1 h2 ?_ (by rw [List.size_toArray, List.size_toArray, <- r1.length, <- r2.length]; exact hz)
 rw [show ws.toArray ++ us.toArray = (ws ++ us).toArray by simp]
 exact ⟨.ptr _, _, .ptr _, Step.alloc S.hs _ (.lst (xs ++ ys)) rfl (.lst (r1.append r2)) s.toks, h _ (size_none S.hs)⟩
end
section
open Sem (wp wp_bind' wp_cmd_ask wp_pure' wp_cmd_mkText wp_loadPart_of wp_cmd_updatePart)
theorem wp_nsSetC (M : Model) (Γ : Ctx) (E : Value -> Pos -> Shared -> Prop) (p : Pos) (s : Shared) {a : Addr} {m : Str -> Option Value} (hn : s.heap.Ns a m) (name : Str) (v : Value) (Q : Unit -> Pos -> Shared -> Prop)
 (hQ : ∀ h', h'.Ns a (fun x => if x = name then some v else m x) -> Heap.SameBut a s.heap h' -> (∀ ob, s.heap.get? a = some ob -> OOx h' a ob) ->
  Q () p { s with heap := h', toks := s.toks + 1 }) : wp M Γ (nsSet a name v) Q E p s := by
 have hn' := hn
 obtain ⟨o, es, ep, ho, hd, hk, hm⟩ := hn
 have key := Sem.wp_nsSet M Γ E p s hn' name v (fun _ p' s' => ∀ hC : (∀ ob, s.heap.get? a = some ob -> OOx s'.heap a ob), Q () p' s') (fun h' h1 h2 hC => hQ h' h1 h2 hC)
 simp only [nsSet, strHash, wp_bind', wp_cmd_ask, wp_pure', wp_cmd_mkText] at key ⊢
 rw [wp_loadPart_of M Γ E p { s with toks := s.toks + 1 } (o := o) _ ho] at key ⊢
 have hany : es.any (·.refKey) = false := by
  rw [Array.any_eq_false']; intro e he; obtain ⟨n, t, h⟩ := hk e he; simp [DictEntry.refKey, h]
 simp only [hd, aRefKeyMayBeTheName_eq, aRefKeyMayBeTheNameByArray, hany, Bool.and_false, Bool.false_eq_true, if_false, wp_cmd_updatePart] at key ⊢
 refine ⟨key.1, key.2 ?_⟩
 intro ob hob
 rw [ho] at hob; cases hob
 have hd' : ∃ es' ep', (Obj.putName name (PyData.keyHash M.w.params name) (.str name s.toks) v o).data = .dict es' ep' /\ (Obj.putName name (PyData.keyHash M.w.params name) (.str name s.toks) v o).cls = o.cls := by
  obtain ⟨c, d, dt, sl⟩ := o
  subst hd
  cases hi : es.findIdx? (·.key.isStr name) with
  | some i => exact ⟨_, _, (by simp only [Obj.putName_eq, Obj.putNameByArray, hi] <;> rfl), by simp only [Obj.putName_eq, Obj.putNameByArray, hi]⟩
  | none => exact ⟨_, _, (by simp only [Obj.putName_eq, Obj.putNameByArray, hi] <;> rfl), by simp only [Obj.putName_eq, Obj.putNameByArray, hi]⟩
 obtain ⟨es', ep', e1, e2⟩ := hd'
 refine ⟨_, Heap.get?_update_self _ ho (Obj.isFreed_of_dict e1), e2, fun _ => ⟨_, _, e1⟩, fun ⟨v, q⟩ => ?_⟩
 rw [hd] at q; cases q
end
theorem wpAny_nsSetC {M : Model} {A : Around} {E : Value -> Shared -> Prop} {s : Shared} {a : Addr} {m : Str -> Option Value} {name : Str} {v : Value} {Q : Unit -> Shared -> Prop} (hn : s.heap.Ns a m)
 (h : ∀ h', h'.Ns a (fun x => if x = name then some v else m x) -> Heap.SameBut a s.heap h' -> (∀ ob, s.heap.get? a = some ob -> OOx h' a ob) -> Q () { s with heap := h', toks := s.toks + 1 }) :
 wpAny M A (nsSet a name v) Q E s := fun Γ p _ => wp_nsSetC M Γ _ p s hn name v _ h
theorem wpAny_cellSetC {M : Model} {A : Around} {E : Value -> Shared -> Prop} {s : Shared} {c : Addr} {v₀ v : Option Value} {Q : Unit -> Shared -> Prop} (hc : s.heap.IsCell c v₀)
 (h : ∀ h', h'.IsCell c v -> Heap.SameBut c s.heap h' -> (∀ ob, s.heap.get? c = some ob -> OOx h' c ob) -> Q () { s with heap := h' }) : wpAny M A (cellSet c v) Q E s := by
 obtain ⟨o, ho, hd⟩ := hc
 unfold cellSet
 refine wpAny_bind (wpAny_load ho ?_)
 rw [hd]
 refine wpAny_update ho (h _ ⟨{ o with data := .cell v }, Heap.get?_update_self _ ho rfl, rfl⟩ (Heap.SameBut.update ..) fun ob hob => ?_)
 rw [ho] at hob; cases hob
 exact ⟨{ o with data := .cell v }, Heap.get?_update_self _ ho rfl, rfl, fun ⟨_, _, q⟩ => by (rw [hd] at q; cases q), fun _ => ⟨_, rfl⟩⟩
inductive Fl where
 | next | brk | cont
 | ret (v : V)
inductive FlR (h : Heap) : Fl -> Flow -> Prop
 | next : FlR h .next .next
 | brk : FlR h .brk .brk
 | cont : FlR h .cont .cont
 | ret {v u} : VR h v u -> FlR h (.ret v) (.ret u)
inductive PF (o : Wo) (c : Cx) (st : St) (s : Shared) (Q : Fl -> LocF -> St -> Prop) (f : Flow) (s' : Shared) : Prop
 | mk (fl : Fl) (loc' : LocF) (st' : St) (h : FlR s'.heap fl f) (S : Step o.P (own c) st s st' s') (l : LocR c.env loc' s'.heap) (q : Q fl loc' st')
inductive PU (o : Wo) (c : Cx) (st : St) (s : Shared) (Q : LocF -> St -> Prop) (u : Unit) (s' : Shared) : Prop
 | mk (loc' : LocF) (st' : St) (S : Step o.P (own c) st s st' s') (l : LocR c.env loc' s'.heap) (q : Q loc' st')
noncomputable abbrev PXO (o : Wo) (c : Cx) (st : St) (s : Shared) (X : Exc -> St -> Prop) : Value -> Shared -> Prop := PXg o (own c) (LocR c.env LocF.nil) (some c.env.locals) st s X
noncomputable def EX (o : Wo) (c : Cx) (loc : LocF) (st : St) (e : Stmt) (Q : Fl -> LocF -> St -> Prop) (X : Exc -> St -> Prop) : Prop :=
 ∀ s, Inv o c loc st s -> wpAny o.M c.k.A (exec e c.env) (PF o c st s Q) (PXO o c st s X) s
noncomputable def EXS (o : Wo) (c : Cx) (loc : LocF) (st : St) (es : List Stmt) (Q : Fl -> LocF -> St -> Prop) (X : Exc -> St -> Prop) : Prop :=
 ∀ s, Inv o c loc st s -> wpAny o.M c.k.A (execs es c.env) (PF o c st s Q) (PXO o c st s X) s
noncomputable def ASG (o : Wo) (c : Cx) (loc : LocF) (st : St) (t : Expr) (v : V) (Q : LocF -> St -> Prop) (X : Exc -> St -> Prop) : Prop :=
 ∀ s u, Inv o c loc st s -> VR s.heap v u -> wpAny o.M c.k.A (assign t c.env u) (PU o c st s Q) (PXO o c st s X) s
section
variable {o : Wo} {c : Cx} {st st₁ : St} {s s₁ s' : Shared}
theorem PF.trans {Q : Fl -> LocF -> St -> Prop} {f : Flow} (x : Step o.P (own c) st s st₁ s₁) (h : PF o c st₁ s₁ Q f s') : PF o c st s Q f s' :=
 let ⟨fl, l, st', a, b, d, e⟩ := h; ⟨fl, l, st', a, x.trans b, d, e⟩
theorem PU.trans {Q : LocF -> St -> Prop} {f : Unit} (x : Step o.P (own c) st s st₁ s₁) (h : PU o c st₁ s₁ Q f s') : PU o c st s Q f s' :=
 let ⟨l, st', b, d, e⟩ := h; ⟨l, st', x.trans b, d, e⟩
end
noncomputable def storable (env : Env) (x : Str) : Bool := env.kindOf x == some .local || (env.kindOf x == some .cell && (env.cells.lookup x).isSome && !(x == ("__classdict__" : Str)))
theorem storeName_R {o : Wo} [WoOk o] {c : Cx} {A : Around} {loc : LocF} {st : St} {s : Shared} {x : Str} {v : V} {u : Value} {Q : Unit -> Shared -> Prop} {E : Value -> Shared -> Prop} (I : Inv o c loc st s) (r : VR s.heap v u) (hx : storable c.env x = true)
 (h : ∀ h' t, Step o.P (own c) st s st { s with heap := h', toks := t } -> LocR c.env (loc.set x v) h' -> Q () { s with heap := h', toks := t }) :
 wpAny o.M A (storeName c.env x u) Q E s := by
 have gen : ∀ (L : Addr) (h' : Heap), own c L -> Heap.SameBut L s.heap h' -> (∀ ob, s.heap.get? L = some ob -> OOx h' L ob) -> ∀ t, Step o.P (own c) st s st { s with heap := h', toks := t } := by
  intro L h' hL sb oo t
  have K : KpD (fun b => st b ≠ none \/ own c b) s.heap h' := fun b ob hb hob => ⟨ob, (sb.2 b (by intro q; subst q; exact hb (.inr hL))).trans hob, .refl ob⟩
  refine ⟨fun a m e => ?_, fun a e => .inl e, fun b ob hf _ hob => ⟨ob, (sb.2 b (by intro q; subst q; exact hf hL)).trans hob, .refl ob⟩, fun b ob hf hst hob => ?_, fun b e => ?_, rfl, rfl⟩
  . obtain ⟨ob, h1, h2⟩ := I.si.hs a m e
    have : a ≠ L := by intro q; subst q; rw [I.ost a hL] at e; cases e
    exact ⟨ob, (sb.2 a this).trans h1, h2.keepD (DOk.own I) K⟩
  . by_cases q : b = L
    . subst q; exact oo ob hob
    . exact ⟨ob, (sb.2 b q).trans hob, .refl ob⟩
  . by_cases q : b = L
    . subst q
      obtain ⟨ob, hob⟩ := Option.isSome_iff_exists.mp e
      obtain ⟨ob', h1, _⟩ := oo ob hob
      show (h'.get? b).isSome = true
      rw [h1]; rfl
    . show (h'.get? b).isSome = true
      rw [sb.2 b q]; exact e
 obtain ⟨m, hm, q⟩ := I.lc.ns
 have apart := I.lc.apart
 have locne : ∀ (a : Addr) (w : Option Value), s.heap.IsCell a w -> a ≠ c.env.locals := fun a w ⟨ob, h1, h2⟩ e => by
  subst e
  obtain ⟨ob', es, ep, h3, h4, _⟩ := hm
  rw [h1] at h3; cases h3; rw [h2] at h4; cases h4
 unfold storable at hx
 rcases Bool.or_eq_true_iff.mp hx with hl | hc
 . have hl : c.env.kindOf x = some .local := by simpa using hl
   rw [storeName_local hl (by rw [I.cx.kind]; rfl)]
   refine wpAny_nsSetC hm fun h' hn hs oo => ?_
   have S := gen _ h' (.inl rfl) hs oo (s.toks + 1)
   have keep : ∀ {a : V} {w : Value}, VR s.heap a w -> VR h' a w := fun r => VR.stepF I S r
   refine h h' _ S ⟨⟨_, hn, fun y a e => ?_⟩, fun y a e => ?_, apart⟩
   . unfold LocF.set at e
     split at e
     . rename_i hy; cases e; subst hy
       exact .inl ⟨hl, u, by simp, keep r⟩
     . rename_i hy
       rcases q y a e with ⟨b1, w, b2, b3⟩ | ⟨b1, b2, d, w, b3, b4, b5⟩
       . exact .inl ⟨b1, w, by simp [hy, b2], keep b3⟩
       . exact .inr ⟨b1, b2, d, w, b3, b4.sameBut hs (locne d _ b4), keep b5⟩
   . obtain ⟨w, hw⟩ := I.lc.cells y a e
     exact ⟨w, hw.sameBut hs (locne a _ hw)⟩
 . simp only [Bool.and_eq_true, beq_iff_eq, Bool.not_eq_true'] at hc
   obtain ⟨⟨hl, hs⟩, hne⟩ := hc
   obtain ⟨a, ha⟩ := Option.isSome_iff_exists.mp hs
   obtain ⟨w0, hw0⟩ := I.lc.cells x a ha
   unfold storeName
   simp only [hl, I.cx.kind]
   refine wpAny_bind (wpAny_cellOf ha (wpAny_cellSetC hw0 fun h' hn hs oo => ?_))
   have hoa : own c a := .inr ⟨x, mem_of_lookup ha⟩
   have S := gen a h' hoa hs oo s.toks
   have keep : ∀ {a : V} {w : Value}, VR s.heap a w -> VR h' a w := fun r => VR.stepF I S r
   have nea : c.env.locals ≠ a := fun e => locne a _ hw0 e.symm
   refine h h' s.toks S ⟨⟨m, hm.sameBut hs nea, fun y b e => ?_⟩, fun y b e => ?_, apart⟩
   . unfold LocF.set at e
     split at e
     . rename_i hy; cases e; subst hy
       exact .inr ⟨.inl hl, by simpa using hne, a, u, ha, hn, keep r⟩
     . rename_i hy
       rcases q y b e with ⟨b1, w, b2, b3⟩ | ⟨b1, b2, d, w, b3, b4, b5⟩
       . exact .inl ⟨b1, w, b2, keep b3⟩
       . refine .inr ⟨b1, b2, d, w, b3, b4.sameBut hs ?_, keep b5⟩
         intro e'; subst e'
         exact hy (name_of_addr apart (mem_of_lookup b3) (mem_of_lookup ha))
   . by_cases e' : b = a
     . subst e'; exact ⟨_, hn⟩
     . obtain ⟨w, hw⟩ := I.lc.cells y b e
       exact ⟨w, hw.sameBut hs e'⟩
theorem dict_mapFields (o : Obj) (f) : (o.mapFields f).dict = o.dict := by
 obtain ⟨c, d, dt, sl⟩ := o
 cases dt <;> rfl
inductive NewE (h h' : Heap) (e L : Addr) (oe : Obj) (v0 : Option Value) : Prop
 | mk (T : Addr) (oe' : Obj) (vs' : Array Value) (oT : Obj) (ts : Array Value) (u1 : h.get? T = none) (u2 : T ≠ e) (u3 : h'.get? T = some oT) (u4 : oT.data = .fields ts) (u5 : ts[3]? = some (rawInt L)) (u6 : h'.get? e = some oe') (u7 : oe'.cls = oe.cls) (u8 : oe'.dict = oe.dict)
  (u9 : oe'.data = .fields vs') (u10 : vs'[0]? = v0) (u11 : vs'[1]? = some (.ref T)) (u12 : oT.cls = .type "traceback")
inductive OldE (h h' : Heap) (v : Option Value) (T : Addr) : Prop
 | mk (v1 : v = some (.ref T)) (oT oT' : Obj) (v2 : h.get? T = some oT) (ts : Array Value) (v3 : oT.data = .fields ts) (v4 : h'.get? T = some oT') (v5 : oT'.cls = oT.cls) (v6 : oT'.dict = oT.dict) (ts' : Array Value) (v7 : oT'.data = .fields ts')
structure Left (fr : List Addr) (s : Shared) (e L : Addr) (oe : Obj) (vs : Array Value) (h' : Heap) : Prop where
 ex : NewE s.heap h' e L oe (vs[0]?)
 sl : ∀ b o, b ≠ e -> s.heap.get? b = some o -> ∃ sl, h'.get? b = some { o with slots := sl }
 ks : ∀ b o, b ≠ e -> b ∉ fr -> s.heap.get? b = some o -> h'.get? b = some o
section
variable {M : Model} {A : Around} {E : Value -> Shared -> Prop} {s : Shared} {env : Env} {outer : List Env} {L e : Addr} {oe : Obj} {vs : Array Value}
theorem newEntryR {head : Value} {hadNext : Bool} {Q : Unit -> Shared -> Prop} (hfr : A.frames = some (env :: outer)) (hl : s.heap.FunFrames {} (env :: outer)) (hf : env.frame = some L)
 (he : s.heap.get? e = some oe) (hd : oe.data = .fields vs) (hsz : 1 < vs.size)
 (h : ∀ h', Left ((env :: outer).filterMap (·.frame)) s e L oe vs h' -> Q () { s with heap := h' }) :
 wpAny M A (do let a <- frameOf env; let pl <- entryPlaceOf L hadNext; let b <- EntryCells.newEntry head a .none (rawInt L) .none pl; setField (.ref e) 1 b)
  Q E s := by
 have ne : e ∉ (env :: outer).filterMap (·.frame) := fun hm => by
  obtain ⟨_, o, ho, hn⟩ := hl.mem hm
  rw [he] at ho; cases ho; exact hn vs hd
 refine wpAny_bind (wpAny_frameOf_fun hfr hl hf fun h₁ hs₁ => ?_)
 refine wpAny_bind (wpAny_entryPlaceOf fun pl hpl => ?_)
 unfold EntryCells.newEntry newFields
 refine wpAny_bind (wpAny_newObj_type ?_ (hpl.sizeOk5 _ _ _ _ _))
 generalize hto : ({ cls := Value.type "traceback", dict := none, data := Data.fields ([head, Value.ref L, Value.none, rawInt L, Value.none] ++ (if pl.isEmpty then List.replicate 6 Value.none else pl)).toArray } : Obj) = to
 have htd : ∃ t₀, to.data = .fields t₀ /\ 3 < t₀.size := ⟨_, by rw [<- hto], by simp only [List.size_toArray, List.length_append, List.length_cons, List.length_nil] <;> (first | lia | omega)⟩
 obtain ⟨t₀, ht0, ht3⟩ := htd
 have htc : to.cls = .type "traceback" := by rw [<- hto]
 have e1 : h₁.get? e = some oe := (hs₁.2.1 e ne).trans he
 have eT : h₁.objs.size ≠ e := Nat.ne_of_gt (Heap.lt_size e1)
 have e2 : (h₁.push to).get? e = some oe := Heap.get?_push_of_some _ e1
 have d3 := Obj.data_mapFields hd (·.setIfInBounds 1 (Value.ref h₁.objs.size))
 have e3 := Heap.get?_update_self (Obj.mapFields (·.setIfInBounds 1 (Value.ref h₁.objs.size))) e2 (Obj.isFreed_of_fields d3)
 have T2 : (h₁.push to).get? h₁.objs.size = some to := Heap.get?_push_size h₁ (Obj.isFreed_of_fields ht0)
 have T3 : ((h₁.push to).update e (Obj.mapFields (·.setIfInBounds 1 (Value.ref h₁.objs.size)))).get? h₁.objs.size = some to := (Heap.get?_update_other _ _ (Ne.symm eT)).trans T2
 refine wpAny_setField e2 hd hsz (h _ ?_)
 have keep : ∀ b o, b ≠ e -> h₁.get? b = some o -> (((h₁.push to).update e (Obj.mapFields (·.setIfInBounds 1 (Value.ref h₁.objs.size))))).get? b = some o := fun b o hbe hb => by
  rw [Heap.get?_update_other _ _ (Ne.symm hbe)]
  exact Heap.get?_push_of_some _ hb
 have t3 : t₀[3]? = some (rawInt L) := by
  have : to.data = .fields ([head, Value.ref L, Value.none, rawInt L, Value.none] ++ (if pl.isEmpty then List.replicate 6 Value.none else pl)).toArray := by rw [<- hto]
  rw [ht0] at this
  cases this
  simp
 refine ⟨⟨h₁.objs.size, _, _, _, _, Heap.get?_none_of_le (Nat.le_of_eq hs₁.1.symm), eT, T3, ht0, t3, e3, Obj.cls_mapFields _ _, dict_mapFields _ _, d3,
  by rw [Array.getElem?_setIfInBounds_ne (by decide)], by simp [hsz], htc⟩, fun b o hb ho => ?_, fun b o hb hn ho => keep b o hb ((hs₁.2.1 b hn).trans ho)⟩
 obtain ⟨sl, hsl⟩ := hs₁.2.2 b o ho
 exact ⟨sl, keep b _ hb hsl⟩
theorem noteR {Q : Unit -> Shared -> Prop} (hfr : A.frames = some (env :: outer)) (hl : s.heap.FunFrames {} (env :: outer)) (hf : env.frame = some L)
 (he : s.heap.get? e = some oe) (hd : oe.data = .fields vs)
 (ht : TbIs (fun _ => True) s.heap e (fun x => x = some .none) (vs[1]?))
 (h : ∀ h' (T0 : Option Addr), (∀ T, T0 = some T -> OldE s.heap h' (vs[1]?) T) -> NewE s.heap h' e L oe (vs[0]?) ->
  (∀ b o, b ≠ e -> some b ≠ T0 -> s.heap.get? b = some o -> ∃ sl, h'.get? b = some { o with slots := sl }) ->
  (∀ b o, b ≠ e -> some b ≠ T0 -> b ∉ (env :: outer).filterMap (·.frame) -> s.heap.get? b = some o -> h'.get? b = some o) -> Q () { s with heap := h' }) :
 wpAny M A (noteFrame (.ref e) env) Q E s := by
 unfold noteFrame
 simp only [hf]
 rcases ht with h1 | ⟨T, oT, ts, h1, hTe, _, hT, hdT, h3, _⟩
 . refine wpAny_bind (wpAny_field he hd h1 ?_)
   rw [if_neg (by decide)]
   refine newEntryR hfr hl hf he hd (Array.getElem?_eq_some_iff.mp h1).1 fun h' ⟨a, b, c⟩ => h h' none (fun _ q => nomatch q) a (fun x o hx _ ho => b x o hx ho) fun x o hx _ hn ho => c x o hx hn ho
 . refine wpAny_bind (wpAny_field he hd h1 ?_)
   rw [if_pos (show (Value.ref T != Value.none) = true from by simp)]
   refine wpAny_bind (wpAny_field hT hdT h3 ?_)
   rw [if_neg (show ¬ ((Value.none == rawInt L) = true) from by simp [rawInt])]
   refine wpAny_bind (wpAny_setField hT hdT (Array.getElem?_eq_some_iff.mp h3).1 ?_)
   have d' := Obj.data_mapFields hdT (·.setIfInBounds 3 Value.none)
   have T' := Heap.get?_update_self (Obj.mapFields (·.setIfInBounds 3 Value.none)) hT (Obj.isFreed_of_fields d')
   have other : ∀ b, b ≠ T -> (s.heap.update T (Obj.mapFields (·.setIfInBounds 3 Value.none))).get? b = s.heap.get? b := fun b hb => Heap.get?_update_other _ _ (Ne.symm hb)
   have nrec : ∀ b o, s.heap.get? b = some o -> (∀ vs, o.data ≠ .fields vs) -> b ≠ T := fun b o hb hn q => by
    rw [q, hT] at hb; cases hb; exact hn ts hdT
   have hl' : (s.heap.update T (Obj.mapFields (·.setIfInBounds 3 Value.none))).FunFrames {} (env :: outer) := hl.of_keeps fun b o hb hn => ⟨o, (other b (nrec b o hb hn)).trans hb, rfl⟩
   refine newEntryR (s := { s with heap := s.heap.update T (Obj.mapFields (·.setIfInBounds 3 Value.none)) }) hfr hl' hf ((other e (Ne.symm hTe)).trans he) hd (Array.getElem?_eq_some_iff.mp h1).1 fun h' ⟨a, b, c⟩ => h h' (some T) (fun T2 q => ?_) ?_ (fun x o hx hxT ho => ?_) fun x o hx hxT hn ho => ?_
   . cases q
     obtain ⟨sl, q⟩ := b T _ hTe T'
     exact ⟨h1, oT, _, hT, ts, hdT, q, Obj.cls_mapFields _ _, dict_mapFields _ _, _, d'⟩
   . obtain ⟨T2, oe', vs', oT2, ts2, a1, u2, u3, u4, u5, u6, u7, u8, u9, u10, u11, u12⟩ := a
     refine ⟨T2, oe', vs', oT2, ts2, ?_, u2, u3, u4, u5, u6, u7, u8, u9, u10, u11, u12⟩
     have : T2 ≠ T := by intro q; subst q; rw [show ({ s with heap := s.heap.update T2 (Obj.mapFields (·.setIfInBounds 3 Value.none)) } : Shared).heap = s.heap.update T2 (Obj.mapFields (·.setIfInBounds 3 Value.none)) from rfl, T'] at a1; cases a1
     rw [<- other T2 this]; exact a1
   . exact b x o hx ((other x fun q => hxT (by rw [q])).trans ho)
   . exact c x o hx hn ((other x fun q => hxT (by rw [q])).trans ho)
end
theorem get_empty (a : Addr) : ({} : Heap).get? a = none := by simp [Heap.get?]
theorem FrOk.fun {h : Heap} : ∀ {fs : List Env}, FrOk fs h -> h.FunFrames {} fs
 | [], _ => trivial
 | env :: fs, x => by
  obtain ⟨hk, L, o, hf, ho, hc, es, n, hd⟩ := x env (.head _)
  exact ⟨hk, ⟨L, o, hf, get_empty _, ho, fun vs q => by rw [hd] at q; cases q⟩, FrOk.fun fun e he => x e (.tail _ he)⟩
theorem Step.absorb {P : Params} {F : Addr -> Prop} {st st₁ st₂ : St} {s s₁ s₂ : Shared} (x : Step P noF st s st₁ s₁) (y : Step P F st₁ s₁ st₂ s₂) (hF : ∀ a, F a -> s.heap.get? a = none) : Step P noF st s st₂ s₂ where
 holds := y.holds
 sub := (x.weak.trans y).sub
 ext b o _ hb ho := (x.weak.trans y).ext b o (fun q => by rw [hF b q] at ho; cases ho) hb ho
 own b o q := q.elim
 mono b h := y.mono b (x.mono b h)
 gens := y.gens.trans x.gens
 os := y.os.trans x.os
theorem Step.wider {P : Params} {F G : Addr -> Prop} {st st₁ : St} {s s₁ : Shared} (x : Step P F st s st₁ s₁) (h : ∀ b, F b -> G b) : Step P G st s st₁ s₁ := ⟨x.holds, x.sub, fun b o hb => x.ext b o fun q => hb (h b q), fun b o _ hst ho => by
 by_cases q : F b
 . exact x.own b o q hst ho
 . obtain ⟨o', h1, k⟩ := x.ext b o q hst ho
   exact ⟨o', h1, k.oo⟩, x.mono, x.gens, x.os⟩
theorem Step.absorbT {P : Params} {F G : Addr -> Prop} {st st₁ st₂ : St} {s s₁ s₂ : Shared} (x : Step P F st s st₁ s₁) (y : Step P G st₁ s₁ st₂ s₂) (hF : ∀ a, G a -> s.heap.get? a = none \/ F a \/ s.heap.get? a = none) : Step P F st s st₂ s₂ where
 holds := y.holds
 sub a h := by
  rcases y.sub a h with h | h
  . exact x.sub a h
  . right
    cases q : s.heap.get? a with
    | none => rfl
    | some o => have := x.mono a (by rw [q]; rfl); rw [h] at this; cases this
 ext b o hf hb ho := by
  obtain ⟨o₁, h1, k1⟩ := x.ext b o hf hb ho
  obtain ⟨o₂, h2, k2⟩ := y.ext b o₁ (fun g => (hF b g).elim (fun q => by rw [q] at ho; cases ho) fun z => z.elim hf fun q => by rw [q] at ho; cases ho) (x.still hb ho) h1
  exact ⟨o₂, h2, k1.trans k2⟩
 own b o hf hb ho := by
  obtain ⟨o₁, h1, k1⟩ := x.own b o hf hb ho
  by_cases g : G b
  . obtain ⟨o₂, h2, k2⟩ := y.own b o₁ g (x.still hb ho) h1
    exact ⟨o₂, h2, k1.trans k2⟩
  . obtain ⟨o₂, h2, k2⟩ := y.ext b o₁ g (x.still hb ho) h1
    exact ⟨o₂, h2, k1.trans k2.oo⟩
 mono b h := y.mono b (x.mono b h)
 gens := y.gens.trans x.gens
 os := y.os.trans x.os
inductive NewRec (h0 h : Heap) (b : Addr) : Prop
 | mk (n : h0.get? b = none) (ob : Obj) (vs : Array Value) (e : h.get? b = some ob) (d : ob.data = .fields vs) (c : ob.cls ≠ .type "range")
theorem NewRec.dok {P : Params} {st : St} {h0 h : Heap} (H : Holds P st h) : DOk (fun b => st b ≠ none \/ NewRec h0 h b) h where
 tup a ws n x q := by
  rcases q with q | ⟨_, ob, vs, h1, h2, _⟩
  . exact q (tup_not_st H x)
  . have e := Option.some.inj (h1.symm.trans x)
    subst e; cases h2
 rng a ob vs x hc hd q := by
  rcases q with q | ⟨_, ob', vs', h1, h2, h3⟩
  . exact q (rec_not_st H x hc hd)
  . rw [x] at h1; cases h1; exact h3 hc
 obj a ob x hd hC q := by
  rcases q with q | ⟨_, ob', vs', h1, h2, _⟩
  . exact q (inst_not_st H x hd)
  . rw [x] at h1; cases h1; rw [hd] at h2; cases h2
section
variable {o : Wo} [W : WoOk o]
theorem flight_R {A : Around} {E : Value -> Shared -> Prop} {st₂ : St} {s₂ : Shared} {h0 : Heap} {y : Exc} {e : Addr} {fl : Option Addr} (f : Option Addr) (H2 : Holds o.P st₂ s₂.heap) (fly : Flying o.P fl st₂ h0 s₂.heap y e) {Q : Unit -> Shared -> Prop}
 (hq : ∀ h', Flying o.P f st₂ h0 h' y e -> Step o.P (NewRec h0 s₂.heap) st₂ s₂ st₂ { s₂ with heap := h' } -> Q () { s₂ with heap := h' }) : wpAny o.M A (setFlight (.ref e) f) Q E s₂ := by
 obtain ⟨dx, oe, vs, a0, es, n, b1, b2, b3, b4, b5, b6, b7, enew, dnew, ⟨b10, b10e⟩, b11⟩ := fly
 unfold setFlight
 rcases b11 with q | ⟨T, oT, ts, c1, c2, c3, c4, c5, c6, c7⟩
 . refine wpAny_bind (wpAny_field b1 b4 q ?_)
   rw [if_neg (by decide)]
   exact wpAny_pure (hq s₂.heap ⟨dx, oe, vs, a0, es, n, b1, b2, b3, b4, b5, b6, b7, enew, dnew, ⟨b10, b10e⟩, .no q⟩ (Step.refl H2))
 . have c6b : 3 < ts.size := by rcases c6 with c6 | ⟨_, _, c6⟩ <;> exact (Array.getElem?_eq_some_iff.mp c6).1
   refine wpAny_bind (wpAny_field b1 b4 c1 ?_)
   rw [if_pos (show (Value.ref T != Value.none) = true from by simp)]
   refine wpAny_setField c4 c5 c6b ?_
   have d' := Obj.data_mapFields c5 (·.setIfInBounds 3 (f.elim Value.none fun f => rawInt f))
   have T' := Heap.get?_update_self (Obj.mapFields (·.setIfInBounds 3 (f.elim Value.none fun f => rawInt f))) c4 (Obj.isFreed_of_fields d')
   have other : ∀ b, b ≠ T -> (s₂.heap.update T (Obj.mapFields (·.setIfInBounds 3 (f.elim Value.none fun f => rawInt f)))).get? b = s₂.heap.get? b := fun b hb => Heap.get?_update_other _ _ (Ne.symm hb)
   have nrec : ∀ b ob, s₂.heap.get? b = some ob -> (∀ vs, ob.data ≠ .fields vs) -> b ≠ T := fun b ob hb hn q => by
    rw [q, c4] at hb; cases hb; exact hn ts c5
   have TN : NewRec h0 s₂.heap T := ⟨c3, oT, ts, c4, c5, by rw [c7]; simp⟩
   have stT : st₂ T = none := rec_not_st H2 c4 c7 c5
   have K2 : KpD (fun b => st₂ b ≠ none \/ NewRec h0 s₂.heap b) s₂.heap (s₂.heap.update T (Obj.mapFields (·.setIfInBounds 3 (f.elim Value.none fun f => rawInt f)))) := fun b ob hb hob => ⟨ob, (other b fun q => hb (.inr (q ▸ TN))).trans hob, .refl ob⟩
   have KV := KpV.of (NewRec.dok H2) K2
   refine hq _ ⟨dx, oe, vs, a0, es, n, (other e (Ne.symm c2)).trans b1, b2, b3, b4, b5, (other dx (nrec dx _ b6 (by simp))).trans b6, b7.keepV KV, enew, dnew, ⟨b10, b10e⟩, .tb T _ _ c1 c2 c3 T' d' (by cases f with | none => exact .no (by simp [c6b]) | some L => exact .at L rfl (by simp [c6b])) ((Obj.cls_mapFields _ _).trans c7)⟩ ?_
   refine ⟨fun a m q => ?_, fun a q => .inl q, fun b ob hb hst hob => K2 b ob (fun q => q.elim (fun z => z hst) hb) hob, fun b ob hb hst hob => ?_, fun b hb => ?_, rfl, rfl⟩
   . obtain ⟨ob, h1, h2⟩ := H2 a m q
     exact ⟨ob, (other a fun z => by rw [z, stT] at q; cases q).trans h1, h2.keepV KV⟩
   . by_cases z : b = T
     . subst z
       rw [c4] at hob; cases hob
       exact ⟨_, T', Obj.cls_mapFields _ _, fun ⟨_, _, q⟩ => by (rw [c5] at q; cases q), fun ⟨_, q⟩ => by (rw [c5] at q; cases q)⟩
     . exact ⟨ob, (other b z).trans hob, .refl ob⟩
   . by_cases z : b = T
     . subst z; show (Heap.get? _ b).isSome = true; rw [T']; rfl
     . show (Heap.get? _ b).isSome = true; rw [other b z]; exact hb
theorem OldE.fst {h h' : Heap} {v : Option Value} {T : Addr} (x : OldE h h' v T) : v = some (.ref T) := by cases x; assumption
theorem tb_at {fl : Option Addr} {N : Addr -> Prop} {h : Heap} {e L : Addr} {v : Option Value} (hfl : ∀ L', fl = some L' -> L' = L) (b : TbIs N h e (FlW fl) v) :
 (∃ T oT ts, v = some (.ref T) /\ T ≠ e /\ N T /\ h.get? T = some oT /\ oT.data = .fields ts /\ ts[3]? = some (rawInt L) /\ oT.cls = .type "traceback") \/ TbIs N h e (fun x => x = some .none) v := by
 cases b with
 | no q => exact .inr (.no q)
 | tb T oT ts c1 c2 c3 c4 c5 c6 c7 =>
  cases c6 with
  | no q => exact .inr (.tb T oT ts c1 c2 c3 c4 c5 q c7)
  | «at» L' d q => exact .inl ⟨T, oT, ts, c1, c2, c3, c4, c5, hfl L' d ▸ q, c7⟩
theorem note_core0 {fl : Option Addr} {A : Around} {E : Value -> Shared -> Prop} {fs' : List Env} {env : Env} {st₂ : St} {s₂ : Shared} {h0 : Heap} {y : Exc} {e L : Addr}
 (hfr : A.frames = some (env :: fs')) (hf : env.frame = some L) (hFr2 : FrOk (env :: fs') s₂.heap) (H2 : Holds o.P st₂ s₂.heap) (hm : ∀ b, (h0.get? b).isSome = true -> (s₂.heap.get? b).isSome = true) (fly : Flying o.P fl st₂ h0 s₂.heap y e) (hfl : ∀ L', fl = some L' -> L' = L) {Q : Unit -> Shared -> Prop}
 (hq : ∀ h', Flying o.P (some L) st₂ h0 h' y e -> (∃ ob vs T, h'.get? e = some ob /\ ob.data = .fields vs /\ vs[1]? = some (.ref T)) -> Step o.P (NewRec h0 s₂.heap) st₂ s₂ st₂ { s₂ with heap := h' } -> Q () { s₂ with heap := h' }) :
 wpAny o.M A (noteFrame (.ref e) env) Q E s₂ := by
 obtain ⟨dx, oe, vs, a0, es, n, b1, b2, b3, b4, b5, b6, b7, enew, dnew, ⟨b10, b10e⟩, b11⟩ := fly
 rcases tb_at hfl b11 with ⟨T, oT, ts, c1, c2, c3, c4, c5, c6, c7⟩ | b11
 . unfold noteFrame
   simp only [hf]
   refine wpAny_bind (wpAny_field b1 b4 c1 ?_)
   rw [if_pos (show (Value.ref T != Value.none) = true from by simp)]
   refine wpAny_bind (wpAny_field c4 c5 c6 ?_)
   rw [if_pos (show (rawInt L == rawInt L) = true from by simp)]
   exact wpAny_pure (hq s₂.heap ⟨dx, oe, vs, a0, es, n, b1, b2, b3, b4, b5, b6, b7, enew, dnew, ⟨b10, b10e⟩, .tb T oT ts c1 c2 c3 c4 c5 (.at L rfl c6) c7⟩ ⟨oe, vs, T, b1, b4, c1⟩ (Step.refl H2))
 refine noteR hfr hFr2.fun hf b1 b4 (b11.imp (fun _ _ => trivial) (fun _ _ _ q _ _ => q) fun _ => id) fun h' T0 t1 t2 t3 t4 => ?_
 obtain ⟨T, oe', vs', oT, ts, u1, u2, u3, u4, u5, u6, u7, u8, u9, u10, u11, u12⟩ := t2
 have none0 : ∀ {a : Addr}, s₂.heap.get? a = none -> h0.get? a = none := fun {a} q => by
  cases qq : h0.get? a with
  | none => rfl
  | some ob => have := hm a (by rw [qq]; rfl); rw [q] at this; cases this
 have T0new : ∀ T', T0 = some T' -> NewRec h0 s₂.heap T' /\ st₂ T' = none := fun T' q => by
  have v1 := (t1 T' q).fst
  rcases b11 with w | ⟨T2, oT9, ts9, w1, w2, w3, w4, w5, _, w7⟩
  . rw [w] at v1; cases v1
  . rw [w1] at v1; cases v1
    exact ⟨⟨w3, oT9, ts9, w4, w5, by rw [w7]; simp⟩, rec_not_st H2 w4 w7 w5⟩
 have eNew : NewRec h0 s₂.heap e := ⟨enew, oe, vs, b1, b4, by rw [b2]; intro q; cases q⟩
 have noT : ∀ (a : Addr) (ob : Obj), s₂.heap.get? a = some ob -> (∀ vs, ob.data ≠ .fields vs) -> some a ≠ T0 := fun a ob h1 h2 q => by
  obtain ⟨_, oT', _, v2, ts', v3, _⟩ := t1 a q.symm
  rw [h1] at v2; cases v2; exact h2 _ v3
 have frm : ∀ b, b ∈ (env :: fs').filterMap (·.frame) -> ∀ ob, s₂.heap.get? b = some ob -> ob.cls = .type "frame" /\ ∃ es n, ob.data = .dict es n := fun b hb ob hob => by
  obtain ⟨en, he, hfb⟩ := List.mem_filterMap.mp hb
  obtain ⟨_, L', o', h1, h2, h3, h4⟩ := hFr2 en he
  rw [hfb] at h1; cases h1
  rw [hob] at h2; cases h2
  exact ⟨h3, h4⟩
 have ndx : dx ≠ e := by intro z; subst z; rw [b1] at b6; cases b6; cases b4
 have K2 : KpD (fun b => st₂ b ≠ none \/ NewRec h0 s₂.heap b) s₂.heap h' := fun b ob hb hob => by
  have ne : b ≠ e := fun z => hb (.inr (z ▸ eNew))
  have nT : some b ≠ T0 := fun z => hb (.inr (T0new b z.symm).1)
  by_cases hm : b ∈ (env :: fs').filterMap (·.frame)
  . obtain ⟨sl, h1⟩ := t3 b ob ne nT hob
    exact ⟨_, h1, .inr ⟨frm b hm _ hob, rfl, rfl⟩⟩
  . exact ⟨ob, t4 b ob ne nT hm hob, .refl ob⟩
 have KV : KpV s₂.heap h' := KpV.of (NewRec.dok H2) K2
 have F2 : Step o.P (NewRec h0 s₂.heap) st₂ s₂ st₂ { s₂ with heap := h' } := by
  refine ⟨fun a m q => ?_, fun a q => .inl q, fun b ob hb hst hob => ?_, fun b ob hb hst hob => ?_, fun b hb => ?_, rfl, rfl⟩
  . obtain ⟨ob, h1, h2⟩ := H2 a m q
    have ne : a ≠ e := by intro z; subst z; rw [b10e] at q; cases q
    have nT : some a ≠ T0 := by intro z; have := (T0new a z.symm).2; rw [this] at q; cases q
    have nf : a ∉ (env :: fs').filterMap (·.frame) := fun hm => by
     obtain ⟨h3, _⟩ := frm a hm _ h1
     rcases h2.shape with ⟨q, _⟩ | ⟨q, _⟩ | ⟨C, vs, q, _⟩ <;> (rw [q] at h3; simp at h3)
    exact ⟨ob, t4 a ob ne nT nf h1, h2.keepV KV⟩
  . exact K2 b ob (fun q => q.elim (fun z => z hst) hb) hob
  . by_cases ne : b = e
    . subst ne
      rw [b1] at hob; cases hob
      exact ⟨oe', u6, u7, fun ⟨_, _, q⟩ => by (rw [b4] at q; cases q), fun ⟨_, q⟩ => by (rw [b4] at q; cases q)⟩
    . by_cases nT : some b = T0
      . obtain ⟨_, oT', oT2, v2, ts', v3, v4, v5, v6, ts2, v7⟩ := t1 b nT.symm
        rw [hob] at v2; cases v2
        exact ⟨oT2, v4, v5, fun ⟨_, _, q⟩ => by (rw [v3] at q; cases q), fun ⟨_, q⟩ => by (rw [v3] at q; cases q)⟩
      . obtain ⟨sl, h1⟩ := t3 b ob ne nT hob
        exact ⟨_, h1, rfl, id, id⟩
  . obtain ⟨ob, hob⟩ := Option.isSome_iff_exists.mp hb
    by_cases ne : b = e
    . subst ne; show (h'.get? b).isSome = true; rw [u6]; rfl
    . by_cases nT : some b = T0
      . obtain ⟨_, oT', oT2, v2, ts', v3, v4, _⟩ := t1 b nT.symm
        show (h'.get? b).isSome = true; rw [v4]; rfl
      . obtain ⟨sl, h1⟩ := t3 b ob ne nT hob
        show (h'.get? b).isSome = true; rw [h1]; rfl
 refine hq h' ⟨dx, oe', vs', a0, es, n, u6, u7.trans b2, u8.trans b3, u9, u10.trans b5, ?_, b7.keepV KV, enew, dnew, ⟨b10, b10e⟩, .tb T oT ts u11 u2 (none0 u1) u3 u4 (.at L rfl u5) u12⟩ ⟨oe', vs', T, u6, u9, u11⟩ F2
 exact t4 dx _ ndx (noT dx _ b6 (by simp)) (fun hm => by obtain ⟨h1, _⟩ := frm dx hm _ b6; simp at h1) b6
theorem note_core {fl : Option Addr} {A : Around} {E : Value -> Shared -> Prop} {fs' : List Env} {env : Env} {st₂ : St} {s₂ : Shared} {h0 : Heap} {y : Exc} {e L : Addr}
 (hfr : A.frames = some (env :: fs')) (hf : env.frame = some L) (hFr2 : FrOk (env :: fs') s₂.heap) (H2 : Holds o.P st₂ s₂.heap) (hm : ∀ b, (h0.get? b).isSome = true -> (s₂.heap.get? b).isSome = true) (fly : Flying o.P fl st₂ h0 s₂.heap y e) (hfl : ∀ L', fl = some L' -> L' = L) {Q : Unit -> Shared -> Prop}
 (hq : ∀ h', Flying o.P none st₂ h0 h' y e -> Step o.P (NewRec h0 s₂.heap) st₂ s₂ st₂ { s₂ with heap := h' } -> Q () { s₂ with heap := h' }) :
 wpAny o.M A (noteFrame (.ref e) env) (fun _ s' => wpAny o.M A (setFlight (.ref e) none) Q E s') E s₂ := by
 refine note_core0 hfr hf hFr2 H2 hm fly hfl fun h' fly' _ S => ?_
 refine flight_R none S.holds fly' fun h'' fly'' S' => ?_
 refine hq h'' fly'' (S.absorbT S' fun a ha => ?_)
 cases q : s₂.heap.get? a with
 | none => exact .inl rfl
 | some ob =>
  refine .inr (.inl ?_)
  obtain ⟨h1, ob', vs, h2, h3, h4⟩ := ha
  cases z : st₂ a with
  | none =>
   by_cases hF : NewRec h0 s₂.heap a
   . exact hF
   . obtain ⟨o', e1, k⟩ := S.ext a ob hF z q
     have e1 : h'.get? a = some o' := e1
     rw [e1] at h2; cases h2
     rcases k with k | ⟨⟨_, es, n, k⟩, _, k2⟩
     . rw [k] at h3 h4; exact ⟨h1, ob, vs, q, h3, h4⟩
     . rw [k2, k] at h3; cases h3
  | some m =>
   obtain ⟨o2, e2, m2⟩ := H2 a m z
   rw [q] at e2; cases e2
   obtain ⟨o3, e3, m3⟩ := S.holds a m z
   have e3 : h'.get? a = some o3 := e3
   rw [e3] at h2; cases h2
   rcases m3.shape with ⟨_, _, _, q⟩ | ⟨_, _, _, q⟩ | ⟨C, vs', q, _⟩
   . rw [q] at h3; cases h3
   . rw [q] at h3; cases h3
   . cases m3 with
     | lst r => cases q
     | sd r => cases q
     | nd r => cases q
     | exo a1 a2 a3 a4 a5 =>
      cases m2 with
      | exo b1 b2 b3 b4 b5 => exact ⟨h1, ob, _, by assumption, b3, by rw [b1]; intro q; cases q⟩
theorem Flying.forget {fl : Option Addr} {P : Params} {st st' : St} {h0 h : Heap} {x : Exc} {e : Addr} (f : Flying P fl st h0 h x e) (hle : St.le st' st) : Flying P fl st' h0 h x e := by
 obtain ⟨dx, oe, vs, a0, es, n, b1, b2, b3, b4, b5, b6, b7, enew, dnew, ⟨b10, b10e⟩, b11⟩ := f
 have st₃n : ∀ a, st a = none -> st' a = none := fun a q => (hle a).elim id fun h => h.trans q
 exact ⟨dx, oe, vs, a0, es, n, b1, b2, b3, b4, b5, b6, b7, enew, dnew, ⟨st₃n _ b10, st₃n _ b10e⟩, b11⟩
theorem Flying.older {fl : Option Addr} {P : Params} {st : St} {h0 h0' h : Heap} {x : Exc} {e : Addr} (f : Flying P fl st h0 h x e) (hn : ∀ a, h0.get? a = none -> h0'.get? a = none) : Flying P fl st h0' h x e := by
 obtain ⟨dx, oe, vs, a0, es, n, b1, b2, b3, b4, b5, b6, b7, enew, dnew, b10, b11⟩ := f
 exact ⟨dx, oe, vs, a0, es, n, b1, b2, b3, b4, b5, b6, b7, hn _ enew, hn _ dnew, b10, b11.imp hn (fun _ _ _ q _ _ => q) fun _ => id⟩
theorem leave_R {k : Kx} {env : Env} {loc : LocF} {st st₁ : St} {s s₁ s₂ : Shared} {X : Exc -> St -> Prop} {ev : Value} {L : Addr}
 (hfr : k.A.frames = some (env :: k.fs)) (hf : env.frame = some L) (hL : env.locals = L) (hFr : FrOk (env :: k.fs) s₁.heap) (x : Step o.P noF st s st₁ s₁) (hH : Holds o.P st₁ s₁.heap)
 (c : Cx) (hc : c.env = env) (hown : ∀ a, own c a -> s.heap.get? a = none)
 {fl : Option Addr} (hfl : ∀ L', fl = some L' -> L' = L) (p : PXg o (own c) (fun _ => True) fl st₁ s₁ (fun x st' => UpP X x st') ev s₂) :
 wpAny o.M k.A (leaving env ev) (fun _ s₃ => PX o noF st s X ev s₃) (fun e' s₃ => PX o noF st s X e' s₃) s₂ := by
 obtain ⟨y, st₂, e, rfl, fly, S, -, st₃, hle, hX⟩ := p
 have hFr2 : FrOk (env :: k.fs) s₂.heap := FrOk.stepF hH S hFr
 have fly0 := fly.older (h0' := s.heap) fun a q => none_of_mono x q
 unfold leaving
 refine wpAny_bind (note_core hfr hf hFr2 S.holds (fun b hb => S.mono b (x.mono b hb)) fly0 hfl fun h' fl' F2 => ?_)
 have S2 : Step o.P noF st s st₂ s₂ := x.absorb S hown
 have S3 : Step o.P noF st s st₂ { s₂ with heap := h' } := S2.absorb F2 fun a ha => ha.1
 exact ⟨y, st₃, e, rfl, fl'.forget hle, S3.forget hle, trivial, hX⟩
end
theorem filterMap_zip {α : Type} : ∀ {ns : List Str} {vs : List α} (pre : List (Str × α)), ns.Nodup -> ns.length = vs.length -> (∀ n ∈ ns, pre.lookup n = none) -> ns.filterMap (fun n => ((pre ++ ns.zip vs).lookup n).map fun v => (n, v)) = ns.zip vs
 | [], [], _, _, _, _ => rfl
 | n :: ns, v :: vs, pre, nd, hl, hp => by
  have nd' := List.nodup_cons.mp nd
  have e1 : (pre ++ (n :: ns).zip (v :: vs)).lookup n = some v := by
   rw [List.lookup_append, hp n (by simp), List.zip_cons_cons, List.lookup_cons]; simp
  rw [List.filterMap_cons, e1]
  have ih := filterMap_zip (vs := vs) (pre ++ [(n, v)]) nd'.2 (by simpa using hl) fun m hm => by
   rw [List.lookup_append, hp m (by simp [hm])]
   have : (m == n) = false := beq_eq_false_iff_ne.mpr fun q => nd'.1 (q ▸ hm)
   simp [List.lookup_cons, this]
  rw [List.append_assoc] at ih
  show (n, v) :: _ = _
  rw [List.zip_cons_cons]
  exact congrArg _ ih
noncomputable def plainPar (p : Arguments) (ns : List Str) : Bool := p.posonlyargs.isEmpty && p.vararg.isNone && p.kwonlyargs.isEmpty && p.kwarg.isNone && p.args.map (·.arg) == ns
theorem plainPar_parts : ∀ {p : Arguments} {ns : List Str}, plainPar p ns = true -> ∃ pa kd pd, p = ⟨[], pa, none, [], kd, none, pd⟩ /\ pa.map (·.arg) = ns
 | ⟨[], pa, none, [], kd, none, pd⟩, _, h => ⟨pa, kd, pd, rfl, eq_of_beq h⟩
theorem slots_for (dnames : List Str) : ∀ (ds : List Value) (slots : List (Str × Value)), (∀ n ∈ dnames, slots.lookup n = none) -> dnames.Nodup ->
 (forIn (m := Sem) (dnames.zip ds) slots fun (x : Str × Value) r => if (List.lookup x.1 r).isNone = true then pure (ForInStep.yield (r ++ [(x.1, x.2)])) else pure (ForInStep.yield r)) = pure (slots ++ dnames.zip ds) := by
 induction dnames with
 | nil => intro ds slots _ _; simp
 | cons n ns ih =>
  intro ds slots h nd
  cases ds with
  | nil => simp
  | cons d ds =>
   have nd' := List.nodup_cons.mp nd
   rw [List.zip_cons_cons, List.forIn_cons]
   have : (List.lookup n slots).isNone = true := by rw [h n (by simp)]; rfl
   simp only [this, if_true, pure_bind]
   rw [ih ds (slots ++ [(n, d)]) (fun m hm => by
    rw [List.lookup_append, h m (by simp [hm])]
    have : (m == n) = false := beq_eq_false_iff_ne.mpr fun q => nd'.1 (q ▸ hm)
    simp [List.lookup_cons, this]) nd'.2]
   simp
theorem slots_mix : ∀ (j : Nat) (dnames : List Str) (ds : List Value) (slots : List (Str × Value)), (∀ n ∈ dnames.take j, (slots.lookup n).isSome = true) -> (∀ n ∈ dnames.drop j, slots.lookup n = none) -> dnames.Nodup ->
 (forIn (m := Sem) (dnames.zip ds) slots fun (x : Str × Value) r => if (List.lookup x.1 r).isNone = true then pure (ForInStep.yield (r ++ [(x.1, x.2)])) else pure (ForInStep.yield r)) = pure (slots ++ (dnames.drop j).zip (ds.drop j))
 | 0, dnames, ds, slots, _, h, nd => slots_for dnames ds slots (by simpa using h) nd
 | j + 1, [], ds, slots, _, _, _ => by simp
 | j + 1, n :: ns, [], slots, _, _, _ => by simp
 | j + 1, n :: ns, d :: ds, slots, h1, h2, nd => by
  rw [List.zip_cons_cons, List.forIn_cons]
  have : (List.lookup n slots).isNone = false := by
   have := h1 n (by simp)
   rw [Option.isNone_eq_false_iff]; exact this
  simp only [this, Bool.false_eq_true, if_false, pure_bind]
  exact slots_mix j ns ds slots (fun m hm => h1 m (by simp [hm])) (by simpa using h2) (List.nodup_cons.mp nd).2
theorem lookup_zip_take {α : Type} : ∀ {ns : List Str} {vs : List α} {x : Str}, x ∈ ns.take vs.length -> ((ns.zip vs).lookup x).isSome = true
 | [], vs, x, h => by simp at h
 | n :: ns, [], x, h => by simp at h
 | n :: ns, v :: vs, x, h => by
  rw [List.zip_cons_cons, List.lookup_cons]
  cases hb : x == n with
  | true => rfl
  | false =>
   rw [List.length_cons, List.take_succ_cons] at h
   rcases List.mem_cons.mp h with q | q
   . subst q; simp at hb
   . exact lookup_zip_take q
theorem lookup_zip_drop {α : Type} : ∀ {ns : List Str} {vs : List α} {x : Str}, ns.Nodup -> x ∈ ns.drop vs.length -> (ns.zip vs).lookup x = none
 | [], vs, x, _, h => by simp at h
 | n :: ns, [], x, _, h => by simp
 | n :: ns, v :: vs, x, nd, h => by
  have nd' := List.nodup_cons.mp nd
  rw [List.length_cons, List.drop_succ_cons] at h
  rw [List.zip_cons_cons, List.lookup_cons]
  have : (x == n) = false := beq_eq_false_iff_ne.mpr fun q => nd'.1 (q ▸ List.mem_of_mem_drop h)
  rw [this]
  exact lookup_zip_drop nd'.2 h
theorem zip_split {α : Type} : ∀ {ns : List Str} {vs ws : List α}, ns.zip vs ++ (ns.drop vs.length).zip ws = ns.zip (vs ++ ws)
 | [], _, _ => by simp
 | n :: ns, [], _ => by simp
 | n :: ns, v :: vs, ws => by simp [zip_split (ns := ns) (vs := vs) (ws := ws)]
theorem seq_items {M : Model} {A : Around} {E : Value -> Shared -> Prop} {s : Shared} {dv : Value} {ds : List Value} (hd : (dv = .none /\ ds = []) \/ ∃ T ob n, dv = .ref T /\ s.heap.get? T = some ob /\ ob.data = .seq ds.toArray n) {Q : Option (Array Value) -> Shared -> Prop} (h : ∀ r, (r.getD #[]).toList = ds -> Q r s) :
 wpAny M A (seqItems? dv) Q E s := by
 rcases hd with ⟨e, rfl⟩ | ⟨T, ob, n, e, ho, hdat⟩
 . rw [e]; exact wpAny_pure (h _ rfl)
 . rw [e]; exact wpAny_seqItems ho hdat (h _ rfl)
theorem wp_iff {α : Type} {M : Model} {A : Around} {b : Bool} {t e : Sem α} {Q : α -> Shared -> Prop} {E : Value -> Shared -> Prop} {s : Shared} (h : b = false) (p : wpAny M A e Q E s) : wpAny M A (if b = true then t else e) Q E s := by
 subst h; exact p
noncomputable def BRest (M : Model) (A : Around) (E : Value -> Shared -> Prop) (Q : List (Str × Value) -> Shared -> Prop) (s : Shared) (ns : List Str) (vs ds : List Value) : Prop :=
 (List.filter (fun n => (List.lookup n (ns.zip vs)).isNone) (List.take (ns.length - ds.length) ns)).isEmpty = true /\
 wpAny M A (forIn ((List.drop (ns.length - ds.length) ns).zip ds) (ns.zip vs) fun (x : Str × Value) r => if (List.lookup x.1 r).isNone = true then pure (ForInStep.yield (r ++ [(x.1, x.2)])) else pure (ForInStep.yield r))
  (fun r s => Q (List.filterMap (fun n => Option.map (fun x => (n, x)) (List.lookup n r)) (ns ++ [])) s) E s
theorem brest {M : Model} {A : Around} {E : Value -> Shared -> Prop} {Q : List (Str × Value) -> Shared -> Prop} {s : Shared} {ns : List Str} {vs ds : List Value} (nd : ns.Nodup)
 (h1 : vs.length <= ns.length) (h2 : ns.length <= vs.length + ds.length) (h3 : ds.length <= ns.length) (hq : Q (ns.zip (vs ++ ds.drop (vs.length + ds.length - ns.length))) s) : BRest M A E Q s ns vs ds := by
 have lv : ns.length - ds.length <= vs.length := Nat.sub_le_iff_le_add.mpr h2
 have w : ns.length - ds.length + (vs.length - (ns.length - ds.length)) = vs.length := Nat.add_sub_cancel' lv
 have w2 : vs.length - (ns.length - ds.length) = vs.length + ds.length - ns.length := Nat.sub_sub_right _ h3
 have w3 : ns.length = (vs ++ ds.drop (vs.length + ds.length - ns.length)).length := by
  rw [List.length_append, List.length_drop, <- Nat.add_sub_assoc (Nat.sub_le_iff_le_add.mpr (Nat.add_comm vs.length ds.length ▸ Nat.add_le_add_left h1 _)), Nat.sub_sub_self h2]
 refine ⟨List.isEmpty_iff.mpr (List.filter_eq_nil_iff.mpr fun a ha q => ?_), ?_⟩
 . have := lookup_zip_take (vs := vs) (List.mem_of_mem_take (i := ns.length - ds.length) (by rw [List.take_take, Nat.min_eq_left lv]; exact ha))
   rw [Option.isNone_iff_eq_none.mp q] at this; cases this
 . have fm := filterMap_zip [] nd w3 (fun _ _ => rfl)
   have z := zip_split (ns := ns) (vs := vs) (ws := ds.drop (vs.length + ds.length - ns.length))
   refine slots_mix (vs.length - (ns.length - ds.length)) _ _ _ (fun n hn => lookup_zip_take ?_) (fun n hn => lookup_zip_drop nd ?_) (nd.sublist (List.drop_sublist _ _)) ▸ wpAny_pure ?_
   . rw [List.take_drop, w] at hn
     exact List.mem_of_mem_drop hn
   . rwa [List.drop_drop, w] at hn
   . rw [List.append_nil, List.drop_drop, w, w2, z]
     exact fm.symm ▸ hq
theorem bindsTo0 {M : Model} {A : Around} {E : Value -> Shared -> Prop} {Q : List (Str × Value) -> Shared -> Prop} {s : Shared} {fd : FuncData} {pa : List Arg} {kd : List (Option Expr)} {pd : List Expr} {vs : List Value}
 (h1 : vs.length <= (pa.map (·.arg)).length)
 (hd : wpAny M A (seqItems? fd.defaults) (fun r s' => BRest M A E Q s' (pa.map (·.arg)) vs ((r.getD #[]).toList.drop ((r.getD #[]).toList.length - (pa.map (·.arg)).length))) E s) :
 wpAny M A (bindArgs { fd with params := ⟨[], pa, none, [], kd, none, pd⟩ } ⟨vs, []⟩) Q E s := by
 refine wpAny_bind (wpAny_pure ?_)
 refine wpAny_bind (wpAny_mono hd (fun r s' h => ?_) fun _ _ x => x)
 refine wp_iff ((Bool.and_true _).trans (decide_eq_false (Nat.not_lt.mpr h1))) ?_
 refine wp_iff (congrArg Bool.not h.1) ?_
 refine wpAny_bind (wpAny_mono h.2 (fun sl s h => ?_) fun _ _ x => x)
 refine wpAny_bind (wpAny_pure ?_)
 exact wpAny_pure h
theorem bindsTo {s : Shared} {fd : FuncData} {ns : List Str} {vs ds : List Value} (hp : plainPar fd.params ns = true) (nd : ns.Nodup)
 (hd : (fd.defaults = .none /\ ds = []) \/ ∃ T ob n, fd.defaults = .ref T /\ s.heap.get? T = some ob /\ ob.data = .seq ds.toArray n)
 (h1 : vs.length <= ns.length) (h2 : ns.length <= vs.length + ds.length) (h3 : ds.length <= ns.length) :
 BindsTo s fd ⟨vs, []⟩ (ns.zip (vs ++ ds.drop (vs.length + ds.length - ns.length))) := by
 intro M A E Q hq
 have key : ∀ {dv : Value}, (dv = .none /\ ds = []) \/ (∃ T ob n, dv = .ref T /\ s.heap.get? T = some ob /\ ob.data = .seq ds.toArray n) -> wpAny M A (seqItems? dv) (fun r s' => BRest M A E Q s' ns vs ((r.getD #[]).toList.drop ((r.getD #[]).toList.length - ns.length))) E s := fun hd => seq_items hd fun r e => by
  rw [e, Nat.sub_eq_zero_of_le h3]
  exact brest nd h1 h2 h3 hq
 obtain ⟨pa, kd, pd, e, rfl⟩ := plainPar_parts hp
 exact (show fd = { fd with params := ⟨[], pa, none, [], kd, none, pd⟩ } from e ▸ rfl) ▸ bindsTo0 h1 (key hd)
theorem Step.pushCells {P : Params} {F : Addr -> Prop} {st : St} : ∀ (names : List (Str × NameKind)) (s : Shared), Holds P st s.heap -> Step P F st s st { s with heap := pushCells s.heap names }
 | [], s, H => Step.toks H s.toks
 | (_, kind) :: r, s, H => by
  unfold PySem.pushCells
  split
  . exact (Step.push (F := F) H { cls := .type "cell", data := .cell none } s.toks).trans (Step.pushCells r { s with heap := s.heap.push { cls := .type "cell", data := .cell none } } (H.push _))
  . exact Step.pushCells r s H
theorem cellsFrom_obj : ∀ (names : List (Str × NameKind)) (h : Heap) (acc : List (Str × Addr)) (x : Str) (a : Addr), (x, a) ∈ cellsFrom h.objs.size names acc ->
 (x, a) ∈ acc \/ ((pushCells h names).get? a = some { cls := .type "cell", data := .cell none } /\ h.objs.size <= a)
 | [], _, _, _, _, m => .inl m
 | (name, kind) :: r, h, acc, x, a, m => by
  unfold cellsFrom at m
  unfold pushCells
  split at m
  . rename_i hk
    rw [if_pos hk]
    have := cellsFrom_obj r (h.push { cls := .type "cell", data := .cell none }) ((name, h.objs.size) :: acc) x a (by rw [Heap.size_push]; exact m)
    rcases this with q | ⟨q1, q2⟩
    . rcases List.mem_cons.mp q with e | q
      . cases e
        exact .inr ⟨pushCells_keeps _ _ _ _ (Heap.get?_push_size _ rfl), Nat.le_refl _⟩
      . exact .inl q
    . rw [Heap.size_push] at q2
      exact .inr ⟨q1, by (first | lia | omega)⟩
  . rename_i hk
    rw [if_neg hk]
    exact cellsFrom_obj r h acc x a m
theorem cellsFrom_acc : ∀ (names : List (Str × NameKind)) (n : Nat) (acc : List (Str × Addr)) (x : Str), (acc.lookup x).isSome = true -> ((cellsFrom n names acc).lookup x).isSome = true
 | [], _, _, _, h => h
 | (name, kind) :: r, n, acc, x, h => by
  unfold cellsFrom
  split
  . refine cellsFrom_acc r _ _ x ?_
    rw [List.lookup_cons]
    cases hb : x == name <;> simp [h]
  . exact cellsFrom_acc r _ _ x h
theorem cellsFrom_has : ∀ (names : List (Str × NameKind)) (n : Nat) (acc : List (Str × Addr)) (x : Str), names.lookup x = some .cell -> ((cellsFrom n names acc).lookup x).isSome = true
 | (name, kind) :: r, n, acc, x, h => by
  rw [List.lookup_cons] at h
  unfold cellsFrom
  cases hb : x == name with
  | true =>
   rw [hb] at h; cases h
   rw [if_pos (show (NameKind.cell == NameKind.cell) = true by decide)]
   refine cellsFrom_acc r _ _ x ?_
   rw [List.lookup_cons, hb]; rfl
  | false =>
   rw [hb] at h
   split
   . exact cellsFrom_has r _ _ x h
   . exact cellsFrom_has r _ _ x h
noncomputable def LocF.binds : List (Str × V) -> LocF -> LocF
 | [], l => l
 | (x, v) :: r, l => LocF.binds r (l.set x v)
theorem bindR {o : Wo} [WoOk o] {c : Cx} {A : Around} {st : St} {E : Value -> Shared -> Prop} (f : Str × Value -> PUnit -> Sem (ForInStep PUnit)) (hf : ∀ n v u, f (n, v) u = (do storeName c.env n v; pure (.yield ⟨⟩))) :
 ∀ (xs : List Str) (as : List V) (vs : List Value) (loc : LocF) (s : Shared) (Q : PUnit -> Shared -> Prop), Inv o c loc st s -> VRs s.heap as vs -> (∀ x ∈ xs, storable c.env x = true) ->
  (∀ s', Step o.P (own c) st s st s' -> Inv o c (LocF.binds (xs.zip as) loc) st s' -> Q ⟨⟩ s') -> wpAny o.M A (forIn (xs.zip vs) ⟨⟩ f) Q E s
 | [], as, vs, loc, s, Q, I, r, _, h => by
  simp only [List.zip_nil_left, List.forIn_nil]
  exact wpAny_pure (h s (Step.refl I.si.hs) (by simpa [LocF.binds] using I))
 | x :: xs, [], _, loc, s, Q, I, .nil, _, h => by
  simp only [List.zip_nil_right, List.forIn_nil]
  exact wpAny_pure (h s (Step.refl I.si.hs) (by simpa [LocF.binds] using I))
 | x :: xs, a :: as, _, loc, s, Q, I, .cons (v := v) (vs := vs) r rs, hx, h => by
  rw [List.zip_cons_cons, List.forIn_cons, hf]
  refine wpAny_bind (wpAny_bind (storeName_R I r (hx x (by simp)) fun h' t S L => wpAny_pure ?_))
  refine bindR f hf xs as vs _ _ Q (I.stepF S L) (VRs.stepF I S rs) (fun y hy => hx y (by simp [hy])) fun s' S' I' => h s' (S.trans S') ?_
  rw [List.zip_cons_cons]
  exact I'
structure FnOk (o : Wo) (a : Addr) (fd : FuncData) (ns : List Str) (ds : List V) (body : List Stmt) : Prop where
 ob : ∃ ob, o.K.lookup a = some ob /\ ob.data = .func fd
 code : ∀ h, o.K.In h -> h.CodeRec fd.code fd.qualname
 dflt : ∃ dv : List Value, (∀ h, VRs h ds dv) /\ ∀ h, o.K.In h -> ((fd.defaults = .none /\ dv = []) \/ ∃ T ob n, fd.defaults = .ref T /\ h.get? T = some ob /\ ob.data = .seq dv.toArray n)
 params : plainPar fd.params ns = true
 nd : ns.Nodup
 kinds : ∀ x ∈ ns, (fd.scope.names.lookup x == some .local || (fd.scope.names.lookup x == some .cell && !(x == ("__classdict__" : Str)))) = true
 kind : fd.scope.kind = .function
 gen : fd.scope.isGenerator = false
 co : fd.scope.isCoroutine = false
 glob : fd.globals = mainGlobals
 blt : fd.builtins = builtinsNs
 clo : fd.closure = []
 body : fd.body = .stmts body
 dle : ds.length <= ns.length
noncomputable def Kx.deep (k : Kx) (env : Env) : Kx := ⟨k.A.deeper env, env :: k.fs, k.n - 1⟩
noncomputable def Fl.v : Fl -> V
 | .ret v => v
 | _ => .none
theorem KxOk.deep {k : Kx} (h : KxOk k) (hn : 1 <= k.n) (env : Env) : KxOk (k.deep env) where
 fr := by show k.A.frames.map _ = _; rw [h.fr]; rfl
 depth := by show k.A.depth + 1 + (k.n - 1) < _; have := h.depth; (first | lia | omega)
 units := by show k.A.units + 3 + 5 * (k.n - 1) + 40 < _; have := h.units; (first | lia | omega)
 handled := h.handled
theorem SI.of_depth {o : Wo} {k : Kx} {st : St} {s : Shared} (S : SI o k st s) {k' : Kx} (h : KxOk k') (hf : FrOk k'.fs s.heap) : SI o k' st s := ⟨h, S.wd, hf, S.hs, S.sep⟩
theorem callc_fn {o : Wo} [W : WoOk o] {k : Kx} {st : St} {a : Addr} {fd : FuncData} {ns : List Str} {ds : List V} {body : List Stmt} (hF : FnOk o a fd ns ds body) {as : List V} {Q : V -> St -> Prop} {X : Exc -> St -> Prop}
 (hn : 1 <= k.n) (h1 : as.length <= ns.length) (h2 : ns.length <= as.length + ds.length)
 (h : ∀ L, let c : Cx := ⟨k.deep (callEnvC fd L a), callEnvC fd L a⟩
  EXS o c (LocF.binds (ns.zip (as ++ ds.drop (as.length + ds.length - ns.length))) LocF.nil) st body (fun fl _ st' => UpP Q fl.v st') (fun x st' => UpP X x st')) :
 CALLC o k st (.ref a) as Q X := fun s vs S r => by
 obtain ⟨ob, hob, hdat⟩ := hF.ob
 obtain ⟨dv, hdv, hdf⟩ := hF.dflt
 have hdl := (hdv s.heap).length
 have hvl := r.length
 have hk := S.wd.k
 refine codeAny_call_function (by have := S.ok.depth; (first | lia | omega)) (hk a ob hob) hdat hF.co hF.gen hF.body (hF.code _ hk) ?_
 refine bindsTo hF.params hF.nd (hdf _ hk) (by (first | lia | omega)) (by have := hF.dle; (first | lia | omega)) (by have := hF.dle; (first | lia | omega)) _ _ _ _ ?_
 rw [hF.clo]
 simp only [newFunctionEnv, Option.isSome_none, Bool.false_eq_true, if_false]
 refine wpAny_bind (wpAny_alloc ?_)
 refine wpAny_bind (wpAny_layCells _ (fun name kind cells => by cases hkc : kind == NameKind.cell <;> simp [hkc]) _ _ _ _ ?_)
 rw [show ({ s with heap := s.heap.push { cls := .type "frame", data := .dict #[] } } : Shared).heap.objs.size = s.heap.objs.size + 1 from Heap.size_push ..]
 have eE : newEnv fd.scope s.heap.objs.size fd.globals (cellsFrom (s.heap.objs.size + 1) fd.scope.names []) (fd.qualname ++ ".<locals>.") (some a) fd.code none fd.builtins = callEnvC fd s.heap.objs.size a := rfl
 generalize hEn : callEnvC fd s.heap.objs.size a = env at eE
 have hel : env.locals = s.heap.objs.size := by rw [<- hEn]; rfl
 have hec : env.cells = cellsFrom (s.heap.objs.size + 1) fd.scope.names [] := by rw [<- hEn]; rfl
 have hes : env.scope = fd.scope := by rw [<- hEn]; rfl
 have hef : env.frame = some s.heap.objs.size := by rw [<- hEn]; rfl
 obtain ⟨c, hc⟩ : ∃ c : Cx, c = ⟨k.deep env, env⟩ := ⟨_, rfl⟩
 have hce : c.env = env := by rw [hc]
 generalize hs1 : ({ s with heap := pushCells (s.heap.push { cls := .type "frame", data := .dict #[] }) fd.scope.names } : Shared) = s₁
 have S1 : Step o.P noF st s st s₁ := by
  rw [<- hs1]
  exact (Step.push S.hs { cls := .type "frame", data := .dict #[] } s.toks).trans (Step.pushCells fd.scope.names { s with heap := s.heap.push { cls := .type "frame", data := .dict #[] } } (S.hs.push _))
 have fL : s₁.heap.get? s.heap.objs.size = some { cls := .type "frame", data := .dict #[] } := by
  rw [<- hs1]; exact pushCells_keeps _ _ _ _ (Heap.get?_push_size _ rfl)
 have hcell : ∀ x b, (x, b) ∈ env.cells -> s₁.heap.get? b = some { cls := .type "cell", data := .cell none } /\ s.heap.objs.size + 1 <= b := fun x b hm => by
  rw [hec] at hm
  have := cellsFrom_obj fd.scope.names (s.heap.push { cls := .type "frame", data := .dict #[] }) [] x b (by rw [Heap.size_push]; exact hm)
  rw [Heap.size_push] at this
  rcases this with q | q
  . cases q
  . rw [<- hs1]; exact q
 have ok := cellsFrom_ok fd.scope.names (s.heap.push { cls := .type "frame", data := .dict #[] }) (s.heap.objs.size + 1) [] ⟨fun _ _ hm => (nomatch hm), List.Pairwise.nil⟩ (by rw [Heap.size_push]; exact Nat.le_refl _)
 rw [Heap.size_push, <- hec] at ok
 have hown : ∀ b, own c b -> s.heap.get? b = none /\ st b = none /\ ∃ o, s₁.heap.get? b = some o := fun b hb => by
  have hle : s.heap.objs.size <= b /\ ∃ o, s₁.heap.get? b = some o := by
   rcases hb with hb | ⟨x, hb⟩
   . rw [hce, hel] at hb; rw [hb]; exact ⟨Nat.le_refl _, _, fL⟩
   . rw [hce] at hb; exact ⟨by have := (hcell x b hb).2; (first | lia | omega), _, (hcell x b hb).1⟩
  refine ⟨Heap.get?_none_of_le hle.1, ?_, hle.2⟩
  cases q : st b with
  | none => rfl
  | some m => obtain ⟨o', ho', _⟩ := S.hs b m q; rw [Heap.get?_none_of_le hle.1] at ho'; cases ho'
 have kk : ∀ x, env.kindOf x = fd.scope.names.lookup x := fun x => by unfold Env.kindOf; rw [hes]
 have I1 : Inv o c LocF.nil st s₁ := by
  refine ⟨⟨by rw [hce, hes]; exact hF.kind, by rw [hce, <- hEn]; exact hF.glob, by rw [hce, <- hEn]; exact hF.blt⟩, ?_, ?_, ⟨fun b hb => ?_⟩, fun b hb => (hown b hb).2.1, fun b hb ha => ?_⟩
  . have S1' := S.step S1
    refine S1'.of_depth (by rw [hc]; exact S.ok.deep hn env) ?_
    rw [hc]
    intro e he
    rcases List.mem_cons.mp he with rfl | he
    . exact ⟨by rw [hes, hF.kind]; decide, _, _, hef, fL, rfl, _, _, rfl⟩
    . exact S1'.fs e he
  . rw [hce]
    refine ⟨⟨fun _ => none, ?_, fun x v e => nomatch e⟩, fun x b e => ?_, ok.apart⟩
    . rw [hel, <- hs1]
      exact (Heap.Ns.new s.heap (.type "frame")).keeps (pushCells_keeps _ _)
    . exact ⟨_, _, (hcell x b (mem_of_lookup e)).1, rfl⟩
  . rcases hb with hb | ⟨x, hb⟩
    . rw [hce, hel] at hb; subst hb
      exact ⟨_, _, fL, rfl, .inl ⟨_, _, rfl⟩⟩
    . rw [hce] at hb
      exact ⟨_, _, (hcell x b hb).1, rfl, .inr ⟨_, rfl⟩⟩
  . have := In.ex S.wd ha
    rw [(hown b hb).1] at this; cases this
 have r1 : VRs s₁.heap (as ++ ds.drop (as.length + ds.length - ns.length)) (vs ++ dv.drop (vs.length + dv.length - ns.length)) := by
  rw [hvl, hdl]
  exact (r.keep S.hs S1.kp).append ((hdv _).drop _)
 have sto : ∀ x ∈ ns, storable c.env x = true := fun x hx => by
  have := hF.kinds x hx
  unfold storable
  rw [hce, kk]
  simp only [Bool.or_eq_true, Bool.and_eq_true, beq_iff_eq] at this ⊢
  rcases this with q | ⟨q1, q2⟩
  . exact .inl q
  . exact .inr ⟨⟨q1, by rw [hec]; exact cellsFrom_has _ _ _ _ q1⟩, q2⟩
 refine wpAny_bind (bindR (o := o) (c := c) _ (fun _ _ _ => by rw [hce, <- eE]; rfl) ns _ _ LocF.nil _ _ I1 r1 sto fun s₂ S2 I2 => wpAny_pure ?_)
 have hb := h s.heap.objs.size
 rw [hEn] at hb
 dsimp only at hb
 rw [<- hc] at hb
 refine ⟨I2.si.wd.nolimit, ?_⟩
 have eE' : ({ scope := fd.scope, locals := s.heap.objs.size, globals := fd.globals, cells := cellsFrom (s.heap.objs.size + 1) fd.scope.names [], qual := fd.qualname ++ ".<locals>.", func := some a, code := fd.code, frame := some s.heap.objs.size, builtins := fd.builtins } : Env) = env := eE
 simp only [eE']
 refine codeAny_func ?_
 have eA : k.A.deeper env = c.k.A := by rw [hc]; rfl
 rw [eA]
 have := hb s₂ I2
 rw [hce] at this
 have S02 : Step o.P noF st s st s₂ := S1.absorb S2 fun b hb => (hown b hb).1
 refine wpAny_mono this (fun f s₃ p => ?_) fun e s₃ p => ?_
 . obtain ⟨fl, loc', st', fr, S3, L3, st'', hle, hq⟩ := p
   refine ⟨fl.v, st'', ?_, (S02.absorb S3 fun b hb => (hown b hb).1).forget hle, hq⟩
   cases fr <;> first | exact .none | assumption
 . have := leave_R (o := o) (k := ⟨c.k.A, k.fs, 0⟩) (env := env) (loc := LocF.nil) (s := s) (X := X) (L := s.heap.objs.size) (by show c.k.A.frames = _; rw [hc]; exact (S.ok.deep hn env).fr) hef hel (by
    have := I2.si.fs
    rw [hc] at this
    exact this) S02 I2.si.hs c hce (fun b hb => (hown b hb).1) (fl := some c.env.locals) (fun L' e => by cases e; rw [hce]; exact hel) p.drop
   exact this
theorem call_fn {o : Wo} [W : WoOk o] {k : Kx} {st : St} {a : Addr} {fd : FuncData} {ns : List Str} {ds : List V} {body : List Stmt} (hF : FnOk o a fd ns ds body) {as : List V} {Q : V -> St -> Prop} {X : Exc -> St -> Prop}
 (hn : 1 <= k.n) (h1 : as.length <= ns.length) (h2 : ns.length <= as.length + ds.length)
 (h : ∀ L, let c : Cx := ⟨k.deep (callEnvC fd L a), callEnvC fd L a⟩
  EXS o c (LocF.binds (ns.zip (as ++ ds.drop (as.length + ds.length - ns.length))) LocF.nil) st body (fun fl _ st' => UpP Q fl.v st') (fun x st' => UpP X x st')) :
 CALL o k st (.ref a) as Q X := (callc_fn hF hn h1 h2 h).call
section
variable {o : Wo} [W : WoOk o] {c : Cx} {k : Kx} {loc : LocF} {st : St} {Q : V -> St -> Prop} {X : Exc -> St -> Prop} {QB : Bool -> St -> Prop} {QF : Fl -> LocF -> St -> Prop} {QL : LocF -> St -> Prop}
theorem EV.use {e : Expr} (h : EV o c loc st e Q X) {s : Shared} (I : Inv o c loc st s) {Qv : Value -> Shared -> Prop}
 (q : ∀ v st₁ va s₁, Q v st₁ -> Step o.P noF st s st₁ s₁ -> Inv o c loc st₁ s₁ -> VR s₁.heap v va -> Qv va s₁) : wpAny o.M c.k.A (eval e c.env) Qv (PX o noF st s X) s :=
 wpAny_mono (h s I) (fun _ _ ⟨_, _, a, b, d⟩ => q _ _ _ _ d b (I.step b) a) fun _ _ p => p
theorem TR.use {e : Expr} (h : TR o c loc st e QB X) {s : Shared} (I : Inv o c loc st s) {Qv : Bool -> Shared -> Prop}
 (q : ∀ v st₁ s₁, QB v st₁ -> Step o.P noF st s st₁ s₁ -> Inv o c loc st₁ s₁ -> Qv v s₁) : wpAny o.M c.k.A (isTrue e c.env (eval e c.env)) Qv (PX o noF st s X) s :=
 wpAny_mono (h s I) (fun _ _ ⟨_, b, d⟩ => q _ _ _ d b (I.step b)) fun _ _ p => p
theorem px {fl : Option Addr} {F : Addr -> Prop} {G : Heap -> Prop} {st₁ : St} {s s₁ : Shared} (S : Step o.P F st s st₁ s₁) {m : Sem α} {Qa : α -> Shared -> Prop} {A : Around} (h : wpAny o.M A m Qa (PXg o F G fl st₁ s₁ X) s₁) : wpAny o.M A m Qa (PXg o F G fl st s X) s₁ :=
 wpAny_mono h (fun _ _ p => p) fun _ _ p => p.trans S
theorem pxw {s : Shared} (I : Inv o c loc st s) {s' : Shared} {m : Sem α} {Qa : α -> Shared -> Prop} {A : Around} (h : wpAny o.M A m Qa (PX o noF st s X) s') : wpAny o.M A m Qa (PXO o c st s X) s' :=
 wpAny_mono h (fun _ _ p => p) fun _ _ ⟨y, st', e, a, b, S, _, d⟩ => ⟨y, st', e, a, b.weak, S.weak, (I.step S).lc.nil, d⟩
theorem trv_bool {b : Bool} (h : QB b st) : TRV o k st (.bool b) QB X := fun s va S r => by cases r; exact wpAny_pure ⟨st, Step.refl S.hs, h⟩
theorem trv_none (h : QB false st) : TRV o k st .none QB X := fun s va S r => by cases r; exact wpAny_pure ⟨st, Step.refl S.hs, h⟩
theorem trv_int {i : Int} (h : QB (i != 0) st) : TRV o k st (.int i) QB X := fun s va S r => by cases r; exact PyProof.Rows.truthy_int (Q := PB o st s QB) ⟨st, Step.refl S.hs, h⟩
theorem tr_cmp {l r : Expr} {op : CmpOp} {pos : Pos} (h : EV o c loc st l (fun a st₁ => EV o c loc st₁ r (fun b st₂ => CMP o c.k st₂ op a b (fun v st₃ => TRV o c.k st₃ v QB X) X) X) X)
 (hm : behindInMarks op r = false := by with_unfolding_all rfl) : TR o c loc st (.Compare l [op] [r] pos) QB X := fun s I => by
 refine wpAny_isTrue_Compare1 (h.use I fun a st₁ va s₁ q S I₁ ra => px S (q.use I₁ fun b st₂ vb s₂ q₂ S₂ I₂ rb => px (S.trans S₂) ?_)) hm
 refine wpAny_mono (q₂ s₂ va vb I₂.si (ra.keep I₁.si.hs S₂.kp) rb) (fun v s₃ p => ?_) fun _ _ p => p
 obtain ⟨r3, st₃, rr, S₃, q₃⟩ := p
 have S' := (S.trans S₂).trans S₃
 exact px S' (wpAny_mono (q₃ s₃ _ (I₂.step S₃).si rr) (fun b s₄ p => p.trans S') fun _ _ p => p)
theorem ev_cmp {l r : Expr} {op : CmpOp} {pos : Pos} (h : EV o c loc st l (fun a st₁ => EV o c loc st₁ r (fun b st₂ => CMP o c.k st₂ op a b Q X) X) X)
 (hm : behindInMarks op r = false := by with_unfolding_all rfl) : EV o c loc st (.Compare l [op] [r] pos) Q X := fun s I => by
 refine wpAny_Compare1 (h.use I fun a st₁ va s₁ q S I₁ ra => px S (q.use I₁ fun b st₂ vb s₂ q₂ S₂ I₂ rb => px (S.trans S₂) ?_)) hm
 exact wpAny_mono (q₂ s₂ va vb I₂.si (ra.keep I₁.si.hs S₂.kp) rb) (fun v s₃ p => p.trans (S.trans S₂)) fun _ _ p => p
theorem tr_not {x : Expr} {pos : Pos} (h : TR o c loc st x (fun b st₁ => QB (!b) st₁) X) : TR o c loc st (.UnaryOp .Not x pos) QB X := fun s I =>
 wpAny_isTrue_Not (h.use I fun b st₁ s₁ q S _ => ⟨st₁, S, q⟩)
theorem tr_and_nil {pos : Pos} (h : QB true st) : TR o c loc st (.BoolOp .And [] pos) QB X := fun s I => wpAny_isTrue_BoolOp (wpAny_allTrue_And_nil ⟨st, Step.refl I.si.hs, h⟩)
theorem tr_or_nil {pos : Pos} (h : QB false st) : TR o c loc st (.BoolOp .Or [] pos) QB X := fun s I => wpAny_isTrue_BoolOp (wpAny_allTrue_Or_nil ⟨st, Step.refl I.si.hs, h⟩)
theorem allTrue_of {op : BoolOp} {values : List Expr} {pos : Pos} {s : Shared} (I : Inv o c loc st s) (h : TR o c loc st (.BoolOp op values pos) QB X) : wpAny o.M c.k.A (allTrue op values c.env) (PB o st s QB) (PX o noF st s X) s := by
 have := h s I
 rwa [arm_isTrue_BoolOp] at this
theorem tr_and {x : Expr} {rest : List Expr} {pos : Pos} (h : TR o c loc st x (fun b st₁ => if b then TR o c loc st₁ (.BoolOp .And rest pos) QB X else QB false st₁) X) : TR o c loc st (.BoolOp .And (x :: rest) pos) QB X := fun s I =>
 wpAny_isTrue_BoolOp (wpAny_allTrue_And_cons (h.use I fun b st₁ s₁ q S I₁ => by
  cases b with
  | false => exact ⟨st₁, S, q⟩
  | true => exact px S (wpAny_mono (allTrue_of I₁ q) (fun _ _ p => p.trans S) fun _ _ p => p)))
theorem tr_or {x : Expr} {rest : List Expr} {pos : Pos} (h : TR o c loc st x (fun b st₁ => if b then QB true st₁ else TR o c loc st₁ (.BoolOp .Or rest pos) QB X) X) : TR o c loc st (.BoolOp .Or (x :: rest) pos) QB X := fun s I =>
 wpAny_isTrue_BoolOp (wpAny_allTrue_Or_cons (h.use I fun b st₁ s₁ q S I₁ => by
  cases b with
  | true => exact ⟨st₁, S, q⟩
  | false => exact px S (wpAny_mono (allTrue_of I₁ q) (fun _ _ p => p.trans S) fun _ _ p => p)))
theorem tr_val {e : Expr} (he : ∀ env whole, isTrue e env whole = (do let v <- whole; standAt e.pos; holding [v] (truthy v))) (h : EV o c loc st e (fun v st₁ => TRV o c.k st₁ v QB X) X) : TR o c loc st e QB X := fun s I =>
 wpAny_isTrue_value (h.use I fun v st₁ va s₁ q S I₁ ra => px S (wpAny_mono (q s₁ va I₁.si ra) (fun _ _ p => p.trans S) fun _ _ p => p)) (he _ _)
theorem ev_unary {x : Expr} {op : UnaryOp} {pos : Pos} (h : EV o c loc st x (fun a st₁ => OPU o c.k st₁ op a Q X) X) : EV o c loc st (.UnaryOp op x pos) Q X := fun s I =>
 wpAny_UnaryOp (h.use I fun a st₁ va s₁ q S I₁ ra => px S (wpAny_mono (q s₁ va I₁.si ra) (fun _ _ p => p.trans S) fun _ _ p => p))
theorem opu_not {a : V} (h : TRV o k st a (fun b st₁ => Q (.bool (!b)) st₁) X) : OPU o k st .Not a Q X := fun s va S ra =>
 not_value (wpAny_mono (h s va S ra) (fun b s₁ ⟨st₁, S₁, q⟩ => ⟨_, st₁, .bool _, S₁, q⟩) fun _ _ p => p)
theorem ev_ifexp {t b e : Expr} {pos : Pos} (h : TR o c loc st t (fun r st₁ => if r then EV o c loc st₁ b Q X else EV o c loc st₁ e Q X) X) : EV o c loc st (.IfExp t b e pos) Q X := fun s I =>
 wpAny_IfExp (h.use I fun r st₁ s₁ q S I₁ => by
  cases r
  . exact px S (wpAny_mono (q s₁ I₁) (fun _ _ p => p.trans S) fun _ _ p => p)
  . exact px S (wpAny_mono (q s₁ I₁) (fun _ _ p => p.trans S) fun _ _ p => p))
theorem ev_and2 {x y : Expr} {pos : Pos} (h : EV o c loc st x (fun a st₁ => TRV o c.k st₁ a (fun b st₂ => if b then EV o c loc st₂ y Q X else Q a st₂) X) X) : EV o c loc st (.BoolOp .And [x, y] pos) Q X := fun s I =>
 wpAny_And2 (h.use I fun a st₁ va s₁ q S I₁ ra => px S (wpAny_mono (q s₁ va I₁.si ra) (fun b s₂ ⟨st₂, S₂, q₂⟩ => by
  have S' := S.trans S₂
  cases b with
  | false => exact ⟨a, st₂, ra.keep I₁.si.hs S₂.kp, S', q₂⟩
  | true => exact px S' (wpAny_mono (q₂ s₂ (I₁.step S₂)) (fun _ _ p => p.trans S') fun _ _ p => p)) fun _ _ p => p))
theorem ev_or2 {x y : Expr} {pos : Pos} (h : EV o c loc st x (fun a st₁ => TRV o c.k st₁ a (fun b st₂ => if b then Q a st₂ else EV o c loc st₂ y Q X) X) X) : EV o c loc st (.BoolOp .Or [x, y] pos) Q X := fun s I =>
 wpAny_Or2 (h.use I fun a st₁ va s₁ q S I₁ ra => px S (wpAny_mono (q s₁ va I₁.si ra) (fun b s₂ ⟨st₂, S₂, q₂⟩ => by
  have S' := S.trans S₂
  cases b with
  | true => exact ⟨a, st₂, ra.keep I₁.si.hs S₂.kp, S', q₂⟩
  | false => exact px S' (wpAny_mono (q₂ s₂ (I₁.step S₂)) (fun _ _ p => p.trans S') fun _ _ p => p)) fun _ _ p => p))
theorem exs_nil (h : QF .next loc st) : EXS o c loc st [] QF X := fun s I => wpAny_execs_nil ⟨.next, loc, st, .next, Step.refl I.si.hs, I.lc, h⟩
theorem exs_cons {e : Stmt} {es : List Stmt} (h : EX o c loc st e (fun f loc₁ st₁ => match f with | .next => EXS o c loc₁ st₁ es QF X | f => QF f loc₁ st₁) X) : EXS o c loc st (e :: es) QF X := fun s I => by
 refine wpAny_execs_cons (wpAny_mono (h s I) (fun f s₁ p => ?_) fun _ _ p => p)
 obtain ⟨fl, loc₁, st₁, fr, S, L, q⟩ := p
 have I₁ := I.stepF S L
 cases fr with
 | next => exact px S (wpAny_mono (q s₁ I₁) (fun _ _ p => p.trans S) fun _ _ p => p)
 | brk => exact ⟨_, _, _, .brk, S, L, q⟩
 | cont => exact ⟨_, _, _, .cont, S, L, q⟩
 | ret r => exact ⟨_, _, _, .ret r, S, L, q⟩
theorem ex_pass {pos : Pos} (h : QF .next loc st) : EX o c loc st (.Pass pos) QF X := fun s I => wpAny_Pass ⟨.next, loc, st, .next, Step.refl I.si.hs, I.lc, h⟩
theorem ex_break {pos : Pos} (h : QF .brk loc st) : EX o c loc st (.Break pos) QF X := fun s I => wpAny_Break ⟨.brk, loc, st, .brk, Step.refl I.si.hs, I.lc, h⟩
theorem ex_continue {pos : Pos} (h : QF .cont loc st) : EX o c loc st (.Continue pos) QF X := fun s I => wpAny_Continue ⟨.cont, loc, st, .cont, Step.refl I.si.hs, I.lc, h⟩
theorem ex_return {e : Expr} {pos : Pos} (h : EV o c loc st e (fun v st₁ => QF (.ret v) loc st₁) X) : EX o c loc st (.Return (some e) pos) QF X := fun s I =>
 wpAny_Return_some (pxw I (h.use I fun v st₁ va s₁ q S I₁ r => ⟨_, _, _, .ret r, S.weak, I₁.lc, q⟩))
theorem ex_return_none {pos : Pos} (h : QF (.ret .none) loc st) : EX o c loc st (.Return none pos) QF X := fun s I => wpAny_Return_none ⟨_, _, _, .ret .none, Step.refl I.si.hs, I.lc, h⟩
theorem ex_expr {e : Expr} {pos : Pos} (hs : ∀ env, swapsWith e none pos.line env = pure false) (h : EV o c loc st e (fun _ st₁ => QF .next loc st₁) X) : EX o c loc st (.Expr e pos) QF X := fun s I => by
 have hi : interactive c.env = false := by unfold interactive; rw [I.cx.kind]; rfl
 rw [exec_Expr c.env e pos hi (hs _)]
 refine wpAny_bind (wpAny_standAt (wpAny_bind (pxw I (h.use I fun v st₁ va s₁ q S I₁ r => ?_))))
 exact wpAny_dropValue ⟨.next, loc, st₁, .next, S.weak, I₁.lc, q⟩
theorem ex_if {t : Expr} {b e : List Stmt} {pos : Pos} (h : TR o c loc st t (fun r st₁ => if r then EXS o c loc st₁ b QF X else EXS o c loc st₁ e QF X) X) : EX o c loc st (.If t b e pos) QF X := fun s I =>
 wpAny_If (pxw I (h.use I fun r st₁ s₁ q S I₁ => by
  have S' := S.weak (F := own c)
  cases r
  . exact px S' (wpAny_mono (q s₁ I₁) (fun _ _ p => p.trans S') fun _ _ p => p)
  . exact px S' (wpAny_mono (q s₁ I₁) (fun _ _ p => p.trans S') fun _ _ p => p)))
theorem ex_assign {t e : Expr} {pos : Pos} (hs : ∀ env, swapsWith e (some t) pos.line env = pure false) (hw : ∀ env, swappedStores [t] e env = pure none) (he : ∀ env, (assignEach [t] env).map (·.2) = [assign t env]) (h : EV o c loc st e (fun v st₁ => ASG o c loc st₁ t v (fun loc₂ st₂ => QF .next loc₂ st₂) X) X) :
 EX o c loc st (.Assign [t] e pos) QF X := fun s I => by
 refine wpAny_Assign_stores (pxw I (h.use I fun v st₁ va s₁ q S I₁ r => ?_)) (hs _) (hw _)
 rw [he]
 have S' := S.weak (F := own c)
 refine px S' ?_
 show wpAny o.M c.k.A (assign t c.env va) _ _ s₁
 exact wpAny_mono (q s₁ va I₁ r) (fun _ s₂ ⟨loc₂, st₂, S₂, L, q₂⟩ => ⟨_, loc₂, st₂, .next, S'.trans S₂, L, q₂⟩) fun _ _ p => p
theorem asg_name {x : Str} {pos : Pos} {v : V} (hx : storable c.env x = true) (h : QL (loc.set x v) st) : ASG o c loc st (.Name x pos) v QL X := fun s u I r => by
 show wpAny o.M c.k.A (do standAt pos; bindName c.env x u) _ _ s
 exact wpAny_bind (wpAny_standAt (wpAny_bindName (storeName_R I r hx fun h' t S L => ⟨_, st, S, L, h⟩)))
end
theorem Step.absorbF {P : Params} {F G : Addr -> Prop} {st st₁ st₂ : St} {s s₁ s₂ : Shared} (x : Step P F st s st₁ s₁) (y : Step P G st₁ s₁ st₂ s₂) (hF : ∀ a, G a -> F a \/ s.heap.get? a = none) : Step P F st s st₂ s₂ where
 holds := y.holds
 sub a h := by
  rcases y.sub a h with h | h
  . exact x.sub a h
  . right
    cases q : s.heap.get? a with
    | none => rfl
    | some o => have := x.mono a (by rw [q]; rfl); rw [h] at this; cases this
 ext b o hf hb ho := by
  obtain ⟨o₁, h1, k1⟩ := x.ext b o hf hb ho
  obtain ⟨o₂, h2, k2⟩ := y.ext b o₁ (fun g => (hF b g).elim hf fun q => by rw [q] at ho; cases ho) (x.still hb ho) h1
  exact ⟨o₂, h2, k1.trans k2⟩
 own b o hf hb ho := by
  obtain ⟨o₁, h1, k1⟩ := x.own b o hf hb ho
  by_cases g : G b
  . obtain ⟨o₂, h2, k2⟩ := y.own b o₁ g (x.still hb ho) h1
    exact ⟨o₂, h2, k1.trans k2⟩
  . obtain ⟨o₂, h2, k2⟩ := y.ext b o₁ g (x.still hb ho) h1
    exact ⟨o₂, h2, k1.trans k2.oo⟩
 mono b h := y.mono b (x.mono b h)
 gens := y.gens.trans x.gens
 os := y.os.trans x.os
inductive FreeRec (o : Wo) (h : Heap) (a : Addr) : Prop
 | mk (n : ¬ o.ad a) (ob : Obj) (T : String) (vs : Array Value) (e : h.get? a = some ob) (c : ob.cls = .type T) (d : ob.data = .fields vs) (r : T ≠ "range")
theorem FreeRec.no {o : Wo} {h : Heap} {a : Addr} (x : FreeRec o h a) : ¬ o.ad a := match x with | ⟨n, _, _, _, _, _, _, _⟩ => n
section
variable {o : Wo} [W : WoOk o] {c : Cx} {k : Kx} {loc : LocF} {st st' : St} {s s' : Shared}
theorem FreeRec.stn {a : Addr} (H : Holds o.P st s.heap) (x : FreeRec o s.heap a) : st a = none := by
 obtain ⟨_, ob, T, vs, h1, h2, h3, h4⟩ := x
 exact rec_not_st H h1 h2 h3
theorem DOk.free {F : Addr -> Prop} (H : Holds o.P st s.heap) (hF : ∀ a, F a -> FreeRec o s.heap a) : DOk (fun b => st b ≠ none \/ F b) s.heap where
 tup a ws n x q := by
  rcases q with q | q
  . exact q (tup_not_st H x)
  . obtain ⟨_, ob, T, vs, h1, h2, h3, h4⟩ := hF a q
    have e := Option.some.inj (h1.symm.trans x)
    subst e; cases h3
 rng a ob vs x hc hd q := by
  rcases q with q | q
  . exact q (rec_not_st H x hc hd)
  . obtain ⟨_, ob', T, vs, h1, h2, h3, h4⟩ := hF a q
    rw [x] at h1; cases h1
    rw [hc] at h2; cases h2
    exact h4 rfl
 obj a ob x hd hC q := by
  rcases q with q | q
  . exact q (inst_not_st H x hd)
  . obtain ⟨_, ob', T, vs, h1, h2, h3, h4⟩ := hF a q
    rw [x] at h1; cases h1
    rw [hd] at h3; cases h3
theorem VR.stepG {F : Addr -> Prop} (H : Holds o.P st s.heap) (hF : ∀ a, F a -> FreeRec o s.heap a) (x : Step o.P F st s st' s') {a : V} {v : Value} (r : VR s.heap a v) : VR s'.heap a v := r.keepD (DOk.free H hF) x.kpd
theorem SI.stepG {F : Addr -> Prop} (S : SI o k st s) (hF : ∀ a, F a -> FreeRec o s.heap a) (x : Step o.P F st s st' s') : SI o k st' s' := by
 have ad : ∀ a, o.ad a -> ∀ ob, s.heap.get? a = some ob -> KOx s'.heap a ob := fun a ha ob hob => x.ext a ob (fun q => (hF a q).no ha) (S.sep a ha) hob
 have nk : ∀ {a : Addr} {m : Str -> Option Value}, o.ad a -> s.heap.Ns a m -> s'.heap.Ns a m := fun {a m} ha ⟨ob, es, ep, h1, h2, r⟩ => by
  obtain ⟨o', h, k⟩ := ad a ha ob h1
  exact ⟨o', es, ep, h, k.data.trans h2, r⟩
 refine ⟨S.ok, ⟨fun a ob e => ?_, nk (.inr (.inl rfl)) S.wd.g, nk (.inr (.inr (.inl rfl))) S.wd.b, S.wd.bi, ?_⟩, S.fs.stepF S.hs x, x.holds, fun a ha => none_of_sub x.sub (S.sep a ha) (In.ex S.wd ha)⟩
 . obtain ⟨o', h, k⟩ := ad a (.inl ⟨ob, e⟩) ob (S.wd.k a ob e)
   rw [k.eq (W.noFrame a ob e)] at h
   exact h
 . obtain ⟨mc, h1, h2⟩ := S.wd.nolimit
   exact ⟨mc, nk (.inr (.inr (.inr rfl))) h1, h2⟩
theorem LocR.keepD {D : Addr -> Prop} {h' : Heap} (I : Inv o c loc st s) (H : DOk D s.heap) (K : KpD D s.heap h') (hD : ∀ a, own c a -> ¬ D a) : LocR c.env loc h' := by
 have kp : ∀ a, own c a -> ∀ ob, s.heap.get? a = some ob -> KOx h' a ob := fun a ha ob hob => K a ob (hD a ha) hob
 have ck : ∀ {a : Addr} {v : Option Value}, own c a -> s.heap.IsCell a v -> h'.IsCell a v := fun {a v} ha ⟨ob, h1, h2⟩ => by
  obtain ⟨o', h, k⟩ := kp a ha ob h1
  exact ⟨o', h, k.data.trans h2⟩
 refine ⟨?_, fun y a e => ?_, I.lc.apart⟩
 . obtain ⟨m, ⟨ob, es, ep, h1, h2, h3⟩, q⟩ := I.lc.ns
   obtain ⟨o', h, k⟩ := kp _ (.inl rfl) ob h1
   refine ⟨m, ⟨o', es, ep, h, k.data.trans h2, h3⟩, fun y v e => ?_⟩
   rcases q y v e with ⟨b1, u, b2, b3⟩ | ⟨b1, b2, a, u, b3, b4, b5⟩
   . exact .inl ⟨b1, u, b2, b3.keepD H K⟩
   . exact .inr ⟨b1, b2, a, u, b3, ck (.inr ⟨y, mem_of_lookup b3⟩) b4, b5.keepD H K⟩
 . obtain ⟨u, q⟩ := I.lc.cells y a e
   exact ⟨u, ck (.inr ⟨y, mem_of_lookup e⟩) q⟩
theorem FreeRec.nown {a : Addr} (I : Inv o c loc st s) (x : FreeRec o s.heap a) : ¬ own c a := fun q => by
 obtain ⟨_, ob, T, vs, h1, h2, h3, h4⟩ := x
 obtain ⟨ob', T', e1, e2, e3⟩ := I.ow.ex a q
 rw [h1] at e1; cases e1
 rcases e3 with ⟨es, n, e3⟩ | ⟨v, e3⟩ <;> (rw [h3] at e3; cases e3)
theorem Step.lost {F : Addr -> Prop} {st₁ : St} {s₁ : Shared} {it : Addr} {h' : Heap} {t : Nat} (x : Step o.P F st s st₁ s₁) (hf : FreeRec o s₁.heap it) (hfr : s.heap.get? it = none) (hs : Heap.ExtBut it s₁.heap h') :
 Step o.P F st s st₁ { s₁ with heap := h', toks := t } := by
 have K : KpD (fun b => st₁ b ≠ none \/ b = it) s₁.heap h' := fun b ob hb hob => ⟨ob, hs b ob (fun q => hb (.inr q)) hob, .refl ob⟩
 have D : DOk (fun b => st₁ b ≠ none \/ b = it) s₁.heap := DOk.free x.holds fun a q => by subst q; exact hf
 have ne : ∀ {b ob}, s.heap.get? b = some ob -> b ≠ it := fun h q => by rw [q, hfr] at h; cases h
 refine ⟨fun a m e => ?_, x.sub, fun b ob hb hst hob => ?_, fun b ob hb hst hob => ?_, fun b hb => ?_, x.gens, x.os⟩
 . obtain ⟨ob, h1, h2⟩ := x.holds a m e
   have : a ≠ it := by intro q; subst q; rw [hf.stn x.holds] at e; cases e
   exact ⟨ob, hs a ob this h1, h2.keepD D K⟩
 . obtain ⟨o', h1, h2⟩ := x.ext b ob hb hst hob
   exact ⟨o', hs _ _ (ne hob) h1, h2⟩
 . obtain ⟨o', h1, h2⟩ := x.own b ob hb hst hob
   exact ⟨o', hs _ _ (ne hob) h1, h2⟩
 . obtain ⟨ob, hob⟩ := Option.isSome_iff_exists.mp hb
   obtain ⟨o', ho'⟩ := Option.isSome_iff_exists.mp (x.mono b hb)
   show (h'.get? b).isSome = true
   rw [hs _ _ (ne hob) ho']; rfl
theorem Inv.stepG {F : Addr -> Prop} (I : Inv o c loc st s) (hF : ∀ a, F a -> FreeRec o s.heap a) (x : Step o.P F st s st' s') : Inv o c loc st' s' := by
 have nown : ∀ a, own c a -> ¬ F a := fun a ha q => by
  obtain ⟨_, ob, T, vs, h1, h2, h3, h4⟩ := hF a q
  obtain ⟨ob', T', e1, e2, e3⟩ := I.ow.ex a ha
  rw [h1] at e1; cases e1
  rcases e3 with ⟨es, n, e3⟩ | ⟨v, e3⟩ <;> (rw [h3] at e3; cases e3)
 have kp : ∀ a, own c a -> ∀ ob, s.heap.get? a = some ob -> KOx s'.heap a ob := fun a ha ob hob => x.ext a ob (nown a ha) (I.ost a ha) hob
 have ck : ∀ {a : Addr} {v : Option Value}, own c a -> s.heap.IsCell a v -> s'.heap.IsCell a v := fun {a v} ha ⟨ob, h1, h2⟩ => by
  obtain ⟨o', h, k⟩ := kp a ha ob h1
  exact ⟨o', h, k.data.trans h2⟩
 refine ⟨I.cx, I.si.stepG hF x, ⟨?_, fun y a e => ?_, I.lc.apart⟩, I.ow.step I.ost x, fun a ha => ?_, I.oad⟩
 . obtain ⟨m, ⟨ob, es, ep, h1, h2, h3⟩, q⟩ := I.lc.ns
   obtain ⟨o', h, k⟩ := kp _ (.inl rfl) ob h1
   refine ⟨m, ⟨o', es, ep, h, k.data.trans h2, h3⟩, fun y v e => ?_⟩
   rcases q y v e with ⟨b1, u, b2, b3⟩ | ⟨b1, b2, a, u, b3, b4, b5⟩
   . exact .inl ⟨b1, u, b2, VR.stepG I.si.hs hF x b3⟩
   . exact .inr ⟨b1, b2, a, u, b3, ck (.inr ⟨y, mem_of_lookup b3⟩) b4, VR.stepG I.si.hs hF x b5⟩
 . obtain ⟨u, q⟩ := I.lc.cells y a e
   exact ⟨u, ck (.inr ⟨y, mem_of_lookup e⟩) q⟩
 . obtain ⟨ob, T, h1, _⟩ := I.ow.ex a ha
   exact x.still (I.ost a ha) h1
theorem Step.free {it : Addr} {h' : Heap} {t : Nat} (H : Holds o.P st s.heap) (hf : FreeRec o s.heap it) (hs : Heap.ExtBut it s.heap h') (hit : ∀ ob, s.heap.get? it = some ob -> OOx h' it ob) :
 Step o.P (fun b => b = it) st s st { s with heap := h', toks := t } := by
 have K : KpD (fun b => st b ≠ none \/ b = it) s.heap h' := fun b ob hb hob => ⟨ob, hs b ob (fun q => hb (.inr q)) hob, .refl ob⟩
 have D : DOk (fun b => st b ≠ none \/ b = it) s.heap := DOk.free H fun a q => by subst q; exact hf
 refine ⟨fun a m e => ?_, fun a e => .inl e, fun b ob hb _ hob => ⟨ob, hs b ob hb hob, .refl ob⟩, fun b ob hb _ hob => ?_, fun b hb => ?_, rfl, rfl⟩
 . obtain ⟨ob, h1, h2⟩ := H a m e
   have : a ≠ it := by intro q; subst q; rw [hf.stn H] at e; cases e
   exact ⟨ob, hs a ob this h1, h2.keepD D K⟩
 . have hb : b = it := hb
   subst hb; exact hit ob hob
 . obtain ⟨ob, hob⟩ := Option.isSome_iff_exists.mp hb
   by_cases q : b = it
   . subst q; obtain ⟨ob', h1, _⟩ := hit ob hob; show (h'.get? b).isSome = true; rw [h1]; rfl
   . show (h'.get? b).isSome = true; rw [hs b ob q hob]; rfl
end
section
variable {o : Wo} [W : WoOk o] {c : Cx} {loc : LocF} {st : St} {X : Exc -> St -> Prop} {QF : Fl -> LocF -> St -> Prop}
theorem ex_while {t : Expr} {body : List Stmt} {pos : Pos} (J : Nat -> LocF -> St -> Prop) (n : Nat) (h0 : J n loc st)
 (turn : ∀ n loc st, J n loc st -> TR o c loc st t (fun b st₁ => if b then EXS o c loc st₁ body (fun fl loc₂ st₂ => match fl with
  | .next | .cont => ∃ m, m < n /\ J m loc₂ st₂
  | .brk => QF .next loc₂ st₂
  | .ret v => QF (.ret v) loc₂ st₂) (fun _ _ => False) else QF .next loc st₁) (fun _ _ => False)) :
 EX o c loc st (.While t body [] pos) QF X := fun s I => by
 refine wpAny_While (codeAny_whileLoop (fun n s' => ∃ loc' st', J n loc' st' /\ Step o.P (own c) st s st' s' /\ Inv o c loc' st' s') (fun n s' ⟨loc', st', hJ, S, I'⟩ => ?_) n ⟨loc, st, h0, Step.refl I.si.hs, I⟩)
 have noX : ∀ {F : Addr -> Prop} {G : Heap -> Prop} {fl : Option Addr} {st₁ : St} {s₁ : Shared} {e : Value} {s₂ : Shared} {Z : Prop}, PXg o F G fl st₁ s₁ (fun _ _ => False) e s₂ -> Z := fun ⟨_, _, _, _, _, _, _, q⟩ => q.elim
 refine wpAny_mono (turn n loc' st' hJ s' I') (fun b s₁ ⟨st₁, S₁, q⟩ => ?_) fun e s₂ p => noX p
 . have I₁ := I'.step S₁
   have S' : Step o.P (own c) st s st₁ s₁ := S.trans S₁.weak
   cases b with
   | false =>
    exact wpAny_execs_nil ⟨.next, _, st₁, .next, S', I₁.lc, q⟩
   | true =>
    refine wpAny_mono (q s₁ I₁) (fun f s₂ p => ?_) fun _ _ p => noX p
    obtain ⟨fl, loc₂, st₂, fr, S₂, L₂, q₂⟩ := p
    have I₂ := I₁.stepF S₂ L₂
    cases fr with
    | next => obtain ⟨m, hm, hj⟩ := q₂; exact ⟨m, hm, _, _, hj, S'.trans S₂, I₂⟩
    | cont => obtain ⟨m, hm, hj⟩ := q₂; exact ⟨m, hm, _, _, hj, S'.trans S₂, I₂⟩
    | brk => exact ⟨_, _, _, .next, S'.trans S₂, L₂, q₂⟩
    | ret r => exact ⟨_, _, _, .ret r, S'.trans S₂, L₂, q₂⟩
theorem letOwned_plain {target : Expr} {it : Addr} {v : Value} {ob : Obj} {T : String} {M : Model} {A : Around} {E : Value -> Shared -> Prop} {s : Shared} {Q : Unit -> Shared -> Prop} (ho : s.heap.get? it = some ob) (hc : ob.cls = .type T)
 (hT : ["enumerate", "zip", "dict_itemiterator", "dict_reverseitemiterator", "odict_iterator", "itertools.zip_longest", "itertools.pairwise"].contains T = false) (h : Q () s) : wpAny M A (letOwnedTupleGo target (.ref it) v) Q E s := by
 obtain ⟨cl, di, da, sl⟩ := ob
 cases hc
 have key : ∀ a, wpAny M A (do
  let o <- load it
  match o.cls, o.data with
  | .type n, .fields vs =>
   if ["enumerate", "zip", "dict_itemiterator", "dict_reverseitemiterator", "odict_iterator", "itertools.zip_longest", "itertools.pairwise"].contains n && vs[0]? == some (rawInt a) then do
    rule "for.unpacks-the-owned-tuple"
    updateField it 0 .none
  | _, _ => pure ()) Q E s := fun a => by
  refine wpAny_bind (wpAny_load ho ?_)
  dsimp only
  cases da <;> first | exact wpAny_pure h | (dsimp only; rw [hT, Bool.false_and, if_neg (by decide)]; exact wpAny_pure h)
 cases target <;> first | exact wpAny_pure h | (cases v <;> first | exact wpAny_pure h | exact key _)
theorem nsome {α : Type} {x : Option α} (h : x.isSome = true) (e : x = none) : False := by subst e; cases h
structure IterOk (o : Wo) (it : Addr) (T : String) (P : Nat -> Heap -> Prop) (R : Heap -> Prop) : Prop where
 ad : ¬ o.ad it
 p : ∀ i h h', P i h -> h'.get? it = h.get? it -> P i h'
 ex : ∀ i h, P i h -> ∃ ob vs, h.get? it = some ob /\ ob.cls = .type T /\ ob.data = .fields vs
 nf : T ≠ "frame"
 nr : T ≠ "range"
 r : ∀ {D : Addr -> Prop} {h h' : Heap}, DOk D h -> KpD D h h' -> R h -> R h'
theorem IterOk.free {it : Addr} {T : String} {P : Nat -> Heap -> Prop} {R : Heap -> Prop} (K : IterOk o it T P R) {i : Nat} {h : Heap} (hp : P i h) : FreeRec o h it := by
 obtain ⟨ob, vs, a, b, d⟩ := K.ex i h hp
 exact ⟨K.ad, ob, T, vs, a, b, d, K.nr⟩
theorem IterOk.keep {it : Addr} {T : String} {P : Nat -> Heap -> Prop} {R : Heap -> Prop} (K : IterOk o it T P R) {st₁ st₂ : St} {s₁ s₂ : Shared} {F : Addr -> Prop} {i : Nat} (x : Step o.P F st₁ s₁ st₂ s₂) (H : Holds o.P st₁ s₁.heap) (hF : ¬ F it) (hp : P i s₁.heap) : P i s₂.heap := by
 obtain ⟨ob, vs, e1, e2, _⟩ := K.ex i _ hp
 obtain ⟨o', h1, k1⟩ := x.ext it ob hF ((K.free hp).stn H) e1
 rw [k1.eq (by rw [e2]; intro q; cases q; exact K.nf rfl)] at h1
 exact K.p i _ _ hp (h1.trans e1.symm)
theorem IterOk.stepI {it : Addr} {T : String} {P : Nat -> Heap -> Prop} {R : Heap -> Prop} (K : IterOk o it T P R) {st : St} {s : Shared} {h' : Heap} {t i : Nat} (H : Holds o.P st s.heap) (hp : P i s.heap) (hp' : P (i + 1) h') (hs : Heap.SameBut it s.heap h') : Step o.P (fun b => b = it) st s st { s with heap := h', toks := t } :=
 Step.free H (K.free hp) hs.extBut fun ob' hob' => by
  obtain ⟨ob1, vs1, g1, g2, g3⟩ := K.ex _ _ hp
  obtain ⟨ob, vs, e1, e2, e3⟩ := K.ex _ _ hp'
  rw [g1] at hob'; cases hob'
  exact ⟨ob, e1, e2.trans g2.symm, fun ⟨_, _, q⟩ => (by rw [g3] at q; cases q), fun ⟨_, q⟩ => (by rw [g3] at q; cases q)⟩
theorem IterOk.plain {it : Addr} {T : String} {P : Nat -> Heap -> Prop} {R : Heap -> Prop} (K : IterOk o it T P R) {target : Expr} {v : Value} {M : Model} {A : Around} {E : Value -> Shared -> Prop} {s : Shared} {Q : Unit -> Shared -> Prop} {i : Nat} (hT : ["enumerate", "zip", "dict_itemiterator", "dict_reverseitemiterator", "odict_iterator", "itertools.zip_longest", "itertools.pairwise"].contains T = false) (hp : P i s.heap) (h : Q () s) : wpAny M A (letOwnedTupleGo target (.ref it) v) Q E s := by
 obtain ⟨ob, vs, e1, e2, _⟩ := K.ex _ _ hp
 exact letOwned_plain e1 e2 hT h
inductive FLoop (o : Wo) (P : Nat -> Heap -> Prop) (R : Heap -> Prop) (c : Cx) (st₀ : St) (s₀ : Shared) (xs : List V) (J : Nat -> LocF -> St -> Prop) (n : Nat) (s : Shared) : Prop
 | mk {i : Nat} {loc : LocF} {st : St} : n = xs.length - i -> i <= xs.length -> J i loc st -> P i s.heap -> R s.heap -> Step o.P (own c) st₀ s₀ st s -> Inv o c loc st s -> FLoop o P R c st₀ s₀ xs J n s
theorem for_coreG {X : Exc -> St -> Prop} {target : Expr} {body : List Stmt} {it : Addr} {xs : List V} {T : String} {P : Nat -> Heap -> Prop} {R : Heap -> Prop} {J : Nat -> LocF -> St -> Prop} {s₀ s : Shared} {E : Value -> Shared -> Prop}
 (hfresh : s₀.heap.get? it = none) (H₀ : SI o c.k st s₀) (S : Step o.P (own c) st s₀ st s) (I : Inv o c loc st s)
 (hP : ∀ i h h', P i h -> h'.get? it = h.get? it -> P i h')
 (hPex : ∀ i h, P i h -> ∃ ob vs, h.get? it = some ob /\ ob.cls = .type T /\ ob.data = .fields vs)
 (hT : ["enumerate", "zip", "dict_itemiterator", "dict_reverseitemiterator", "odict_iterator", "itertools.zip_longest", "itertools.pairwise"].contains T = false) (hTf : T ≠ "frame") (hTr : T ≠ "range")
 (hR : ∀ {D : Addr -> Prop} {st : St} {h h' : Heap}, DOk D h -> KpD D h h' -> R h -> R h')
 (hItem : ∀ i x loc' st' (s : Shared) Q, xs[i]? = some x -> J i loc' st' -> SI o c.k st' s -> R s.heap -> P i s.heap -> (∀ h' va t, P (i + 1) h' -> Heap.SameBut it s.heap h' -> VR s.heap x va -> Q (some va) { s with heap := h', toks := t }) -> wpAny o.M c.k.A (pyNext (.ref it)) Q E s)
 (hEnd : ∀ loc' st' (s : Shared) Q, J xs.length loc' st' -> SI o c.k st' s -> R s.heap -> P xs.length s.heap -> (∀ h', Heap.ExtBut it s.heap h' -> Q none { s with heap := h' }) -> wpAny o.M c.k.A (pyNext (.ref it)) Q E s)
 (h0 : P 0 s.heap) (hR0 : R s.heap) (hJ0 : J 0 loc st)
 (turn : ∀ i x loc st, xs[i]? = some x -> J i loc st -> ASG o c loc st target x (fun loc₁ st₁ => EXS o c loc₁ st₁ body (fun fl loc₂ st₂ => match fl with
  | .next | .cont => J (i + 1) loc₂ st₂
  | .brk => QF .next loc₂ st₂
  | .ret v => QF (.ret v) loc₂ st₂) X) (fun _ _ => False))
 (fin : ∀ loc st, J xs.length loc st -> QF .next loc st) {R' : Result -> Shared -> Prop}
 (hr : ∀ f s', PF o c st s₀ QF f s' -> R' (.ok f) s') (hx : ∀ loc₂ st₂ s₂ ev s₃, Step o.P (own c) st s₀ st₂ s₂ -> Inv o c loc₂ st₂ s₂ -> PXO o c st₂ s₂ X ev s₃ -> E ev s₃) (hE : E = notedBy o.M c.k.A c.env fun e s' => R' (.error e) s') :
 codeAny o.M c.k.A (.forLoop target (.ref it) body [] c.env) R' s := by
 have noX : ∀ {F : Addr -> Prop} {G : Heap -> Prop} {fl : Option Addr} {st₁ : St} {s₁ : Shared} {e : Value} {s₂ : Shared} {Z : Prop}, PXg o F G fl st₁ s₁ (fun _ _ => False) e s₂ -> Z := fun ⟨_, _, _, _, _, _, _, q⟩ => q.elim
 have K : IterOk o it T P R := ⟨fun q => nsome (In.ex H₀.wd q) hfresh, hP, hPex, hTf, hTr, fun D K => hR (st := st) D K⟩
 clear hP hPex hTf hTr hR
 refine codeAny_forLoop_any (FLoop o P R c st s₀ xs J) (fun n s' h => ?_) xs.length ⟨rfl, Nat.zero_le _, hJ0, h0, hR0, S, I⟩
 subst hE
 obtain ⟨hn, hi, hJ, hp, hr', S', I'⟩ := h
 rename_i i loc' st'
 subst hn
 have fr := K.free hp
 have fr' : ∀ a, a = it -> FreeRec o s'.heap a := fun a q => q ▸ fr
 cases hxx : xs[i]? with
 | none =>
  have hil : i = xs.length := Nat.le_antisymm hi (List.getElem?_eq_none_iff.mp hxx)
  refine hEnd loc' st' s' _ (hil ▸ hJ) I'.si hr' (hil ▸ hp) fun h' he => ?_
  refine wpAny_execs_nil (hr _ _ ⟨.next, loc', st', .next, Step.lost (t := s'.toks) S' fr hfresh he, ?_, fin _ _ (hil ▸ hJ)⟩)
  exact LocR.keepD (D := fun b => st' b ≠ none \/ b = it) I' (DOk.free I'.si.hs fr') (fun b ob hb hob => ⟨ob, he b ob (fun q => hb (.inr q)) hob, .refl ob⟩) fun a ha q => q.elim (fun q => q (I'.ost a ha)) fun q => fr.nown I' (q ▸ ha)
 | some x =>
  have hlt : i < xs.length := (List.getElem?_eq_some_iff.mp hxx).1
  refine hItem i x loc' st' s' _ hxx hJ I'.si hr' hp fun h' va t hp' hs' rv => ?_
  have S1 := K.stepI (t := t) I'.si.hs hp hp' hs'
  have I1 := I'.stepG fr' S1
  refine K.plain (s := { s' with heap := h', toks := t }) hT hp' ?_
  have S01 : Step o.P (own c) st s₀ st' { s' with heap := h', toks := t } := S'.absorbF S1 fun a (q : a = it) => .inr (q ▸ hfresh)
  refine wpAny_mono (turn i x loc' st' hxx hJ _ va I1 (VR.stepG I'.si.hs fr' S1 rv)) (fun _ s₂ p => ?_) fun _ _ p => noX p
  obtain ⟨loc₂, st₂, S₂, L₂, q₂⟩ := p
  have I₂ := I1.stepF S₂ L₂
  refine wpAny_mono (q₂ s₂ I₂) (fun f s₃ p => ?_) fun ev s₃ p => hx _ _ _ _ _ (S01.trans S₂) I₂ p
  obtain ⟨fl, loc₃, st₃, frr, S₃, L₃, q₃⟩ := p
  have go : ∀ {lx : LocF}, J (i + 1) loc₃ st₃ -> FLoop o P R c st s₀ xs J (xs.length - (i + 1)) s₃ := fun {_} q => by
   have S23 := S₂.trans S₃
   exact ⟨rfl, hlt, q, K.keep S23 I1.si.hs (fun q => (K.free (h := h') hp').nown I1 q) hp', K.r (DOk.own I1) S23.kpd (K.r (DOk.free I'.si.hs fr') S1.kpd hr'), S01.trans S23, I₂.stepF S₃ L₃⟩
  cases frr with
  | next => exact ⟨_, Nat.sub_lt_sub_left hlt (Nat.lt_succ_self i), go (lx := loc) q₃⟩
  | cont => exact ⟨_, Nat.sub_lt_sub_left hlt (Nat.lt_succ_self i), go (lx := loc) q₃⟩
  | brk => exact hr _ _ ⟨_, _, _, .next, S01.trans (S₂.trans S₃), L₃, q₃⟩
  | ret r => exact hr _ _ ⟨_, _, _, .ret r, S01.trans (S₂.trans S₃), L₃, q₃⟩
theorem for_core {target : Expr} {body : List Stmt} {it : Addr} {xs : List V} {T : String} {P : Nat -> Heap -> Prop} {R : Heap -> Prop} {J : Nat -> LocF -> St -> Prop} {s₀ s : Shared} {E : Value -> Shared -> Prop}
 (hfresh : s₀.heap.get? it = none) (H₀ : SI o c.k st s₀) (S : Step o.P (own c) st s₀ st s) (I : Inv o c loc st s)
 (hP : ∀ i h h', P i h -> h'.get? it = h.get? it -> P i h')
 (hPex : ∀ i h, P i h -> ∃ ob vs, h.get? it = some ob /\ ob.cls = .type T /\ ob.data = .fields vs)
 (hT : ["enumerate", "zip", "dict_itemiterator", "dict_reverseitemiterator", "odict_iterator", "itertools.zip_longest", "itertools.pairwise"].contains T = false) (hTf : T ≠ "frame") (hTr : T ≠ "range")
 (hR : ∀ {D : Addr -> Prop} {st : St} {h h' : Heap}, DOk D h -> KpD D h h' -> R h -> R h')
 (hItem : ∀ i x loc' st' (s : Shared) Q, xs[i]? = some x -> J i loc' st' -> SI o c.k st' s -> R s.heap -> P i s.heap -> (∀ h' va t, P (i + 1) h' -> Heap.SameBut it s.heap h' -> VR s.heap x va -> Q (some va) { s with heap := h', toks := t }) -> wpAny o.M c.k.A (pyNext (.ref it)) Q E s)
 (hEnd : ∀ loc' st' (s : Shared) Q, J xs.length loc' st' -> SI o c.k st' s -> R s.heap -> P xs.length s.heap -> (∀ h', Heap.ExtBut it s.heap h' -> Q none { s with heap := h' }) -> wpAny o.M c.k.A (pyNext (.ref it)) Q E s)
 (h0 : P 0 s.heap) (hR0 : R s.heap) (hJ0 : J 0 loc st)
 (turn : ∀ i x loc st, xs[i]? = some x -> J i loc st -> ASG o c loc st target x (fun loc₁ st₁ => EXS o c loc₁ st₁ body (fun fl loc₂ st₂ => match fl with
  | .next | .cont => J (i + 1) loc₂ st₂
  | .brk => QF .next loc₂ st₂
  | .ret v => QF (.ret v) loc₂ st₂) (fun _ _ => False)) (fun _ _ => False))
 (fin : ∀ loc st, J xs.length loc st -> QF .next loc st) {R' : Result -> Shared -> Prop}
 (hr : ∀ f s', PF o c st s₀ QF f s' -> R' (.ok f) s') (hE : E = notedBy o.M c.k.A c.env fun e s' => R' (.error e) s') :
 codeAny o.M c.k.A (.forLoop target (.ref it) body [] c.env) R' s :=
 for_coreG hfresh H₀ S I hP hPex hT hTf hTr @hR hItem hEnd h0 hR0 hJ0 turn fin hr (fun _ _ _ _ _ _ _ ⟨_, _, _, _, _, _, _, q⟩ => q.elim) hE
end
noncomputable def plainE : Expr -> Bool
 | .Starred .. => false
 | _ => true
theorem starEach_plain {e : Expr} {rest : List Expr} {env : Env} (h : plainE e = true) : starEach (e :: rest) env = (false, eval e env) :: starEach rest env := by
 cases e <;> first | rfl | cases h
theorem backTo_plain {env : Env} {pos : Pos} : ∀ {args : List Expr}, args.all plainE = true -> (backTo pos (starEach args env)).any (·.1) = false
 | [], _ => rfl
 | e :: rest, h => by
  simp only [List.all_cons, Bool.and_eq_true] at h
  rw [starEach_plain h.1]
  show (false || (backTo pos (starEach rest env)).any (·.1)) = false
  rw [backTo_plain h.2]; rfl
noncomputable def keepB (K : Frag) : Value -> Bool
 | .builtin _ => true
 | .type _ => true
 | f => keepIn K f
theorem keepB_ok {K : Frag} {M : Model} {f : Value} (hk : keepB K f = true) (h : Heap) (X : K.In h) : ∃ k, (k = Keeper.frame \/ k = Keeper.machine \/ k = Keeper.boundFrame) /\ Looks M h (keeperOf f) k := by
 cases f with
 | builtin i => exact ⟨.machine, .inr (.inl rfl), Looks.of_pure rfl⟩
 | type i => exact ⟨.machine, .inr (.inl rfl), Looks.of_pure rfl⟩
 | ref a => exact keeps_K (show keepIn K (.ref a) = true from hk) h X
 | _ => cases hk
section
variable {o : Wo} [W : WoOk o] {c : Cx} {k : Kx} {loc : LocF} {st : St} {Q : V -> St -> Prop} {X : Exc -> St -> Prop} {QB : Bool -> St -> Prop} {QF : Fl -> LocF -> St -> Prop} {QL : LocF -> St -> Prop} {QS : List V -> St -> Prop}
theorem evs_nil {pos : Pos} (h : QS [] st) : EVs o c loc st pos [] QS X := fun s I => spliced_nil ⟨[], st, .nil, Step.refl I.si.hs, h⟩
theorem evs_cons {pos : Pos} {e : Expr} {es : List Expr} (h : EV o c loc st e (fun v st₁ => EVs o c loc st₁ pos es (fun vs st₂ => QS (v :: vs) st₂) X) X) (he : plainE e = true := by rfl) : EVs o c loc st pos (e :: es) QS X := fun s I => by
 rw [starEach_plain he]
 refine spliced_cons (h.use I fun v st₁ va s₁ q S I₁ r => px S (wpAny_mono (q s₁ I₁) (fun vs s₂ p => ?_) fun _ _ p => p))
 obtain ⟨rs, st₂, rr, S₂, q₂⟩ := p
 exact ⟨v :: rs, st₂, .cons (r.keep I₁.si.hs S₂.kp) rr, S.trans S₂, q₂⟩
theorem ev_tuple {es : List Expr} {x1} {pos : Pos} (h : EVs o c loc st pos es (fun vs st₁ => vs.length <= sizeLine /\ Q (.tup vs) st₁) X) : EV o c loc st (.Tuple es x1 pos) Q X := fun s I =>
 wpAny_Tuple_spliced (wpAny_mono (h s I) (fun vs s₁ ⟨rs, st₁, rr, S, hl, q⟩ => by
  have I₁ := I.step S
  exact ⟨by rw [<- rr.length]; exact hl, .tup rs, st₁, .tup (IsT.new _ _) (rr.keep I₁.si.hs (Kp.push _)), S.trans (Step.push I₁.si.hs _ s₁.toks), q⟩) fun _ _ p => p)
theorem ev_list {es : List Expr} {pos : Pos} (h : EVs o c loc st pos es (fun vs st₁ => vs.length <= sizeLine /\ ∀ a, st₁ a = none -> Q (.ptr a) (st₁.set a (.lst vs))) X) : EV o c loc st (.List es pos) Q X := fun s I =>
 wpAny_List_spliced (wpAny_mono (h s I) (fun vs s₁ ⟨rs, st₁, rr, S, hl, q⟩ => by
  have I₁ := I.step S
  exact ⟨by rw [<- rr.length]; exact hl, .ptr _, _, .ptr _, S.trans (Step.alloc I₁.si.hs _ (.lst rs) rfl (.lst rr) s₁.toks), q _ (size_none I₁.si.hs)⟩) fun _ _ p => p)
theorem callWith_R {pos : Pos} {f : Value} {first : List Value} {fv : List V} {args : List Expr} (hk : keepB o.K f = true) (hp : args.all plainE = true) (h : EVs o c loc st pos args (fun vs st₁ => CALL o c.k st₁ f (fv ++ vs) Q X) X) {s : Shared} (I : Inv o c loc st s) (r : VRs s.heap fv first) :
 wpAny o.M c.k.A (callWith pos f first (backTo pos (starEach args c.env)) []) (PV o st s Q) (PX o noF st s X) s := by
 refine callWith_of (P := o.K.In) (by rw [backTo_plain hp]; rfl) (keepB_ok hk) ?_
 have key : wpAny o.M c.k.A (spliced (backTo pos (starEach args c.env))) (fun vs s₁ => o.K.In s₁.heap /\ wpAny o.M c.k.A (call f (first ++ vs) []) (PV o st s Q) (PX o noF st s X) s₁) (PX o noF st s X) s := by
  refine wpAny_mono (h s I) (fun vs s₁ ⟨rs, st₁, rr, S, q⟩ => ?_) fun _ _ p => p
  have I₁ := I.step S
  exact ⟨I₁.si.wd.k, px S (wpAny_mono (q s₁ _ I₁.si ((r.keep I.si.hs S.kp).append rr)) (fun _ _ p => p.trans S) fun _ _ p => p)⟩
 cases args with
 | nil =>
  unfold evalArgs
  show wpAny _ _ (spliced [] >>= _) _ _ s
  refine wpAny_bind (wpAny_mono key (fun vs s' h' => ?_) fun _ _ p => p)
  refine wpAny_holding ?_
  exact wpAny_bind (wpAny_pure (wpAny_bind (wpAny_pure (wpAny_pure h'))))
 | cons e es =>
  simp only [List.all_cons, Bool.and_eq_true] at hp
  rw [starEach_plain hp.1] at key ⊢
  exact evalArgs_plain key
theorem ev_call {x : Str} {np pos : Pos} {f : Value} {args : List Expr} (hf : EV o c loc st (.Name x np) (fun v st₁ => v = .raw f /\ st₁ = st) X) (hk : keepB o.K f = true) (h : EVs o c loc st pos args (fun vs st₁ => CALL o c.k st₁ f vs Q X) X) (hp : args.all plainE = true := by rfl) :
 EV o c loc st (.Call (.Name x np) args [] pos) Q X := fun s I => by
 refine wpAny_Call_ofName (hf.use I fun v st₁ va s₁ q S I₁ r => ?_)
 obtain ⟨rfl, rfl⟩ := q
 cases r
 exact px S (wpAny_mono (callWith_R (fv := []) hk hp h I₁ .nil) (fun _ _ p => p.trans S) fun _ _ p => p)
noncomputable def METH (o : Wo) (k : Kx) (st : St) (a : V) (name : Str) (f : Value) : Prop :=
 ∀ s va pl, SI o k st s -> VR s.heap a va -> wpAny o.M k.A (getMethod va name pl) (fun r s' => r = (f, [va]) /\ ∃ t, s' = { s with toks := t }) (fun _ _ => False) s
theorem ev_meth {e : Expr} {name : Str} {apos pos : Pos} {args : List Expr} (he : ∀ env, ∃ pl, eval (.Call (.Attribute e name apos) args [] pos) env = (do
 let ov <- eval e env
 standAt apos.atName
 let (f, first) <- holding [ov] (getMethod ov name pl)
 callWith pos f first (backTo pos (starEach args env)) (backToKw pos (keywordEach [] env))))
 (h : EV o c loc st e (fun a st₁ => ∃ f, METH o c.k st₁ a name f /\ keepB o.K f = true /\ EVs o c loc st₁ pos args (fun vs st₂ => CALL o c.k st₂ f (a :: vs) Q X) X) X) (hp : args.all plainE = true := by rfl) :
 EV o c loc st (.Call (.Attribute e name apos) args [] pos) Q X := fun s I => by
 obtain ⟨pl, he⟩ := he c.env
 refine methodCall_KW (h.use I fun a st₁ va s₁ q S I₁ r => ?_) he
 obtain ⟨f, hm, hk, hq⟩ := q
 refine px S (wpAny_mono (hm s₁ va pl I₁.si r) (fun fx s₂ p => ?_) fun _ _ p => p.elim)
 obtain ⟨rfl, t, rfl⟩ := p
 have S₂ : Step o.P noF st₁ s₁ st₁ { s₁ with toks := t } := Step.toks I₁.si.hs t
 have I₂ := I₁.step S₂
 exact px (S.trans S₂) (wpAny_mono (callWith_R (fv := [a]) hk hp hq I₂ (.cons r .nil)) (fun _ _ p => p.trans (S.trans S₂)) fun _ _ p => p)
noncomputable def FORV (o : Wo) (c : Cx) (loc : LocF) (st : St) (v : V) (target : Expr) (body : List Stmt) (QF : Fl -> LocF -> St -> Prop) : Prop :=
 ∀ s va E' R', Inv o c loc st s -> VR s.heap v va -> (∀ f s', PF o c st s QF f s' -> R' (.ok f) s') -> wpAny o.M c.k.A (pyIter va) (fun it s₂ => codeAny o.M c.k.A (.forLoop target it body [] c.env) R' s₂) E' s
theorem ex_for {target iter : Expr} {body : List Stmt} {pos : Pos} (hs : ∀ env x, foldedSetIterable iter env x = pure x) (h : EV o c loc st iter (fun v st₁ => FORV o c loc st₁ v target body QF) X) : EX o c loc st (.For target iter body [] pos) QF X := fun s I => by
 refine wpAny_For (pxw I (h.use I fun v st₁ va s₁ q S I₁ r => q s₁ va _ _ I₁ r fun f s' p => ?_)) (hs _)
 exact p.trans S.weak
noncomputable def Turn (o : Wo) (c : Cx) (target : Expr) (body : List Stmt) (xs : List V) (J : Nat -> LocF -> St -> Prop) (QF : Fl -> LocF -> St -> Prop) : Prop :=
 ∀ i x loc st, xs[i]? = some x -> J i loc st -> ASG o c loc st target x (fun loc₁ st₁ => EXS o c loc₁ st₁ body (fun fl loc₂ st₂ => match fl with
  | .next | .cont => J (i + 1) loc₂ st₂
  | .brk => QF .next loc₂ st₂
  | .ret v => QF (.ret v) loc₂ st₂) (fun _ _ => False)) (fun _ _ => False)
theorem forv_list {l : Addr} {xs : List V} {target : Expr} {body : List Stmt} (J : Nat -> LocF -> St -> Prop) (hJ : ∀ i loc st, J i loc st -> st l = some (.lst xs)) (h0 : J 0 loc st) (turn : Turn o c target body xs J QF) (fin : ∀ loc st, J xs.length loc st -> QF .next loc st) :
 FORV o c loc st (.ptr l) target body QF := fun s va E' R' I r hr => by
 cases r
 obtain ⟨ws, n, h1, rr⟩ := lst_of (I.si.hs l _ (hJ _ _ _ h0))
 refine wpAny_pyIter_list ⟨_, h1, rfl, _, rfl⟩ ?_
 have S : Step o.P (own c) st s st { s with heap := s.heap.push { cls := .type "list_iterator", data := .fields #[.ref l, .int 0 0] } } := Step.push I.si.hs _ s.toks
 refine for_core (T := "list_iterator") (xs := xs) (P := fun i h => h.IsListIter s.heap.objs.size l i) (R := fun _ => True) (J := J) (Heap.get?_none_of_le (Nat.le_refl _)) I.si S ?_
  (fun i h h' ⟨ob, p1, p2⟩ e => ⟨ob, e.trans p1, p2⟩) (fun i h ⟨ob, p1, p2, p3⟩ => ⟨_, _, p1, p2, p3⟩) (by decide) (by decide) (by decide) (fun _ _ _ => trivial) ?_ ?_ ⟨_, Heap.get?_push_size _ rfl, rfl, rfl⟩ trivial h0 turn fin hr rfl
 . exact I.step (Step.push I.si.hs _ s.toks)
 . intro i x loc' st' s' Q' hx hj S' _ hp hq
   obtain ⟨ws', n', h1', rr'⟩ := lst_of (S'.hs l _ (hJ _ _ _ hj))
   obtain ⟨v, hv, rv⟩ := rr'.get hx
   exact wpAny_pyNext_list_item hp ⟨_, h1', rfl, _, rfl⟩ (x := v) (by simpa using hv) fun h' hit hsb => hq h' v s'.toks hit hsb rv
 . intro loc' st' s' Q' hj S' _ hp hq
   obtain ⟨ws', n', h1', rr'⟩ := lst_of (S'.hs l _ (hJ _ _ _ hj))
   exact wpAny_pyNext_list_end S'.ok.handled hp ⟨_, h1', rfl, _, rfl⟩ (by simp [rr'.length]) hq
theorem forv_tup {xs : List V} {target : Expr} {body : List Stmt} (J : Nat -> LocF -> St -> Prop) (h0 : J 0 loc st) (turn : Turn o c target body xs J QF) (fin : ∀ loc st, J xs.length loc st -> QF .next loc st) :
 FORV o c loc st (.tup xs) target body QF := fun s va E' R' I r hr => by
 cases r with
 | tup ht rr =>
 rename_i ws a n
 have tt : s.heap.IsTuple a ws.toArray := ⟨_, ht, rfl, _, rfl⟩
 refine wpAny_pyIter_tuple tt ?_
 have S : Step o.P (own c) st s st { s with heap := s.heap.push { cls := .type "tuple_iterator", data := .fields #[.ref a, .int 0 0] } } := Step.push I.si.hs _ s.toks
 have ex : ∀ {h : Heap}, (∃ ws n, IsT h a ws.toArray n /\ VRs h xs ws) -> ∃ ws, h.IsTuple a ws.toArray /\ VRs h xs ws := fun ⟨ws, n, h1, h2⟩ => ⟨ws, ⟨_, h1, rfl, _, rfl⟩, h2⟩
 refine for_core (T := "tuple_iterator") (xs := xs) (P := fun i h => h.IsTupleIter s.heap.objs.size a i) (R := fun h => ∃ ws n, IsT h a ws.toArray n /\ VRs h xs ws) (J := J) (Heap.get?_none_of_le (Nat.le_refl _)) I.si S ?_
  (fun i h h' ⟨ob, p1, p2⟩ e => ⟨ob, e.trans p1, p2⟩) (fun i h ⟨ob, p1, p2, p3⟩ => ⟨_, _, p1, p2, p3⟩) (by decide) (by decide) (by decide) (fun D K ⟨ws, n, h1, h2⟩ => ⟨ws, n, (KpV.of D K).tup _ _ _ h1, h2.keepD D K⟩) ?_ ?_ ⟨_, Heap.get?_push_size _ rfl, rfl, rfl⟩
  ⟨ws, n, Heap.get?_push_of_some _ ht, rr.keep I.si.hs (Kp.push _)⟩ h0 turn fin hr rfl
 . exact I.step (Step.push I.si.hs _ s.toks)
 . intro i x loc' st' s' Q' hx hj S' hR hp hq
   obtain ⟨ws', ht', rr'⟩ := ex hR
   obtain ⟨v, hv, rv⟩ := rr'.get hx
   exact wpAny_pyNext_tuple_item hp ht' (x := v) (by simpa using hv) fun h' hit hsb => hq h' v s'.toks hit hsb rv
 . intro loc' st' s' Q' hj S' hR hp hq
   obtain ⟨ws', ht', rr'⟩ := ex hR
   exact wpAny_pyNext_tuple_end S'.ok.handled hp ht' (by simp [rr'.length]) hq
noncomputable def rngV (lo hi : Int) : List V := (List.range (hi - lo).toNat).map fun (i : Nat) => V.int (lo + (i : Int))
theorem rngV_get {lo hi : Int} {i : Nat} {x : V} (h : (rngV lo hi)[i]? = some x) : x = .int (lo + i) /\ i < (hi - lo).toNat := by
 unfold rngV at h
 rw [List.getElem?_map] at h
 by_cases q : i < (hi - lo).toNat
 . rw [List.getElem?_range q] at h; simp at h; exact ⟨h.symm, q⟩
 . rw [List.getElem?_eq_none (by simpa using q)] at h; simp at h
theorem rngV_length {lo hi : Int} : (rngV lo hi).length = (hi - lo).toNat := by simp [rngV]
theorem forv_rng {lo hi : Int} {target : Expr} {body : List Stmt} (J : Nat -> LocF -> St -> Prop) (hb : -(2 ^ 62) <= lo /\ lo < 2 ^ 62 /\ -(2 ^ 62) <= hi /\ hi < 2 ^ 62) (h0 : J 0 loc st) (turn : Turn o c target body (rngV lo hi) J QF) (fin : ∀ loc st, J (hi - lo).toNat loc st -> QF .next loc st) :
 FORV o c loc st (.rng lo hi) target body QF := fun s va E' R' I r hr => by
 cases r with
 | rng ht =>
 refine wpAny_pyIter_range ht (small_one hb.1 hb.2.1 hb.2.2.1 hb.2.2.2) ?_
 have hsz : Builtin.Range.rangeSize lo hi 1 = ((hi - lo).toNat : Int) := by rw [rangeSize_one]; split <;> (first | lia | omega)
 rw [hsz]
 have S : Step o.P (own c) st s st { s with heap := s.heap.push { cls := .type "range_iterator", data := .fields #[rawInt lo, rawInt ((hi - lo).toNat : Int), rawInt 1] } } := Step.push I.si.hs _ s.toks
 refine for_core (T := "range_iterator") (xs := rngV lo hi) (P := fun i h => IsRangeIter h s.heap.objs.size (lo + (i : Nat)) (((hi - lo).toNat : Int) - (i : Nat)) 1) (R := fun h => True) (J := J) (Heap.get?_none_of_le (Nat.le_refl _)) I.si S ?_
  (fun i h h' p e => e.trans p) (fun i h p => ⟨_, _, p, rfl, rfl⟩) (by decide) (by decide) (by decide) (fun _ _ _ => trivial) ?_ ?_ (by
   have := Heap.get?_push_size s.heap (o := { cls := .type "range_iterator", data := .fields #[rawInt lo, rawInt ((hi - lo).toNat : Int), rawInt 1] }) rfl
   simpa using this)
  trivial h0 turn (by rw [rngV_length]; exact fin) hr rfl
 . exact I.step (Step.push I.si.hs _ s.toks)
 . intro i x loc' st' s' Q' hx hj S' hR hp hq
   obtain ⟨rfl, hi'⟩ := rngV_get hx
   refine wpAny_pyNext_range_item hp (by (first | lia | omega)) fun h' hit hsb => hq h' _ _ ?_ hsb (.int _ _)
   have e1 : lo + ((i + 1 : Nat) : Int) = lo + (i : Int) + 1 := by (first | lia | omega)
   have e2 : ((hi - lo).toNat : Int) - ((i + 1 : Nat) : Int) = ((hi - lo).toNat : Int) - (i : Int) - 1 := by (first | lia | omega)
   show IsRangeIter _ _ _ _ _
   rw [e1, e2]; exact hit
 . intro loc' st' s' Q' hj S' hR hp hq
   rw [rngV_length] at hp
   exact wpAny_pyNext_range_end S'.ok.handled hp (by (first | lia | omega)) hq
theorem call_rng1 {n : Int} (h : Q (.rng 0 n) st) : CALL o k st (.type "range") [.int n] Q X := fun s vs S r => by
 cases r.inv1 with
 | mk r1 =>
 cases r1
 exact call_range_1 ⟨.rng 0 n, st, .rng (Heap.get?_push_size _ rfl), Step.push S.hs _ _, h⟩
end
noncomputable def sput (name : Str) (x : V) : List (Str × V) -> List (Str × V)
 | [] => [(name, x)]
 | (k, y) :: r => if k == name then (k, x) :: r else (k, y) :: sput name x r
noncomputable def sget (name : Str) : List (Str × V) -> Option V
 | [] => none
 | (k, y) :: r => if k == name then some y else sget name r
section
variable {P : Params} {h : Heap}
theorem getL_cons {name k : Str} {hh : Int} {t : Tok} {v : Value} {es : List DictEntry} : getL name (⟨hh, .str k t, v⟩ :: es) = if k == name then some (some v) else getL name es := by
 unfold getL
 rw [List.find?_cons, List.any_cons]
 have e1 : (⟨hh, .str k t, v⟩ : DictEntry).key.isStr name = (k == name) := rfl
 have e2 : (⟨hh, .str k t, v⟩ : DictEntry).refKey = false := rfl
 rw [e1, e2, Bool.false_or]
 cases k == name <;> rfl
theorem SEs.get {name : Str} {x : V} : ∀ {l : List (Str × V)} {es : List DictEntry}, SEs P h l es -> sget name l = some x -> ∃ v, getL name es = some (some v) /\ VR h x v
 | _, _, .nil, e => by cases e
 | _, _, .cons (k := k) (x := y) (l := l) (t := t) (v := v) (es := es) a r, e => by
  unfold sget at e
  rw [getL_cons]
  cases hb : k == name with
  | true => rw [hb] at e; cases e; exact ⟨v, rfl, a⟩
  | false => rw [hb] at e; exact SEs.get r e
theorem SEs.noRef : ∀ {l : List (Str × V)} {es : List DictEntry}, SEs P h l es -> es.any (·.refKey) = false
 | _, _, .nil => rfl
 | _, _, .cons a r => by rw [List.any_cons, SEs.noRef r]; rfl
theorem SEs.miss {name : Str} : ∀ {l : List (Str × V)} {es : List DictEntry}, SEs P h l es -> sget name l = none -> getL name es = some none
 | _, _, .nil, _ => rfl
 | _, _, .cons (k := k) (x := y) (l := l) (t := t) (v := v) (es := es) a r, e => by
  unfold sget at e
  rw [getL_cons]
  cases hb : k == name with
  | true => rw [hb] at e; cases e
  | false => rw [hb] at e; exact SEs.miss r e
theorem SEs.put {name : Str} {x : V} {v : Value} {t : Tok} (rx : VR h x v) : ∀ {l : List (Str × V)} {es : List DictEntry}, SEs P h l es -> SEs P h (sput name x l) (putL name (PyData.keyHash P name) (.str name t) v es)
 | _, _, .nil => .cons rx .nil
 | _, _, .cons (k := k) (x := y) (l := l) (t := t') (v := w) (es := es) a r => by
  unfold sput putL
  show SEs P h _ (if (k == name) then _ else _)
  cases hb : k == name with
  | true => exact .cons rx r
  | false => exact .cons a (SEs.put rx r)
theorem SEs.len : ∀ {l : List (Str × V)} {es : List DictEntry}, SEs P h l es -> es.length = l.length
 | _, _, .nil => rfl
 | _, _, .cons a r => by simp [SEs.len r]
end
noncomputable def getOk (K : Frag) (C : Addr) (name : Str) : Bool := plainGet K C name && hasDictIn K C && (match findIn K (.ref C) name with | some attr => noGet K attr | none => false)
noncomputable def methOk (K : Frag) (C : Addr) (name : Str) (f : Addr) : Bool := plainGet K C name && findIn K (.ref C) name == some (some (.ref f)) && isFn K (.ref f)
noncomputable def setOk (K : Frag) (C : Addr) (name : Str) : Bool := findIn K (.ref C) "__setattr__" == some (some (.builtin "object.__setattr__")) && plainOver K C && takerIn K C name == some none && hasDictIn K C
noncomputable def V.plain : V -> Bool
 | .raw _ => false
 | _ => true
theorem VR.handed {h : Heap} {x : V} {v : Value} (r : VR h x v) (hp : x.plain = true) : handedIn v = true := by
 cases r <;> first | rfl | cases hp
section
variable {o : Wo} [W : WoOk o] {c : Cx} {k : Kx} {loc : LocF} {st : St} {Q : V -> St -> Prop} {X : Exc -> St -> Prop} {QF : Fl -> LocF -> St -> Prop} {QL : LocF -> St -> Prop}
noncomputable def ATT (o : Wo) (k : Kx) (st : St) (a : V) (name : Str) (Q : V -> St -> Prop) (X : Exc -> St -> Prop) : Prop :=
 ∀ s va, SI o k st s -> VR s.heap a va -> wpAny o.M k.A (getAttr va name true) (PV o st s Q) (PX o noF st s X) s
theorem ev_attr {e : Expr} {name : Str} {pos : Pos} (he : ∀ env, attributeBase e name env (eval e env) = eval e env) (h : EV o c loc st e (fun a st₁ => ATT o c.k st₁ a name Q X) X) : EV o c loc st (.Attribute e name pos) Q X := fun s I => by
 rw [arm_eval_Attribute, he]
 refine wpAny_bind (h.use I fun a st₁ va s₁ q S I₁ r => wpAny_bind (wpAny_standAt (wpAny_bind (wpAny_holding (px S (wpAny_mono (q s₁ va I₁.si r) (fun v s₂ p => ?_) fun _ _ p => p))))))
 exact wpAny_bind (wpAny_letTemporaryGo (wpAny_pure (p.trans S)))
theorem inst_at {s : Shared} {a C dx : Addr} {va : Value} {l : List (Str × V)} (H : Holds o.P st s.heap) (hst : st dx = some (.sd l)) (r : VR s.heap (.obj a C dx) va) :
 ∃ ob es n, va = .ref a /\ InstAt s.heap a ob C (some (dictOf es n)) /\ SEs o.P s.heap l es /\ s.heap.get? dx = some (dictOf es n) /\ ob.dict = some dx := by
 cases r with
 | obj h1 h2 h3 h4 =>
 rename_i ob
 obtain ⟨_, _, h5, se⟩ := sd_of (H dx _ hst)
 exact ⟨ob, _, _, rfl, ⟨h1, h2, by unfold notCls; rw [h3], by rw [h4]; exact h5⟩, se, h5, h4⟩
theorem att_own {a C dx : Addr} {l : List (Str × V)} {name : Str} {x : V} (hst : st dx = some (.sd l)) (hl : sget name l = some x) (hx : x.plain = true) (hk : getOk o.K C name = true) (h : Q x st) : ATT o k st (.obj a C dx) name Q X := fun s va S r => by
 obtain ⟨ob, es, n, rfl, I, se, _, _⟩ := inst_at S.hs hst r
 obtain ⟨v, hg, rv⟩ := se.get hl
 unfold getOk at hk
 simp only [Bool.and_eq_true] at hk
 obtain ⟨⟨k1, k2⟩, k3⟩ := hk
 split at k3
 . rename_i attr ha
   exact get_value S.wd.k I (plainGet_of k1).1 (findObj_own k2 ha k3 hg) (rv.handed hx) ⟨x, st, rv, Step.toks S.hs _, h⟩
 . cases k3
theorem meth_own {a C dx f : Addr} {l : List (Str × V)} {name : Str} (hst : st dx = some (.sd l)) (hl : sget name l = none) (hk : methOk o.K C name f = true) : METH o k st (.obj a C dx) name (.ref f) := fun s va pl S r => by
 obtain ⟨ob, es, n, rfl, I, se, _, _⟩ := inst_at S.hs hst r
 unfold methOk at hk
 simp only [Bool.and_eq_true, beq_iff_eq] at hk
 obtain ⟨⟨k1, k2⟩, k3⟩ := hk
 exact method_fn S.wd.k I (plainGet_of k1).1 (plainGet_of k1).2 k2 (beq_iff_eq.mp k3) (by show (lookIn name (dictOf es n)).map _ = _; rw [lookIn_dict, se.miss hl]; rfl) ⟨rfl, s.toks, rfl⟩
theorem set_R {prog : Program} {w : World} {A : Around} {E : Value -> Shared -> Prop} {s : Shared} {K : Frag} {x C dx : Addr} {ox : Obj} {es : List DictEntry} {n : Nat} {name : Str} {v : Value} {Q : Unit -> Shared -> Prop}
 (X : K.In s.heap) (I : InstAt s.heap x ox C (some (dictOf es n))) (hd : ox.dict = some dx) (D : s.heap.get? dx = some (dictOf es n)) (hk : setOk K C name = true) (hn : es.any (·.refKey) = false) (hz : es.length <= 900)
 (h : ∀ t, Q () { s with heap := s.heap.update dx (Obj.putName name (PyData.keyHash w.params name) (.str name (s.toks + 1)) v), toks := t }) :
 wpAny (model prog w) A (setAttr (.ref x) name v) Q E s := by
 unfold setOk at hk
 simp only [Bool.and_eq_true, beq_iff_eq] at hk
 obtain ⟨⟨⟨k1, k2⟩, k3⟩, k4⟩ := hk
 refine set_plain X I k1 ?_
 refine osa_open (s := { s with toks := s.toks + 1 }) X I k2 k3 fun b => ?_
 obtain ⟨cd, hc, hd'⟩ := any_some k4
 have D' : (s.heap.update dx (Obj.putName name (PyData.keyHash w.params name) (.str name (s.toks + 1)) v)).get? dx = some (dictOf (putL name (PyData.keyHash w.params name) (.str name (s.toks + 1)) v es) (putN name es n)) :=
  (Heap.get?_update_self _ D (by rw [putName_dict]; rfl)).trans (by rw [putName_dict])
 obtain ⟨hx, hcl, hn', -⟩ := I
 obtain ⟨oc, odi, oda, osl⟩ := ox
 dsimp only at hcl hd
 subst hcl hd
 refine wpAny_bind (wpAny_pure (wpAny_bind (wpAny_bind (wpAny_loadPart hx (wpAny_bind (Looks.here (s := { s with toks := s.toks + 1 }) (looks_clsIn X hc) ?_))))))
 rw [hd']
 refine wpAny_pure (a := some dx) (wpAny_bind (wpAny_pure (wpAny_bind ?_)))
 unfold nsSet
 refine wpAny_bind (wpAny_bind (wpAny_askSetting (wpAny_pure (wpAny_bind (wpAny_mkText (wpAny_bind (wpAny_loadPart D ?_)))))))
 dsimp only
 have c : (!es.toArray.any (·.key.isStr name) && es.toArray.any (·.refKey)) = false := by
  rw [<- Array.any_toList, <- Array.any_toList, hn, Bool.and_false]
 rw [aRefKeyMayBeTheName_at, c]
 refine wpAny_updatePart D ?_
 have hlen : (putL name (PyData.keyHash w.params name) (.str name (s.toks + 1)) v es).length <= es.length + 1 := by
  clear D D' c hn hz
  induction es with
  | nil => simp [putL]
  | cons e r ih => unfold putL; split <;> simp; exact ih
 refine wpAny_bind (wpAny_lookBehind D' (pastItsLine_dict (by rw [List.size_toArray, sizeLine_eq]; (first | lia | omega))) ?_)
 exact wpAny_pure (h _)
noncomputable def SETA (o : Wo) (k : Kx) (st : St) (a : V) (name : Str) (v : V) (Q : St -> Prop) (X : Exc -> St -> Prop) : Prop :=
 ∀ s va u, SI o k st s -> VR s.heap a va -> VR s.heap v u -> wpAny o.M k.A (setAttr va name u) (fun _ s' => ∃ st', Step o.P noF st s st' s' /\ Q st') (PX o noF st s X) s
theorem seta_own {a C dx : Addr} {l : List (Str × V)} {name : Str} {v : V} {Q : St -> Prop} (hst : st dx = some (.sd l)) (hk : setOk o.K C name = true) (hz : l.length <= 900) (h : Q (st.set dx (.sd (sput name v l)))) : SETA o k st (.obj a C dx) name v Q X := fun s va u S r rv => by
 obtain ⟨ob, es, n, rfl, I, se, D, hd⟩ := inst_at S.hs hst r
 refine set_R S.wd.k I hd D hk se.noRef (by rw [se.len]; exact hz) fun t => ⟨_, ?_, h⟩
 refine Step.upd S.hs (by rw [hst]; simp) (Heap.SameBut.update ..) (Heap.get?_update_self _ D (by rw [putName_dict]; rfl)) (fun hh K => ?_) t
 rw [putName_dict]
 have : SEs o.P hh (sput name v l) (putL name (PyData.keyHash o.w.params name) (.str name (s.toks + 1)) u es) := SEs.put (rv.keep S.hs K) (by
  have := MOR.keep S.hs K (MOR.sd (P := o.P) (n := n) se)
  cases this with | sd x => exact x)
 exact .sd this
theorem asg_attr {e : Expr} {name : Str} {pos : Pos} {v : V} (h : EV o c loc st e (fun a st₁ => SETA o c.k st₁ a name v (fun st₂ => QL loc st₂) X) X) : ASG o c loc st (.Attribute e name pos) v QL X := fun s u I r => by
 rw [arm_assign_Attribute]
 refine wpAny_bind (wpAny_holding (pxw I (h.use I fun a st₁ va s₁ q S I₁ ra => wpAny_bind (wpAny_standAt (wpAny_bind (wpAny_holding (pxw I (px S (wpAny_mono (q s₁ va u I₁.si ra (r.keep I.si.hs S.kp)) (fun _ s₂ p => ?_) fun _ _ p => p)))))))))
 obtain ⟨st₂, S₂, q₂⟩ := p
 exact wpAny_release ⟨loc, st₂, (S.trans S₂).weak, (I₁.step S₂).lc, q₂⟩
end
theorem Step.grow {P : Params} {F : Addr -> Prop} {st : St} {s : Shared} {h' : Heap} {t : Nat} (H : Holds P st s.heap) (hk : ∀ b o, s.heap.get? b = some o -> h'.get? b = some o) : Step P F st s st { s with heap := h', toks := t } where
 holds := fun a m e => by
  obtain ⟨o, ho, hm⟩ := H a m e
  exact ⟨o, hk _ _ ho, hm.keep H fun b o _ hb => ⟨o, hk _ _ hb, .refl o⟩⟩
 sub _ h := .inl h
 ext b o _ _ ho := ⟨o, hk _ _ ho, .refl o⟩
 own b o _ _ ho := ⟨o, hk _ _ ho, .refl o⟩
 mono b h := by
  obtain ⟨o, ho⟩ := Option.isSome_iff_exists.mp h
  show (h'.get? b).isSome = true
  rw [hk _ _ ho]; rfl
 gens := rfl
 os := rfl
section
variable {o : Wo} [W : WoOk o] {c : Cx} {k : Kx} {loc : LocF} {st : St} {Q : V -> St -> Prop} {X : Exc -> St -> Prop} {QF : Fl -> LocF -> St -> Prop} {QL : LocF -> St -> Prop}
theorem subscripted_any (slice : Expr) (oV i : Value) : ∃ ops, subscripted slice false oV i = operate ops (getItem oV i) := by
 unfold subscripted
 split
 . exact ⟨_, rfl⟩
 . rename_i h; cases h
 . exact ⟨_, rfl⟩
theorem subTail {value slice : Expr} {oV i : Value} {T id : String} {Q : Value -> Shared -> Prop} {E : Value -> Shared -> Prop} {s : Shared} {A : Around} (hT : s.TypeIs oV T)
 (hl : typeLookup (.type T) "__getitem__" = pure (some (.builtin id))) (h : wpAny o.M A (getItem oV i) Q E s) : wpAny o.M A (subscriptTail value slice oV i) Q E s := by
 unfold subscriptTail
 refine wpAny_bind ?_
 rw [getitemInPython_of_ne hT.not_modules]
 refine wpAny_bind (wpAny_specialOf hT hl ?_)
 obtain ⟨ops, hs⟩ := subscripted_any slice oV i
 have fin : wpAny o.M A (subscripted slice false oV i) (fun r s₃ => wpAny o.M A (letTemporaryGo value oV r >>= fun _ => pure r) Q E s₃) E s := by
  rw [hs]
  exact wpAny_operating (wpAny_mono h (fun r s₃ h₃ => wpAny_bind (wpAny_letTemporaryGo (wpAny_pure h₃))) fun _ _ x => x)
 first
  | exact wpAny_pure (wpAny_bind fin)
  | exact wpAny_bind (wpAny_pure (wpAny_bind fin))
  | exact wpAny_bind fin
noncomputable def SUB (o : Wo) (k : Kx) (st : St) (a i : V) (Q : V -> St -> Prop) (X : Exc -> St -> Prop) : Prop :=
 ∀ s va vi, SI o k st s -> VR s.heap a va -> VR s.heap i vi -> ∃ T id, s.TypeIs va T /\ typeLookup (.type T) "__getitem__" = pure (some (.builtin id)) /\ wpAny o.M k.A (getItem va vi) (PV o st s Q) (PX o noF st s X) s
theorem ev_sub {value slice : Expr} {pos : Pos} (h : EV o c loc st value (fun a st₁ => EV o c loc st₁ slice (fun i st₂ => SUB o c.k st₂ a i Q X) X) X) : EV o c loc st (.Subscript value slice pos) Q X := fun s I =>
 Subscript_ (h.use I fun a st₁ va s₁ q S I₁ ra => px S (q.use I₁ fun i st₂ vi s₂ q₂ S₂ I₂ ri => by
  obtain ⟨T, id, h1, h2, h3⟩ := q₂ s₂ va vi I₂.si (ra.keep I₁.si.hs S₂.kp) ri
  exact px (S.trans S₂) (subTail h1 h2 (wpAny_mono h3 (fun _ _ p => p.trans (S.trans S₂)) fun _ _ p => p))))
theorem sub_tup {xs : List V} {i : Int} {j : Nat} {x : V} (hlo : -2 ^ 63 <= i) (hhi : i < 2 ^ 63) (hj : seqIndex? i xs.length = some j) (hx : xs[j]? = some x) (h : Q x st) : SUB o k st (.tup xs) (.int i) Q X := fun s va vi S ra ri => by
 cases ri
 cases ra with
 | tup ht rr =>
 obtain ⟨v, hv, rv⟩ := rr.get hx
 exact ⟨"tuple", _, ⟨_, ht, rfl⟩, PySem.F.slot_tuple_getitem.lookup, PySem.P.getItem_tuple ht hlo hhi (by rw [List.size_toArray, <- rr.length]; exact hj) (by simpa using hv) ⟨x, st, rv, Step.refl S.hs, h⟩⟩
theorem sub_lst {l : Addr} {xs : List V} {i : Int} {x : V} (hl : st l = some (.lst xs)) (h0 : 0 <= i) (hhi : i < 2 ^ 63) (hx : xs[i.toNat]? = some x) (h : Q x st) : SUB o k st (.ptr l) (.int i) Q X := fun s va vi S ra ri => by
 cases ri; cases ra
 obtain ⟨_, _, h1, rr⟩ := lst_of (S.hs l _ hl)
 obtain ⟨v, hv, rv⟩ := rr.get hx
 exact ⟨"list", _, ⟨_, h1, rfl⟩, list_getitem_lookup, wpAny_getItem_list ⟨_, h1, rfl, _, rfl⟩ h0 hhi (by simpa using hv) ⟨x, st, rv, Step.refl S.hs, h⟩⟩
theorem sub_lst_neg {l : Addr} {xs : List V} {i : Int} {x : V} (hl : st l = some (.lst xs)) (h0 : i < 0) (h1 : -(xs.length : Int) <= i) (hlo : -(2 ^ 63) <= i) (hx : xs[(i + xs.length).toNat]? = some x) (h : Q x st) : SUB o k st (.ptr l) (.int i) Q X := fun s va vi S ra ri => by
 cases ri; cases ra
 obtain ⟨_, _, e1, rr⟩ := lst_of (S.hs l _ hl)
 obtain ⟨v, hv, rv⟩ := rr.get hx
 have hlen := rr.length
 exact ⟨"list", _, ⟨_, e1, rfl⟩, list_getitem_lookup, wpAny_getItem_list_neg ⟨_, e1, rfl, _, rfl⟩ h0 (by rw [List.size_toArray, <- hlen]; exact h1) hlo (by rw [List.size_toArray, <- hlen]; simpa using hv) ⟨x, st, rv, Step.refl S.hs, h⟩⟩
noncomputable def PT (o : Wo) (c : Cx) (loc : LocF) (st : St) (e : Option Expr) (Q : Option Int -> St -> Prop) (X : Exc -> St -> Prop) : Prop :=
 ∀ s, Inv o c loc st s -> wpAny o.M c.k.A (evalPart e c.env) (fun v s' => ∃ n st', IsPart v n /\ Step o.P noF st s st' s' /\ Q n st') (PX o noF st s X) s
theorem pt_none {Q : Option Int -> St -> Prop} (h : Q none st) : PT o c loc st none Q X := fun s I => wpAny_pure ⟨none, st, .none, Step.refl I.si.hs, h⟩
theorem pt_some {e : Expr} {Q : Option Int -> St -> Prop} (h : EV o c loc st e (fun v st₁ => ∃ n, v = .int n /\ Q (some n) st₁) X) : PT o c loc st (some e) Q X := fun s I =>
 h.use I fun v st₁ va s₁ ⟨n, e, q⟩ S I₁ r => by subst e; cases r; exact ⟨some n, st₁, .int _ _, S, q⟩
noncomputable def SLV (o : Wo) (k : Kx) (st : St) (a : V) (lo hi : Option Int) (Q : V -> St -> Prop) (X : Exc -> St -> Prop) : Prop :=
 ∀ s va sl vl vu, SI o k st s -> VR s.heap a va -> s.heap.IsSliceOf sl vl vu .none -> IsPart vl lo -> IsPart vu hi ->
  ∃ T id, s.TypeIs va T /\ typeLookup (.type T) "__getitem__" = pure (some (.builtin id)) /\ wpAny o.M k.A (getItem va (.ref sl)) (PV o st s Q) (PX o noF st s X) s
theorem ev_slice {value : Expr} {lower upper : Option Expr} {p pos : Pos} (h : EV o c loc st value (fun a st₁ => PT o c loc st₁ lower (fun lo st₂ => PT o c loc st₂ upper (fun hi st₃ => SLV o c.k st₃ a lo hi Q X) X) X) X) :
 EV o c loc st (.Subscript value (.Slice lower upper none p) pos) Q X := fun s I => by
 refine Subscript_ (h.use I fun a st₁ va s₁ q S I₁ ra => ?_)
 refine wpAny_Slice (px S (wpAny_mono (q s₁ I₁) (fun vl s₂ ⟨lo, st₂, pl, S₂, q₂⟩ => ?_) fun _ _ p => p))
 have I₂ := I₁.step S₂
 refine px (S.trans S₂) (wpAny_mono (q₂ s₂ I₂) (fun vu s₃ ⟨hi, st₃, pu, S₃, q₃⟩ => ?_) fun _ _ p => p)
 have I₃ := I₂.step S₃
 refine wpAny_pure ?_
 have S₄ : Step o.P noF st₃ s₃ st₃ { s₃ with heap := s₃.heap.push { cls := .type "slice", data := .fields #[vl, vu, .none] } } := Step.push I₃.si.hs _ s₃.toks
 have I₄ := I₃.step S₄
 have S' := ((S.trans S₂).trans S₃).trans S₄
 obtain ⟨T, id, h1, h2, h3⟩ := q₃ _ va s₃.heap.objs.size vl vu I₄.si (((ra.keep I₁.si.hs S₂.kp).keep I₂.si.hs S₃.kp).keep I₃.si.hs S₄.kp) (Heap.IsSliceOf.new ..) pl pu
 exact px S' (subTail h1 h2 (wpAny_mono h3 (fun _ _ p => p.trans S') fun _ _ p => p))
noncomputable def slicePart {α : Type} (xs : List α) (lo hi : Option Int) : List α := (xs.drop (lo.elim 0 (clipAt xs.length))).take (hi.elim xs.length (clipAt xs.length) - lo.elim 0 (clipAt xs.length))
theorem slv_lst {l : Addr} {xs : List V} {lo hi : Option Int} (hl : st l = some (.lst xs)) (hz : xs.length <= sizeLine) (h : ∀ a, st a = none -> Q (.ptr a) (st.set a (.lst (slicePart xs lo hi)))) : SLV o k st (.ptr l) lo hi Q X := fun s va sl vl vu S ra hs pl pu => by
 cases ra
 obtain ⟨ws, n, e1, rr⟩ := lst_of (S.hs l _ hl)
 have hlen := rr.length
 refine ⟨"list", _, ⟨_, e1, rfl⟩, list_getitem_lookup, wpAny_getItem_list_slice ⟨_, e1, rfl, _, rfl⟩ hs pl pu .none (by simp) ?_ (by rw [List.size_toArray, <- hlen]; exact hz)⟩
 rw [slicePick_plain]
 have e2 : (((ws.toArray).toList.drop (lo.elim 0 (clipAt ws.toArray.size))).take (hi.elim ws.toArray.size (clipAt ws.toArray.size) - lo.elim 0 (clipAt ws.toArray.size))) = slicePart ws lo hi := by
  simp [slicePart]
 rw [e2]
 have e3 : VRs s.heap (slicePart xs lo hi) (slicePart ws lo hi) := by
  unfold slicePart
  rw [hlen]
  exact (rr.drop _).take _
 exact ⟨.ptr _, _, .ptr _, Step.alloc S.hs _ (.lst (slicePart xs lo hi)) rfl (.lst e3) s.toks, h _ (size_none S.hs)⟩
theorem slv_tup_from {xs : List V} {a : Nat} (h1 : 1 <= a) (ha : a <= xs.length) (hz : xs.length <= sizeLine) (h : Q (.tup (xs.drop a)) st) : SLV o k st (.tup xs) (some a) none Q X := fun s va sl vl vu S ra hs pl pu => by
 cases pu
 cases pl
 cases ra with
 | tup ht rr =>
 rename_i ws b n
 have hlen := rr.length
 have tt : IsTup s.heap b ws.toArray := ⟨_, ht, rfl, _, rfl⟩
 refine ⟨"tuple", _, tt.typeIs, slot_tuple_getitem.lookup, getItem_tuple_from tt hs h1 (by rw [List.size_toArray, <- hlen]; exact ha) ?_ (by rw [List.size_toArray, <- hlen]; exact hz)⟩
 exact ⟨.tup (xs.drop a), st, .tup (IsT.new _ _) (by simpa using (rr.drop a).keep S.hs (Kp.push _)), Step.push S.hs _ s.toks, h⟩
theorem meth_list {l : Addr} {xs : List V} {name : Str} {id : String} (hl : st l = some (.lst xs)) (slot : Slot "list" name id) (hty : typeOf (.builtin id) = pure (.type "method_descriptor")) : METH o k st (.ptr l) name (.builtin id) := fun s va pl S r => by
 cases r
 obtain ⟨_, _, e1, rr⟩ := lst_of (S.hs l _ hl)
 refine getMethod_builtin ⟨_, e1, rfl⟩ PySem.F.plainAttrs_list slot hty (fun a e => ?_) ⟨rfl, s.toks, rfl⟩
 cases e
 exact ⟨_, e1, rfl⟩
theorem meth_append {l : Addr} {xs : List V} (hl : st l = some (.lst xs)) : METH o k st (.ptr l) "append" (.builtin "list.append") := meth_list hl PySem.F.slot_list_append PySem.F.type_list_append
theorem meth_pop {l : Addr} {xs : List V} (hl : st l = some (.lst xs)) : METH o k st (.ptr l) "pop" (.builtin "list.pop") := meth_list hl PySem.F.slot_list_pop PySem.F.type_list_pop
theorem meth_reverse {l : Addr} {xs : List V} (hl : st l = some (.lst xs)) : METH o k st (.ptr l) "reverse" (.builtin "list.reverse") := meth_list hl PySem.F.slot_list_reverse PySem.F.type_list_reverse
theorem lst_upd {P : Params} {F : Addr -> Prop} {s : Shared} {l : Addr} {xs ys : List V} {ws us : List Value} {n : Nat} {f : Array Value -> Array Value} (H : Holds P st s.heap) (hl : st l = some (.lst xs)) (e1 : s.heap.get? l = some (listO ws n)) (hf : f ws.toArray = us.toArray)
 (hr : ∀ hh, Kp st s.heap hh -> VRs hh ys us) (t : Nat) : Step P F st s (st.set l (.lst ys)) { s with heap := s.heap.update l (Obj.mapSeq f), toks := t } := by
 refine Step.upd H (by rw [hl]; simp) (Heap.SameBut.update ..) (IsL.update (n := n) e1 f) (fun hh K => ?_) t
 rw [hf]
 exact .lst (hr hh K)
theorem call_append {l : Addr} {xs : List V} {x : V} (hl : st l = some (.lst xs)) (hz : xs.length <= sizeLine) (h : Q .none (st.set l (.lst (xs ++ [x])))) : CALL o k st (.builtin "list.append") [.ptr l, x] Q X := fun s vs S r => by
 cases r.inv2 with
 | mk r1 r2 =>
 cases r1
 obtain ⟨ws, n, e1, rr⟩ := lst_of (S.hs l _ hl)
 rename_i v
 refine call_meets PySem.F.slot_list_append ⟨_, e1, rfl⟩ PySem.F.entry_list_append (PySem.F.args_list_append_2 _ _) (list_append l ws.toArray n v (by rw [List.size_toArray, <- rr.length]; exact hz)) ⟨e1, ?_⟩
 exact ⟨.none, _, .none, lst_upd S.hs hl e1 (us := ws ++ [v]) (by simp) (fun hh K => (rr.keep S.hs K).append (.cons (r2.keep S.hs K) .nil)) s.toks, h⟩
theorem call_reverse {l : Addr} {xs : List V} (hl : st l = some (.lst xs)) (hz : xs.length <= sizeLine) (h : Q .none (st.set l (.lst xs.reverse))) : CALL o k st (.builtin "list.reverse") [.ptr l] Q X := fun s vs S r => by
 cases r.inv1 with
 | mk r1 =>
 cases r1
 obtain ⟨ws, n, e1, rr⟩ := lst_of (S.hs l _ hl)
 refine call_meets PySem.F.slot_list_reverse ⟨_, e1, rfl⟩ PySem.F.entry_list_reverse (PySem.F.args_list_reverse_1 _) (AutoSeq1.list_reverse_list_0 l ws.toArray n (by rw [List.size_toArray, <- rr.length]; exact hz)) ⟨e1, ?_⟩
 exact ⟨.none, _, .none, lst_upd S.hs hl e1 (us := ws.reverse) (by simp) (fun hh K => (rr.keep S.hs K).reverse) s.toks, h⟩
theorem call_pop {l : Addr} {xs : List V} {x : V} (hl : st l = some (.lst (xs ++ [x]))) (hz : xs.length + 1 <= sizeLine) (h : Q x (st.set l (.lst xs))) : CALL o k st (.builtin "list.pop") [.ptr l] Q X := fun s vs S r => by
 cases r.inv1 with
 | mk r1 =>
 cases r1
 obtain ⟨ws, n, e1, rr⟩ := lst_of (S.hs l _ hl)
 have hlen := rr.length
 simp only [List.length_append, List.length_cons, List.length_nil] at hlen
 obtain ⟨v, hv, rv⟩ := rr.get (i := xs.length) (x := x) (by simp)
 have e2 : ws.toArray[ws.toArray.size - 1]? = some v := by
  rw [List.size_toArray, <- hlen]; simpa using hv
 have rt : VRs s.heap xs (ws.take xs.length) := by simpa using rr.take xs.length
 refine call_meets PySem.F.slot_list_pop ⟨_, e1, rfl⟩ PySem.F.entry_list_pop (PySem.F.args_list_pop_1 _) (PySem.MeetsSeq.list_pop_last l ws.toArray n v e2 (by rw [List.size_toArray, <- hlen]; exact hz)) ⟨e1, ?_⟩
 have S1 := lst_upd (P := o.P) (F := noF) (ys := xs) (us := ws.take xs.length) (f := fun xs => xs.eraseIdxIfInBounds (ws.toArray.size - 1)) S.hs hl e1 (by
  rw [List.size_toArray, <- hlen]
  apply Array.toList_inj.mp
  simp [List.eraseIdx_eq_take_drop_succ]
  (first | lia | omega)) (fun hh K => rt.keep S.hs K) s.toks
 exact ⟨x, _, rv.keepD (.ofSt S.hs) (S1.kp.d), S1, h⟩
theorem call_max {i j : Int} (h : Q (.int (if j > i then j else i)) st) : CALL o k st (.builtin "max") [.int i, .int j] Q X := fun s vs S r => by
 cases r.inv2 with
 | mk r1 r2 =>
 cases r1; cases r2
 refine max_two_ints S.ok.handled fun h' tk hk => ?_
 refine ⟨.int (if j > i then j else i), st, ?_, Step.grow S.hs hk, h⟩
 split <;> exact .int _ _
theorem call_min {i j : Int} (h : Q (.int (if j < i then j else i)) st) : CALL o k st (.builtin "min") [.int i, .int j] Q X := fun s vs S r => by
 cases r.inv2 with
 | mk r1 r2 =>
 cases r1; cases r2
 refine min_two_ints S.ok.handled fun h' tk hk => ?_
 refine ⟨.int (if j < i then j else i), st, ?_, Step.grow S.hs hk, h⟩
 split <;> exact .int _ _
theorem call_len_lst {l : Addr} {xs : List V} (hl : st l = some (.lst xs)) (hz : (xs.length : Int) < 2 ^ 63) (h : Q (.int xs.length) st) : CALL o k st (.builtin "len") [.ptr l] Q X := fun s vs S r => by
 cases r.inv1 with
 | mk r1 =>
 cases r1
 obtain ⟨_, _, e1, rr⟩ := lst_of (S.hs l _ hl)
 have hlen := rr.length
 refine Calls.call_len_list ⟨_, e1, rfl, _, rfl⟩ (by rw [List.size_toArray, <- hlen]; exact hz) ?_
 rw [List.size_toArray, <- hlen]
 exact ⟨_, st, .int _ _, Step.toks S.hs _, h⟩
theorem call_len_tup {xs : List V} (hz : (xs.length : Int) < 2 ^ 63) (h : Q (.int xs.length) st) : CALL o k st (.builtin "len") [.tup xs] Q X := fun s vs S r => by
 cases r.inv1 with
 | mk r1 =>
 cases r1 with
 | tup ht rr =>
 have hlen := rr.length
 refine PyProof.Rows.len_tuple ⟨_, ht, rfl, _, rfl⟩ (by rw [List.size_toArray, <- hlen]; exact hz) ?_
 rw [List.size_toArray, <- hlen]
 exact ⟨_, st, .int _ _, Step.toks S.hs _, h⟩
theorem call_len_str' {x : Str} (hz : ¬ (x.length : Int) >= 2 ^ 63) (h : Q (.int x.length) st) : CALL o k st (.builtin "len") [.str x] Q X := fun s vs S r => by
 cases r.inv1 with
 | mk r1 =>
 cases r1
 exact PySem.P.len_str hz ⟨_, st, .int _ _, Step.toks S.hs _, h⟩
theorem call_tuple_lst {l : Addr} {xs : List V} (hl : st l = some (.lst xs)) (hz : xs.length <= sizeLine) (h : Q (.tup xs) st) : CALL o k st (.type "tuple") [.ptr l] Q X := fun s vs S r => by
 cases r.inv1 with
 | mk r1 =>
 cases r1
 obtain ⟨_, _, e1, rr⟩ := lst_of (S.hs l _ hl)
 refine call_tuple_list ⟨_, e1, rfl, _, rfl⟩ (fun h' hk => ?_) (by rw [List.size_toArray, <- rr.length]; exact hz)
 have S1 : Step o.P noF st s st { s with heap := h', toks := s.toks } := Step.grow S.hs hk
 exact ⟨.tup xs, st, .tup (IsT.new _ _) ((rr.keep S.hs S1.kp).keep S1.holds (Kp.push _)), S1.trans (Step.push S1.holds _ s.toks), h⟩
end
section
theorem noFill_tuple_mul : fillsNumberSlot (.type "tuple") "mul" = pure false :=
 PySem.fillsNumberSlot_seq (id := "tuple.__mul__") (r := some (.builtin "tuple.__rmul__")) PySem.F.slot_tuple_mul.lookup (by decide +kernel) PySem.F.slot_tuple_rmul.lookup (by decide +kernel)
theorem repeat_tuple : seqRepeat? (.type "tuple") = pure (some (.builtin "tuple.__mul__")) := by
 unfold seqRepeat?
 rw [PySem.seqSlot_of (T := "tuple") (name := "__mul__") (id := "tuple.__mul__") PySem.F.slot_tuple_mul.lookup (by decide +kernel), PySem.seqSlot_of (T := "tuple") (name := "__rmul__") (id := "tuple.__rmul__") PySem.F.slot_tuple_rmul.lookup (by decide +kernel)]
 rfl
theorem rmul_int_tuple (a : Int) (t : Tok) (l : Addr) (items : Array Value) (n : Nat) :
 Meets (Builtin.«int.__rmul__» ⟨[.int a t, .ref l], []⟩) (fun _ R s => s.heap.get? l = some { cls := .type "tuple", dict := none, data := .seq items n, slots := #[] } /\ R (.ok (.ret Value.notImplemented)) s) :=
 .of_wp fun prog w A R s h => by obtain ⟨hp, g, d, tk, os⟩ := s; obtain ⟨hl, h⟩ := h; wp_walk; exact ⟨_, rfl, h⟩
theorem tuple_mul_0 (l : Addr) (items : Array Value) (n : Nat) (u : Tok) (hi : ¬ (items.isEmpty = true)) :
 Meets (Builtin.«tuple.__mul__» ⟨[.ref l, .int 0 u], []⟩) (fun _ R s => s.heap.get? l = some { cls := .type "tuple", dict := none, data := .seq items n, slots := #[] } /\ R (.ok (.ret (Value.ref s.heap.objs.size))) { s with heap := s.heap.push { cls := Value.type "tuple", data := Data.seq #[] }, toks := s.toks }) :=
 .of_wp fun prog w A R s h => by
  obtain ⟨hp, g, d, tk, os⟩ := s; obtain ⟨hl, h⟩ := h
  have hi' : items.isEmpty = false := by simpa using hi
  wp_walk
  exact ⟨_, rfl, h⟩
theorem tuple_mul_1 (l : Addr) (items : Array Value) (n : Nat) (u : Tok) :
 Meets (Builtin.«tuple.__mul__» ⟨[.ref l, .int 1 u], []⟩) (fun _ R s => s.heap.get? l = some { cls := .type "tuple", dict := none, data := .seq items n, slots := #[] } /\ R (.ok (.ret (Value.ref l))) s) :=
 .of_wp fun prog w A R s h => by
  obtain ⟨hp, g, d, tk, os⟩ := s; obtain ⟨hl, h⟩ := h
  wp_walk
  exact ⟨_, rfl, h⟩
theorem tuple_mul_n (l : Addr) (items : Array Value) (n : Nat) (x : Int) (u : Tok) (h1 : 1 < x) (h2 : x < 2 ^ 63) (hi : ¬ (items.isEmpty = true)) (hz : items.size * x.toNat <= 2 ^ 24) :
 Meets (Builtin.«tuple.__mul__» ⟨[.ref l, .int x u], []⟩) (fun _ R s => s.heap.get? l = some { cls := .type "tuple", dict := none, data := .seq items n, slots := #[] } /\ R (.ok (.ret (Value.ref s.heap.objs.size))) { s with heap := s.heap.push { cls := Value.type "tuple", data := Data.seq (List.foldl (fun x1 x2 => x1 ++ x2) #[] (List.replicate x.toNat items)) }, toks := s.toks }) :=
 .of_wp fun prog w A R s h => by
  obtain ⟨hp, g, d, tk, os⟩ := s; obtain ⟨hl, h⟩ := h
  have hi' : items.isEmpty = false := by simpa using hi
  have c1 : ¬ ((decide (x < -(2 ^ 63)) || decide (x >= 2 ^ 63)) = true) := by simp; (first | lia | omega)
  have c2 : ¬ ((items.isEmpty || x == 1) = true) := by simp [hi']; (first | lia | omega)
  have c3 : ¬ ((decide (x <= 0) || items.isEmpty) = true) := by simp [hi']; (first | lia | omega)
  have ex : (items.size : Int) * x = ((items.size * x.toNat : Nat) : Int) := by rw [Int.natCast_mul, Int.toNat_of_nonneg (by (first | lia | omega))]
  have c4 : ¬ ((items.size : Int) * x > (2 ^ 63 - 1) / 8) := by rw [ex]; (first | lia | omega)
  have c5 : ¬ (Builtin.Tuple.tupleTooMany ((items.size : Int) * x) = true) := by rw [ex]; unfold Builtin.Tuple.tupleTooMany; simp only [decide_eq_true_eq, sizeLine_eq]; (first | lia | omega)
  have hsz : (List.foldl (fun x1 x2 => x1 ++ x2) #[] (List.replicate x.toNat items)).size <= sizeLine := by
   have : ∀ (m : Nat) (a : Array Value), (List.foldl (fun x1 x2 => x1 ++ x2) a (List.replicate m items)).size = a.size + m * items.size := by
    intro m
    induction m with
    | zero => intro a; simp
    | succ m ih => intro a; rw [List.replicate_succ, List.foldl_cons, ih, Array.size_append, Nat.succ_mul]; (first | lia | omega)
   rw [this, Nat.mul_comm, sizeLine_eq]; simpa using hz
  wp_walk
  rw [if_neg c1]
  wp_walk
  rw [if_neg c2]
  wp_walk
  rw [if_neg c3]
  wp_walk
  rw [if_neg c4]
  wp_walk
  rw [if_neg c5]
  wp_walk
  exact ⟨_, rfl, h⟩
end
theorem VRs.repl {h : Heap} {xs : List V} {ws : List Value} (r : VRs h xs ws) : ∀ m : Nat, VRs h (List.replicate m xs).flatten (List.replicate m ws).flatten
 | 0 => .nil
 | m + 1 => by rw [List.replicate_succ, List.flatten_cons, List.replicate_succ, List.flatten_cons]; exact r.append (r.repl m)
theorem foldl_repl (ws : List Value) : ∀ (m : Nat) (a : List Value), List.foldl (fun x1 x2 => x1 ++ x2) a.toArray (List.replicate m ws.toArray) = (a ++ (List.replicate m ws).flatten).toArray
 | 0, a => by simp
 | m + 1, a => by
  rw [List.replicate_succ, List.foldl_cons, List.append_toArray, foldl_repl ws m (a ++ ws), List.replicate_succ, List.flatten_cons, List.append_assoc]
section
variable {o : Wo} [W : WoOk o] {c : Cx} {k : Kx} {loc : LocF} {st : St} {Q : V -> St -> Prop} {X : Exc -> St -> Prop} {QF : Fl -> LocF -> St -> Prop} {QL : LocF -> St -> Prop}
theorem opb_mul_tup {xs : List V} {x : Int} (h0 : 0 <= x) (h1 : x < 2 ^ 63) (hne : xs ≠ []) (hz : xs.length * x.toNat <= 2 ^ 24) (h : Q (.tup (List.replicate x.toNat xs).flatten) st) : OPB o k st .Mult (.tup xs) (.int x) Q X := fun s va vb S ra rb => by
 cases rb with
 | int _ u =>
 cases ra with
 | tup ht rr =>
 rename_i ws l n
 have hlen := rr.length
 have hemp : ¬ (ws.toArray.isEmpty = true) := by
  cases ws with
  | nil => cases xs with | nil => exact absurd rfl hne | cons _ _ => simp at hlen
  | cons _ _ => simp
 have key : wpAny o.M k.A (call (.builtin "tuple.__mul__") [.ref l, .int x u]) (PV o st s Q) (PX o noF st s X) s := by
  by_cases e0 : x = 0
  . subst e0
    refine call_meets PySem.F.slot_tuple_mul ⟨_, ht, rfl⟩ PySem.F.entry_tuple_mul (PySem.F.args_tuple_mul_2 _ _) (tuple_mul_0 l ws.toArray n u hemp) ⟨ht, ?_⟩
    exact ⟨.tup [], st, .tup (ws := []) (IsT.new _ _) .nil, Step.push S.hs _ s.toks, by simpa using h⟩
  . by_cases e1 : x = 1
    . subst e1
      refine call_meets PySem.F.slot_tuple_mul ⟨_, ht, rfl⟩ PySem.F.entry_tuple_mul (PySem.F.args_tuple_mul_2 _ _) (tuple_mul_1 l ws.toArray n u) ⟨ht, ?_⟩
      exact ⟨.tup xs, st, .tup ht rr, Step.refl S.hs, by simpa using h⟩
    . refine call_meets PySem.F.slot_tuple_mul ⟨_, ht, rfl⟩ PySem.F.entry_tuple_mul (PySem.F.args_tuple_mul_2 _ _) (tuple_mul_n l ws.toArray n x u (by (first | lia | omega)) h1 hemp (by rw [List.size_toArray, <- hlen]; exact hz)) ⟨ht, ?_⟩
      have e := foldl_repl ws x.toNat []
      rw [List.nil_append] at e
      rw [e]
      exact ⟨.tup _, st, .tup (IsT.new _ _) ((rr.repl x.toNat).keep S.hs (Kp.push _)), Step.push S.hs _ s.toks, h⟩
 exact wpAny_binaryOp_repeat_ref (T := "tuple") (U := "int") (by decide) ⟨_, ht, rfl⟩ (fun s' => typeIs_int s' x u) noFill_tuple_mul PySem.F.fills_int_mul PySem.F.slot_int_rmul repeat_tuple PySem.F.slot_int_index.lookup
  (call_meets PySem.F.slot_int_rmul (typeIs_int s x u) PySem.F.entry_int_rmul (PySem.F.args_int_rmul_2 _ _) (rmul_int_tuple x u l ws.toArray n) ⟨ht, rfl, ⟨_, ht, rfl⟩, key⟩)
noncomputable def V.strs : List V -> Option (List Str)
 | [] => some []
 | .str x :: r => (V.strs r).map (x :: ·)
 | _ => Option.none
theorem strs_items {h : Heap} : ∀ {xs : List V} {ws : List Value} {ss : List Str} (a : Str) (t : Tok), VRs h xs ws -> V.strs xs = some ss -> ∃ e : Value -> Bool, (∀ y, y ∈ ws -> PySem.MeetsSeq.EqGives y (.str a t) (e y)) /\ ws.any e = ss.any (fun y => y == a) := by
 intro xs ws ss a t r hs
 refine ⟨fun y => match y with | .str b _ => b.cps.toList == a.cps.toList | _ => false, ?_⟩
 have ec : ∀ b : Str, (b.cps.toList == a.cps.toList) = (b == a) := fun b => by
  rw [Bool.eq_iff_iff, beq_iff_eq, beq_iff_eq]
  constructor
  . intro q; cases b; cases a; simp only [Str.mk.injEq]; exact Array.toList_inj.mp q
  . rintro rfl; rfl
 induction xs generalizing ws ss with
 | nil => cases r; simp [V.strs] at hs; subst hs; exact ⟨fun y hy => by simp at hy, rfl⟩
 | cons x xs ih =>
  cases r with
  | cons r1 r2 =>
  cases x with
  | str b =>
   simp only [V.strs, Option.map_eq_some_iff] at hs
   obtain ⟨ss', hs', rfl⟩ := hs
   obtain ⟨i1, i2⟩ := ih r2 hs'
   cases r1 with
   | str _ tb =>
   refine ⟨fun y hy => ?_, ?_⟩
   . rcases List.mem_cons.mp hy with rfl | hy
     . exact PySem.SeqRoads2.EqGives.str b a tb t
     . exact i1 y hy
   . rw [List.any_cons, List.any_cons, i2]
     dsimp only
     rw [ec]
  | _ => simp [V.strs] at hs
theorem cmp_in_strs {a : Str} {xs : List V} {ss : List Str} (hs : V.strs xs = some ss) (h : Q (.bool (ss.any fun y => y == a)) st) : CMP o k st .In (.str a) (.tup xs) Q X := fun s va vb S ra rb => by
 cases ra with
 | str _ t =>
 cases rb with
 | tup ht rr =>
 obtain ⟨e, h1, h2⟩ := strs_items a t rr hs
 refine PySem.SeqRoads2.in_tuple e (fun y hy => h1 y (by simpa using hy)) ht ?_
 rw [List.any_toArray, h2]
 exact ⟨_, st, .bool _, Step.refl S.hs, h⟩
theorem load_R {A : Around} {s : Shared} {x : Str} {v : V} {Qv : Value -> Shared -> Prop} {E : Value -> Shared -> Prop} (I : Inv o c loc st s) (hx : loc x = some v) (h : ∀ u, VR s.heap v u -> Qv u s) : wpAny o.M A (loadName c.env x) Qv E s := by
 obtain ⟨m, hm, q⟩ := I.lc.ns
 rcases q x v hx with ⟨hl, u, hu, r⟩ | ⟨hl, hn, a, u, ha, hc, r⟩
 . exact wpAny_loadName_local I.cx.kind hl hm hu (h u r)
 . rcases hl with hl | hl
   . exact wpAny_loadName_cell I.cx.kind hl ha hc (h u r)
   . exact wpAny_loadName_free I.cx.kind hl ha hc (h u r) hn
theorem ex_aug {x : Str} {np pos : Pos} {op : Operator} {e : Expr} {a : V} (hx : loc x = some a) (hs : storable c.env x = true) (h : EV o c loc st e (fun b st₁ => OPI o c.k st₁ op a b (fun r st₂ => QF .next (loc.set x r) st₂) X) X) : EX o c loc st (.AugAssign (.Name x np) op e pos) QF X := fun s I => by
 refine wpAny_AugAssign_Name (load_R I hx fun u ru => pxw I (h.use I fun b st₁ vb s₁ q S I₁ rb => pxw I (px S ?_)))
 refine wpAny_mono (q s₁ u vb I₁.si (ru.keep I.si.hs S.kp) rb) (fun r s₂ ⟨rv, st₂, rr, S₂, q₂⟩ => ?_) fun _ _ p => p
 have I₂ := I₁.step S₂
 have S' : Step o.P (own c) st s st₂ s₂ := (S.trans S₂).weak
 exact storeName_R I₂ rr hs fun h' t S₃ L => ⟨.next, _, st₂, .next, S'.trans S₃, L, q₂⟩
noncomputable def ASGS (o : Wo) (c : Cx) (loc : LocF) (st : St) (ts : List Expr) (vs : List V) (Q : LocF -> St -> Prop) (X : Exc -> St -> Prop) : Prop :=
 ∀ s us, Inv o c loc st s -> VRs s.heap vs us -> wpAny o.M c.k.A (assignInOrder ((assignEach ts c.env).map (·.2)) us) (PU o c st s Q) (PXO o c st s X) s
theorem asgs_nil (h : QL loc st) : ASGS o c loc st [] [] QL X := fun s us I r => by cases r; exact wpAny_pure ⟨loc, st, Step.refl I.si.hs, I.lc, h⟩
theorem assignEach_plain {t : Expr} {ts : List Expr} {env : Env} (h : plainE t = true) : assignEach (t :: ts) env = (false, assign t env) :: assignEach ts env := by
 cases t <;> first | rfl | cases h
theorem asgs_cons {t : Expr} {ts : List Expr} {v : V} {vs : List V} (h : ASG o c loc st t v (fun loc₁ st₁ => ASGS o c loc₁ st₁ ts vs QL X) X) (hp : plainE t = true := by rfl) : ASGS o c loc st (t :: ts) (v :: vs) QL X := fun s us I r => by
 cases r with
 | cons r1 r2 =>
 rw [assignEach_plain hp]
 show wpAny _ _ (do holding _ (assign t c.env _); assignInOrder _ _) _ _ s
 refine wpAny_bind (wpAny_holding (wpAny_mono (h s _ I r1) (fun _ s₁ p => ?_) fun _ _ p => p))
 obtain ⟨loc₁, st₁, S, L, q⟩ := p
 have I₁ := I.stepF S L
 exact px S (wpAny_mono (q s₁ _ I₁ (VRs.stepF I S r2)) (fun _ _ p => p.trans S) fun _ _ p => p)
theorem each_len {env : Env} : ∀ {ts : List Expr}, ts.all plainE = true -> (assignEach ts env).length = ts.length /\ (assignEach ts env).findIdx? (·.1) = none
 | [], _ => ⟨rfl, rfl⟩
 | t :: ts, h => by
  simp only [List.all_cons, Bool.and_eq_true] at h
  obtain ⟨i1, i2⟩ := each_len (env := env) h.2
  rw [assignEach_plain h.1]
  refine ⟨by simp [i1], ?_⟩
  rw [List.findIdx?_cons, i2]; rfl
theorem asg_tuple {ts : List Expr} {x1} {pos : Pos} {vs : List V} (hp : ts.all plainE = true) (hl : ts.length = vs.length) (h : ASGS o c loc st ts vs QL X) : ASG o c loc st (.Tuple ts x1 pos) (.tup vs) QL X := fun s u I r => by
 cases r with
 | tup ht rr =>
 rename_i ws a n
 obtain ⟨l1, l2⟩ := each_len (env := c.env) hp
 refine wpAny_assign_Tuple I.si.ok.handled ⟨_, ht, rfl, _, rfl⟩ (by rw [l1, hl, List.size_toArray, rr.length]) l2 fun h' he => ?_
 have S1 : Step o.P noF st s st { s with heap := h', toks := s.toks } := Step.grow I.si.hs fun b ob e => he b ob (Nat.ne_of_lt (Heap.lt_size e)) e
 have I1 := I.step S1
 have S1' := S1.weak (F := own c)
 exact px S1' (wpAny_mono (h _ ws I1 (rr.keep I.si.hs S1.kp)) (fun _ _ p => p.trans S1') fun _ _ p => p)
theorem lst_reads {s : Shared} {a : Addr} {xs : List V} {ds : List PyData} (H : Holds o.P st s.heap) (ha : st a = some (.lst xs)) (hd : V.pys xs = some ds) : ∃ as, Reads s.heap (.ref a) (.list ds) as := by
 obtain ⟨_, _, e1, rr⟩ := lst_of (H a _ ha)
 obtain ⟨as, ra⟩ := rr.reads hd
 exact ⟨_, .list e1 rfl rfl (by simpa using ra)⟩
theorem cmp_ne_lst {a b : Addr} {xs ys : List V} {da db : List PyData} (ha : st a = some (.lst xs)) (hb : st b = some (.lst ys)) (h1 : V.pys xs = some da) (h2 : V.pys ys = some db) (la : (PyData.list da).canLay0 = true) (lb : (PyData.list db).canLay0 = true)
 (hd : min (PyData.list da).depth (PyData.list db).depth <= 30) (h : Q (.bool (!PyData.eqv (.list da) (.list db))) st) : CMP o k st .NotEq (.ptr a) (.ptr b) Q X := fun s va vb S ra rb => by
 cases ra; cases rb
 obtain ⟨_, r1⟩ := lst_reads S.hs ha h1
 obtain ⟨_, r2⟩ := lst_reads S.hs hb h2
 exact SeqAt.compareNe_reads r1 r2 la lb (units_room S.ok hd) (pv_here S (.bool _) h)
theorem cmp_eq_lst {a b : Addr} {xs ys : List V} {da db : List PyData} (ha : st a = some (.lst xs)) (hb : st b = some (.lst ys)) (h1 : V.pys xs = some da) (h2 : V.pys ys = some db) (la : (PyData.list da).canLay0 = true) (lb : (PyData.list db).canLay0 = true)
 (hd : min (PyData.list da).depth (PyData.list db).depth <= 30) (h : Q (.bool (PyData.eqv (.list da) (.list db))) st) : CMP o k st .Eq (.ptr a) (.ptr b) Q X := fun s va vb S ra rb => by
 cases ra; cases rb
 obtain ⟨_, r1⟩ := lst_reads S.hs ha h1
 obtain ⟨_, r2⟩ := lst_reads S.hs hb h2
 exact SeqAt.compareEq_reads r1 r2 la lb (units_room S.ok hd) (pv_here S (.bool _) h)
theorem ev_dict0 {pos : Pos} (h : ∀ a, st a = none -> Q (.ptr a) (st.set a (.sd []))) : EV o c loc st (.Dict [] [] pos) Q X := fun s I =>
 wpAny_Dict_empty ⟨.ptr _, _, .ptr _, Step.alloc I.si.hs _ (.sd []) rfl (.sd .nil) s.toks, h _ (size_none I.si.hs)⟩
theorem call_cls {C fI : Addr} {as : List V} (hm : makesIn o.K C = true) (hi : findIn o.K (.ref C) "__init__" = some (some (.ref fI))) (hf : isFn o.K (.ref fI) = true) (hn : 1 <= k.n)
 (h : ∀ A' x dx, A'.frames = k.A.frames -> st dx = none -> CALLC o ⟨A', k.fs, k.n - 1⟩ (st.set dx (.sd [])) (.ref fI) (.obj x C dx :: as) (fun v st' => v = .none /\ Q (.obj x C dx) st') X) : CALLC o k st (.ref C) as Q X := fun s vs S r => by
 obtain ⟨hp, g, d, t, os⟩ := s
 refine make_core (makes_of S.wd.k hm) (looks_findIn S.wd.k hi) (fun self => bind_fn S.wd.k self (beq_iff_eq.mp hf)) (.inl rfl) ?_
 have eF : ∀ x : Option (List Env), pushEnvs (Code.envs (.builtin "type.__call__" ⟨.ref C :: vs, []⟩)) x = x := fun x => rfl
 have eW : Code.weight (.builtin "type.__call__" ⟨.ref C :: vs, []⟩) = 1 := by rfl
 have eU : Code.cUnits (.builtin "type.__call__" ⟨.ref C :: vs, []⟩) = 1 := by rfl
 have hA : KxOk ⟨k.A.under (.builtin "type.__call__" ⟨.ref C :: vs, []⟩), k.fs, k.n - 1⟩ := by
  have h1 := S.ok.depth; have h2 := S.ok.units
  refine ⟨?_, ?_, ?_, S.ok.handled⟩
  . exact (eF _).trans S.ok.fr
  . show k.A.depth + Code.weight (.builtin "type.__call__" ⟨.ref C :: vs, []⟩) + (k.n - 1) < _
    rw [eW]; (first | lia | omega)
  . show k.A.units + Code.cUnits (.builtin "type.__call__" ⟨.ref C :: vs, []⟩) + 5 * (k.n - 1) + 40 < _
    rw [eU]; (first | lia | omega)
 have Sd : Step o.P noF st ⟨hp, g, d, t, os⟩ (st.set hp.objs.size (.sd [])) ⟨hp.push emptyDict, g, d, t, os⟩ := Step.alloc (s := ⟨hp, g, d, t, os⟩) S.hs emptyDict (.sd []) rfl (.sd (n := 0) .nil) t
 have Si : Step o.P noF (st.set hp.objs.size (.sd [])) ⟨hp.push emptyDict, g, d, t, os⟩ (st.set hp.objs.size (.sd [])) ⟨(hp.push emptyDict).push (instObj C hp.objs.size), g, d, t, os⟩ := Step.push (s := ⟨hp.push emptyDict, g, d, t, os⟩) Sd.holds (instObj C hp.objs.size) t
 have S1 := Sd.trans Si
 have SI1 := S.step S1
 have hob : ((hp.push emptyDict).push (instObj C hp.objs.size)).get? (hp.objs.size + 1) = some (instObj C hp.objs.size) := by
  have := Heap.get?_push_size (hp.push emptyDict) (o := instObj C hp.objs.size) rfl
  rwa [Heap.size_push] at this
 have ro : VR ((hp.push emptyDict).push (instObj C hp.objs.size)) (.obj (hp.objs.size + 1) C hp.objs.size) (.ref (hp.objs.size + 1)) := .obj hob rfl rfl rfl
 have hsn : st hp.objs.size = none := size_none S.hs
 have eA : (k.A.under (.builtin "type.__call__" ⟨.ref C :: vs, []⟩)).frames = k.A.frames := eF _
 refine codeAny_mono (h _ (hp.objs.size + 1) hp.objs.size eA hsn _ (.ref (hp.objs.size + 1) :: vs) (SI1.of_depth hA SI1.fs) (.cons ro (r.keep S.hs S1.kp))) fun rr s' z => ?_
 rcases rr with e | (v | _ | _ | _)
 . exact PXg.trans (G := fun _ => True) S1 (show PX o noF _ _ X e s' from z)
 all_goals first | exact z.elim | skip
 obtain ⟨rv, st', r1, S2, rfl, q⟩ := z
 cases r1
 exact ⟨rfl, .obj (hp.objs.size + 1) C hp.objs.size, st', ro.keep SI1.hs S2.kp, S1.trans S2, q⟩
end
end NN
end
section
open PySem PySem.W PyProof.Rows PySem.Calls Builtin Builtin.ObjectAttr
set_option maxRecDepth 100000
set_option linter.all false
namespace NN
noncomputable def excMro : List Value -> Bool
 | .ref _ :: r => excMro r
 | l => l == [.type "Exception", .type "BaseException", .type "object"]
theorem excMro_refuse (self : Value) : ∀ {l : List Value}, excMro l = true -> refuseLoop self "__setattr__" l = pure ()
 | .ref c :: r, e => by rw [refuseLoop_ref]; exact excMro_refuse self (l := r) e
 | .type n :: r, e => by
  have : Value.type n :: r = [.type "Exception", .type "BaseException", .type "object"] := beq_iff_eq.mp e
  rw [this]; exact PySem.F.store_Exception.passes self
 | [], e => by cases e
 | .none :: r, e | .bool _ :: r, e | .int _ _ :: r, e | .str _ _ :: r, e | .builtin _ :: r, e => by have : _ = _ := beq_iff_eq.mp (show (_ == _) = true from e); simp at this
 | .float .. :: r, e | .bytes .. :: r, e | .ellipsis :: r, e | .notImplemented :: r, e => by have : _ = _ := beq_iff_eq.mp (show (_ == _) = true from e); simp at this
theorem excMro_has : ∀ {l : List Value}, excMro l = true -> l.contains (.type "Exception") = true /\ l.contains (.type "object") = true /\ l.contains (.type "BaseException") = true /\ l.contains (.type "AttributeError") = false /\ l.contains (.type "NameError") = false := by
 intro l
 induction l with
 | nil => intro e; cases e
 | cons x r ih =>
  intro e
  by_cases q : ∃ c, x = .ref c
  . obtain ⟨c, rfl⟩ := q
    obtain ⟨a, b, c', d, f⟩ := ih e
    exact ⟨by rw [List.contains_cons, a, Bool.or_true], by rw [List.contains_cons, b, Bool.or_true], by rw [List.contains_cons, c', Bool.or_true], by rw [List.contains_cons, d]; rfl, by rw [List.contains_cons, f]; rfl⟩
  . have : x :: r = [.type "Exception", .type "BaseException", .type "object"] := by
     unfold excMro at e
     split at e
     . rename_i c _ h; cases h; exact absurd ⟨_, rfl⟩ q
     . exact beq_iff_eq.mp e
    rw [this]
    decide +kernel
noncomputable def setOkX (K : Frag) (C : Addr) (name : Str) : Bool := findIn K (.ref C) "__setattr__" == some (some (.builtin "object.__setattr__")) && (clsIn K C).any (fun cd => excMro cd.mro) && takerIn K C name == some none && hasDictIn K C
section
variable {prog : Program} {w : World} {A : Around} {E : Value -> Shared -> Prop} {s : Shared} {K : Frag} {x C : Addr}
theorem osa_openX {ox : Obj} {od : Option Obj} {name : Str} {tk : Tok} {v : Value} {R : Result -> Shared -> Prop} (X : K.In s.heap) (I : InstAt s.heap x ox C od) (hp : (clsIn K C).any (fun cd => excMro cd.mro) = true) (ht : takerIn K C name = some none)
 (h : ∀ b, wpAny (model prog w) A.in1 (Builtin.ObjectAttr.storeInOwnDict (.ref x) (.ref C) (.str name tk) name v b)
  (fun fin s' => match fin with | .done f => R (.ok f) s' | .again c' => c'.quiet = true /\ codeAny (model prog w) A c' R s') (fun e s' => R (.error e) s') s) :
 codeAny (model prog w) A (.call (.builtin "object.__setattr__") ⟨[.ref x, .str name tk, v], []⟩) R s := by
 have SF := PySem.F.store_object
 obtain ⟨cd, hc, ho⟩ := any_some hp
 obtain ⟨-, hobj, -⟩ := excMro_has ho
 have ne : cd.mro.isEmpty = false := by cases q : cd.mro with | nil => rw [q] at ho; cases ho | cons _ _ => rfl
 have sub : Looks (model prog w) s.heap (isInstance (.ref x) (.type "object")) true := I.type.andThen (looks_mroIn X (by unfold mroIn; rw [hc, Option.bind_some, if_neg (by rw [ne]; decide), hobj]))
 refine codeAny_call_builtin SF.slot.plain SF.entry (@check_slot (model prog w) _ _ s "object.__setattr__" "object" "__setattr__" (.ref x) [.str name tk, v] [] _ SF.kind SF.split sub (SF.args (.ref x) (.str name tk) v) ?_)
 obtain ⟨attr, ha, hr⟩ := Option.bind_eq_some_iff.mp ht
 have hm : Looks (model prog w) s.heap (mroOf (.ref C)) cd.mro := (looks_clsIn X hc).andThen .now
 have L3 : Looks (model prog w) s.heap (storeTaker? attr) none := by
  cases attr with
  | none => exact .now
  | some a =>
   obtain ⟨b, hb, e⟩ := Option.map_eq_some_iff.mp hr
   refine (looks_takesIn X hb).andThen ?_
   cases b with
   | true => cases e
   | false => exact .now
 rw [osa_eq, refuse_eq]
 refine wpAny_bind (wpAny_bind (I.type.here (wpAny_bind (hm.here ?_))))
 rw [excMro_refuse _ ho]
 refine wpAny_pure (wpAny_bind (I.type.here (wpAny_bind ((looks_findIn X ha).here (wpAny_bind (L3.here ?_))))))
 exact h _
theorem notCls_fields {ob : Obj} {vs : Array Value} (h : ob.data = .fields vs) : notCls ob = true := by unfold notCls; rw [h]
theorem setX_new {ox : Obj} {vs : Array Value} {name : Str} {v : Value} {Q : Unit -> Shared -> Prop} (X : K.In s.heap) (hx : s.heap.get? x = some ox) (hcl : ox.cls = .ref C) (hdn : ox.dict = none) (hdat : ox.data = .fields vs) (hk : setOkX K C name = true)
 (h : ∀ t, Q () { s with heap := ((s.heap.push emptyDict).update x fun o => { o with dict := some s.heap.objs.size }).update s.heap.objs.size (Obj.putName name (PyData.keyHash w.params name) (.str name (s.toks + 1)) v), toks := t }) :
 wpAny (model prog w) A (setAttr (.ref x) name v) Q E s := by
 unfold setOkX at hk
 simp only [Bool.and_eq_true, beq_iff_eq] at hk
 obtain ⟨⟨⟨k1, k2⟩, k3⟩, k4⟩ := hk
 have I : InstAt s.heap x ox C none := ⟨hx, hcl, notCls_fields hdat, by rw [hdn]; trivial⟩
 refine set_plain X I k1 ?_
 refine osa_openX (s := { s with toks := s.toks + 1 }) X I k2 k3 fun b => ?_
 obtain ⟨cd, hc, hd'⟩ := any_some k4
 have hne : x ≠ s.heap.objs.size := Nat.ne_of_lt (Heap.lt_size hx)
 have g1 : (s.heap.push emptyDict).get? x = some ox := Heap.get?_push_of_some _ hx
 have g2 : ((s.heap.push emptyDict).update x fun o => { o with dict := some s.heap.objs.size }).get? s.heap.objs.size = some emptyDict := (Heap.get?_update_other _ _ hne).trans (Heap.get?_push_size _ rfl)
 obtain ⟨oc, odi, oda, osl⟩ := ox
 dsimp only at hcl hdn hdat
 subst hcl hdn hdat
 refine wpAny_bind (wpAny_pure (wpAny_bind (wpAny_bind (wpAny_loadPart hx (wpAny_bind (Looks.here (s := { s with toks := s.toks + 1 }) (looks_clsIn X hc) ?_))))))
 rw [hd']
 show wpAny _ _ (alloc emptyDict >>= _) _ _ _
 refine wpAny_bind (wpAny_alloc (wpAny_bind (wpAny_update (o := ⟨.ref C, none, .fields vs, osl⟩) g1 ?_)))
 show wpAny _ _ (pure (some s.heap.objs.size)) _ _ _
 refine wpAny_pure ?_
 show wpAny _ _ (Builtin.ObjectAttr.storeInDict s.heap.objs.size _ name v) _ _ _
 unfold Builtin.ObjectAttr.storeInDict
 refine wpAny_bind (wpAny_pure (wpAny_bind ?_))
 unfold nsSet
 refine wpAny_bind (wpAny_bind (wpAny_askSetting (wpAny_pure (wpAny_bind (wpAny_mkText (wpAny_bind (wpAny_loadPart g2 ?_)))))))
 dsimp only
 have c0 : (!(#[] : Array DictEntry).any (·.key.isStr name) && (#[] : Array DictEntry).any (·.refKey)) = false := by simp
 rw [aRefKeyMayBeTheName_at, c0]
 refine wpAny_updatePart g2 ?_
 have D' : ((((s.heap.push emptyDict).update x fun o => { o with dict := some s.heap.objs.size }).update s.heap.objs.size (Obj.putName name (PyData.keyHash w.params name) (.str name (s.toks + 1)) v))).get? s.heap.objs.size = some (dictOf (putL name (PyData.keyHash w.params name) (.str name (s.toks + 1)) v []) (putN name [] 0)) :=
  (Heap.get?_update_self _ g2 (by rw [show (emptyDict : Obj) = dictOf [] 0 from rfl, putName_dict]; rfl)).trans (by rw [show (emptyDict : Obj) = dictOf [] 0 from rfl, putName_dict])
 refine wpAny_bind (wpAny_lookBehind D' (pastItsLine_dict (by simp [putL])) ?_)
 exact wpAny_pure (h _)
theorem setX_more {ox : Obj} {vs : Array Value} {dx : Addr} {es : List DictEntry} {n : Nat} {name : Str} {v : Value} {Q : Unit -> Shared -> Prop} (X : K.In s.heap) (hx : s.heap.get? x = some ox) (hcl : ox.cls = .ref C) (hdn : ox.dict = some dx) (hdat : ox.data = .fields vs)
 (D : s.heap.get? dx = some (dictOf es n)) (hk : setOkX K C name = true) (hn : es.any (·.refKey) = false) (hz : es.length <= 900)
 (h : ∀ t, Q () { s with heap := s.heap.update dx (Obj.putName name (PyData.keyHash w.params name) (.str name (s.toks + 1)) v), toks := t }) :
 wpAny (model prog w) A (setAttr (.ref x) name v) Q E s := by
 unfold setOkX at hk
 simp only [Bool.and_eq_true, beq_iff_eq] at hk
 obtain ⟨⟨⟨k1, k2⟩, k3⟩, k4⟩ := hk
 have I : InstAt s.heap x ox C (some (dictOf es n)) := ⟨hx, hcl, notCls_fields hdat, by rw [hdn]; exact D⟩
 refine set_plain X I k1 ?_
 refine osa_openX (s := { s with toks := s.toks + 1 }) X I k2 k3 fun b => ?_
 obtain ⟨cd, hc, hd'⟩ := any_some k4
 have D' : (s.heap.update dx (Obj.putName name (PyData.keyHash w.params name) (.str name (s.toks + 1)) v)).get? dx = some (dictOf (putL name (PyData.keyHash w.params name) (.str name (s.toks + 1)) v es) (putN name es n)) :=
  (Heap.get?_update_self _ D (by rw [putName_dict]; rfl)).trans (by rw [putName_dict])
 obtain ⟨oc, odi, oda, osl⟩ := ox
 dsimp only at hcl hdn hdat
 subst hcl hdn hdat
 refine wpAny_bind (wpAny_pure (wpAny_bind (wpAny_bind (wpAny_loadPart hx (wpAny_bind (Looks.here (s := { s with toks := s.toks + 1 }) (looks_clsIn X hc) ?_))))))
 rw [hd']
 refine wpAny_pure (a := some dx) (wpAny_bind (wpAny_pure (wpAny_bind ?_)))
 unfold nsSet
 refine wpAny_bind (wpAny_bind (wpAny_askSetting (wpAny_pure (wpAny_bind (wpAny_mkText (wpAny_bind (wpAny_loadPart D ?_)))))))
 dsimp only
 have c : (!es.toArray.any (·.key.isStr name) && es.toArray.any (·.refKey)) = false := by
  rw [<- Array.any_toList, <- Array.any_toList, hn, Bool.and_false]
 rw [aRefKeyMayBeTheName_at, c]
 refine wpAny_updatePart D ?_
 have hlen : (putL name (PyData.keyHash w.params name) (.str name (s.toks + 1)) v es).length <= es.length + 1 := by
  clear D D' c hn hz I
  induction es with
  | nil => simp [putL]
  | cons e r ih => unfold putL; split <;> simp; exact ih
 refine wpAny_bind (wpAny_lookBehind D' (pastItsLine_dict (by rw [List.size_toArray, sizeLine_eq]; (first | lia | omega))) ?_)
 exact wpAny_pure (h _)
end
noncomputable def makesXIn (K : Frag) (C : Addr) : Bool := match K.lookup C with
 | some ⟨_, _, .cls cd, sl⟩ => !cd.abstract && !cd.hasDel && (sl.toList[4]?).join == some (.builtin "Exception.__new__") && !cd.mro.isEmpty && cd.mro.contains (.ref C) && excMro cd.mro &&
  specialIn K (.ref C) "__call__" == some (some (.builtin "type.__call__")) && instIn K (.ref C) (.type "type") == some true
 | _ => false
structure MakesX (M : Model) (h : Heap) (C : Addr) : Prop where
 obj : ∃ oc od cd sl, h.get? C = some ⟨oc, od, .cls cd, sl⟩ /\ cd.abstract = false /\ cd.hasDel = false /\ cd.mro.isEmpty = false
 made : Looks M h (Bind.madeBy (.ref C)) (some "Exception.__new__")
 base : Looks M h (Bind.staticBase (.ref C)) (.ref C)
 self : Looks M h (isSubtype (.ref C) (.ref C)) true
 top : Looks M h (isSubtype (.ref C) (.type "Exception")) true
 bas : Looks M h (isSubtype (.ref C) (.type "BaseException")) true
 noA : Looks M h (isSubtype (.ref C) (.type "AttributeError")) false
 noN : Looks M h (isSubtype (.ref C) (.type "NameError")) false
 call : Looks M h (specialOf (.ref C) "__call__") (some (.builtin "type.__call__"))
 typ : Looks M h (isInstance (.ref C) (.type "type")) true
theorem makesX_of {K : Frag} {M : Model} {h : Heap} (X : K.In h) {C : Addr} (e : makesXIn K C = true) : MakesX M h C := by
 unfold makesXIn at e
 split at e
 . rename_i oc od cd sl ho
   simp only [Bool.and_eq_true, Bool.not_eq_true', beq_iff_eq] at e
   obtain ⟨⟨⟨⟨⟨⟨⟨e1, e2⟩, e3⟩, e4⟩, e5⟩, e6⟩, e7⟩, e8⟩ := e
   obtain ⟨m1, m2, m3, m4, m5⟩ := excMro_has e6
   have hc : clsIn K C = some cd := by unfold clsIn; rw [ho]
   have hm : Looks M h (mroOf (.ref C)) cd.mro := (looks_clsIn X hc).andThen .now
   obtain ⟨c, l, hl⟩ : ∃ c l, cd.mro = c :: l := by cases q : cd.mro with | nil => rw [q] at e4; cases e4 | cons c l => exact ⟨c, l, rfl⟩
   have made : Looks M h (Bind.madeBy (.ref C)) (some "Exception.__new__") := by
    intro A Q E s k q
    unfold Bind.madeBy
    refine wpAny_bind (hm A _ E s k ?_)
    rw [hl, List.forIn_cons]
    refine wpAny_bind (wpAny_bind (wpAny_bind (wpAny_bind (wpAny_loadPart (k _ _ (X _ _ ho)) (wpAny_pure ?_)))))
    dsimp only
    rw [<- Array.getElem?_toList, e3]
    exact wpAny_pure (wpAny_pure (wpAny_pure q))
   have sub : ∀ {b : Value} {r : Bool}, cd.mro.contains b = r -> Looks M h (isSubtype (.ref C) b) r := fun hb => looks_mroIn X (by unfold mroIn; rw [hc, Option.bind_some, if_neg (by rw [e4]; decide), hb])
   refine ⟨⟨oc, od, cd, sl, X _ _ ho, e1, e2, e4⟩, made, ?_, sub e5, sub m1, sub m3, sub m4, sub m5, looks_specialIn X e7, looks_instIn X e8⟩
   . intro A Q E s k q
     unfold Bind.staticBase
     refine wpAny_bind (hm A _ E s k ?_)
     rw [hl, List.forIn_cons]
     exact wpAny_bind (wpAny_bind (wpAny_bind (made A _ E s k (wpAny_pure (wpAny_pure (wpAny_pure q))))))
 . cases e
noncomputable abbrev excObj (C t : Addr) : Obj := { cls := .ref C, data := .fields #[.ref t, .none, .none, .none, .bool false, .none] }
noncomputable abbrev argsObj (rest : List Value) : Obj := { cls := .type "tuple", data := .seq rest.toArray }
section
variable {prog : Program} {w : World} {A : Around} {K : Frag} {C : Addr} {R : Result -> Shared -> Prop} {h : Heap} {g : Array GenState} {d : Drawn} {t : Nat} {os : OsState}
theorem newX {rest : List Value} (Y : MakesX (model prog w) h C) (hrest : rest.length <= sizeLine)
 (hq : R (.ok (.ret (.ref (h.objs.size + 1)))) ⟨(h.push (argsObj rest)).push (excObj C h.objs.size), g, d, t, os⟩) :
 codeAny (model prog w) A (.call (.builtin "Exception.__new__") ⟨.ref C :: rest, []⟩) R ⟨h, g, d, t, os⟩ := by
 obtain ⟨⟨oc, od, cd, sl, hC, e1, e2, e4⟩, made, base, self, top, bas, noA, noN, call, typ⟩ := Y
 have F := PySem.F.excBase_Exception
 have hstar := F.noStar
 refine codeAny_call_builtin_code (Code.quiet_builtin _ F.quiet) ?_
 simp only [checkBuiltinCall, F.newKind, F.newSplit, F.newRow]
 repeat (first | simp only [bne_self_eq_false, Bool.false_eq_true, if_false] | lk | wp_step)
 refine PySem.codeAny_builtinAt F.entry ?_
 unfold Builtin.«BaseException.__new__»
 refine PySem.wpAt_bind ?_
 show PySem.wpAt _ _ _ (stack >>= _) _ _ _
 refine PySem.wpAt_bind (PySem.wpAt_stack fun p below => PySem.wpAt_of_wpAny ?_)
 have hends := F.ends
 have here : Looks (model prog w) h (Bind.madeHere "BaseException.__new__" (.ref C)) () := base.andThen (made.andThen (Looks.of_pure (by simp only [Option.map_some, F.canon, bne_self_eq_false, Bool.false_eq_true, if_false])))
 wp_walk
 refine PySem.wpAt_of_wpAny ?_
 rw [F.owner]
 repeat (first | lk | wp_step)
 refine nd_load (Heap.get?_push_of_some _ (Heap.get?_push_of_some _ hC)) ?_
 refine wpAny_pure ?_
 dsimp only
 rw [e2]
 refine wpAny_pure ?_
 rw [if_neg (by decide)]
 refine wpAny_pure ?_
 refine wpAny_pure ?_
 show R _ _
 rw [Heap.size_push]
 exact hq
theorem makeX_core {rest : List Value} {fI : Addr} (Y : MakesX (model prog w) h C) (hi : Looks (model prog w) h (typeLookup (.ref C) "__init__") (some (.ref fI))) (hrest : rest.length <= sizeLine)
 (hb : ∀ self, Looks (model prog w) h (bindSpecial (.ref fI) self) (.ref fI, [self]))
 (hq : codeAny (model prog w) (A.under (.builtin "type.__call__" ⟨.ref C :: rest, []⟩)) (.call (.ref fI) ⟨.ref (h.objs.size + 1) :: rest, []⟩) (InitBack (h.objs.size + 1) R) ⟨(h.push (argsObj rest)).push (excObj C h.objs.size), g, d, t, os⟩) :
 codeAny (model prog w) A (.call (.ref C) ⟨rest, []⟩) R ⟨h, g, d, t, os⟩ := by
 have Y' := Y
 obtain ⟨⟨oc, od, cd, sl, hC, e1, e2, e4⟩, made, base, self, top, bas, noA, noN, call, typ⟩ := Y
 refine codeAny_of_tree ?_
 show wpAny _ _ (callAny (.ref C) _) _ _ _
 refine nd_load hC ?_
 show wpAny _ _ (callAny.viaDunder (.ref C) _) _ _ _
 unfold callAny.viaDunder
 refine wpAny_bind (call.at ?_)
 dsimp only
 rw [tc_bind]
 refine wpAny_bind (wpAny_pure (wpAny_bind (wpAny_pure ?_)))
 refine wpAny_pure (a := Fin.again (.call (.builtin "type.__call__") ⟨.ref C :: rest, []⟩)) (And.intro rfl ?_)
 refine codeAny_call_builtin_at (Code.quiet_builtin _ (by decide +kernel)) entry_typeCall (check_slot tc_kind tc_split typ (tc_args _ _ _) ?_)
 unfold Builtin.«type.__call__»
 have hm : Looks (model prog w) h (mroOf (.ref C)) cd.mro := ((Looks.ld (part := none) hC).andThen .now).andThen .now
 repeat (first | simp only [e4, Bool.false_eq_true, if_false] | with_reducible refine wpAny_call ?_ | lk)
 refine newX Y' hrest ?_
 have k : ∀ b o, h.get? b = some o -> ((h.push (argsObj rest)).push (excObj C h.objs.size)).get? b = some o := fun b o e => Heap.get?_push_of_some _ (Heap.get?_push_of_some _ e)
 have hx : ((h.push (argsObj rest)).push (excObj C h.objs.size)).get? (h.objs.size + 1) = some (excObj C h.objs.size) := by
  have := Heap.get?_push_size (h.push (argsObj rest)) (o := excObj C h.objs.size) rfl
  rwa [Heap.size_push] at this
 have t1 : Looks (model prog w) ((h.push (argsObj rest)).push (excObj C h.objs.size)) (typeOf (.ref (h.objs.size + 1))) (.ref C) := (Looks.ld hx).andThen .now
 have s1 := self.keeps k
 have i1 := hi.keeps k
 have b1 := (hb (.ref (h.objs.size + 1))).keeps k
 unfold isInstance callSpecial? specialOf
 repeat (first | with_reducible refine wpAny_call ?_ | lk)
 refine codeAny_mono hq fun r s' z => ?_
 rcases r with e | (v | _ | _ | _) <;> first | exact z | exact z.elim | skip
 obtain ⟨rfl, z⟩ := z
 exact wpAny_pure (wpAny_pure z)
end
section
variable {o : Wo} [W : WoOk o] {c : Cx} {k : Kx} {loc : LocF} {st : St} {Q : V -> St -> Prop} {X : Exc -> St -> Prop} {QF : Fl -> LocF -> St -> Prop} {QL : LocF -> St -> Prop}
theorem call_exc {C fI : Addr} {as : List V} (hm : makesXIn o.K C = true) (hi : findIn o.K (.ref C) "__init__" = some (some (.ref fI))) (hf : isFn o.K (.ref fI) = true) (hn : 1 <= k.n) (hz : as.length <= sizeLine)
 (h : ∀ A' x, A'.frames = k.A.frames -> st x = none -> CALLC o ⟨A', k.fs, k.n - 1⟩ (st.set x (.exo C none)) (.ref fI) (.ptr x :: as) (fun v st' => v = .none /\ Q (.ptr x) st') X) : CALLC o k st (.ref C) as Q X := fun s vs S r => by
 obtain ⟨hp, g, d, t, os⟩ := s
 refine makeX_core (makesX_of S.wd.k hm) (looks_findIn S.wd.k hi) (by rw [<- r.length]; exact hz) (fun self => bind_fn S.wd.k self (beq_iff_eq.mp hf)) ?_
 have eF : ∀ x : Option (List Env), pushEnvs (Code.envs (.builtin "type.__call__" ⟨.ref C :: vs, []⟩)) x = x := fun x => rfl
 have eW : Code.weight (.builtin "type.__call__" ⟨.ref C :: vs, []⟩) = 1 := by rfl
 have eU : Code.cUnits (.builtin "type.__call__" ⟨.ref C :: vs, []⟩) = 1 := by rfl
 have hA : KxOk ⟨k.A.under (.builtin "type.__call__" ⟨.ref C :: vs, []⟩), k.fs, k.n - 1⟩ := by
  have h1 := S.ok.depth; have h2 := S.ok.units
  refine ⟨?_, ?_, ?_, S.ok.handled⟩
  . exact (eF _).trans S.ok.fr
  . show k.A.depth + Code.weight (.builtin "type.__call__" ⟨.ref C :: vs, []⟩) + (k.n - 1) < _
    rw [eW]; (first | lia | omega)
  . show k.A.units + Code.cUnits (.builtin "type.__call__" ⟨.ref C :: vs, []⟩) + 5 * (k.n - 1) + 40 < _
    rw [eU]; (first | lia | omega)
 have Sd : Step o.P noF st ⟨hp, g, d, t, os⟩ st ⟨hp.push (argsObj vs), g, d, t, os⟩ := Step.push (s := ⟨hp, g, d, t, os⟩) S.hs (argsObj vs) t
 have Si : Step o.P noF st ⟨hp.push (argsObj vs), g, d, t, os⟩ (st.set (hp.push (argsObj vs)).objs.size (.exo C none)) ⟨(hp.push (argsObj vs)).push (excObj C hp.objs.size), g, d, t, os⟩ :=
  Step.alloc (s := ⟨hp.push (argsObj vs), g, d, t, os⟩) Sd.holds (excObj C hp.objs.size) (.exo C none) rfl (.exo rfl rfl rfl rfl rfl) t
 rw [Heap.size_push] at Si
 have S1 := Sd.trans Si
 have SI1 := S.step S1
 have hsn : st (hp.objs.size + 1) = none := by
  have := size_none (st := st) (P := o.P) Sd.holds
  rwa [show (⟨hp.push (argsObj vs), g, d, t, os⟩ : Shared).heap.objs.size = hp.objs.size + 1 from Heap.size_push ..] at this
 refine codeAny_mono (h (k.A.under (.builtin "type.__call__" ⟨.ref C :: vs, []⟩)) (hp.objs.size + 1) (eF _) hsn _ (.ref (hp.objs.size + 1) :: vs) (SI1.of_depth hA SI1.fs) (.cons (.ptr _) (r.keep S.hs S1.kp))) fun rr s' z => ?_
 rcases rr with e | (v | _ | _ | _)
 . exact PXg.trans (G := fun _ => True) S1 (show PX o noF _ _ X e s' from z)
 all_goals first | exact z.elim | skip
 obtain ⟨rv, st', r1, S2, rfl, q⟩ := z
 cases r1
 exact ⟨rfl, .ptr (hp.objs.size + 1), st', .ptr _, S1.trans S2, q⟩
theorem seta_exo_new {e C : Addr} {name : Str} {v : V} {Q : St -> Prop} (hst : st e = some (.exo C none)) (hk : setOkX o.K C name = true) (h : ∀ d, st d = none -> d ≠ e -> Q ((st.set e (.exo C (some d))).set d (.sd [(name, v)]))) : SETA o k st (.ptr e) name v Q X := fun s va u S r rv => by
 cases r
 obtain ⟨ob, e1, m1⟩ := S.hs e _ hst
 cases m1 with
 | exo a b c' d' f =>
 rename_i vs a0
 refine setX_new S.wd.k e1 a b c' hk fun t => ?_
 have hne : e ≠ s.heap.objs.size := Nat.ne_of_lt (Heap.lt_size e1)
 have S1 : Step o.P noF st s (st.set s.heap.objs.size (.sd [])) { s with heap := s.heap.push emptyDict, toks := t } := Step.alloc S.hs emptyDict (.sd []) rfl (.sd (n := 0) .nil) t
 have g1 : (s.heap.push emptyDict).get? e = some ob := Heap.get?_push_of_some _ e1
 have hse : (st.set s.heap.objs.size (.sd [])) e = some (.exo C none) := (St.set_ne _ _ hne).trans hst
 have S2 : Step o.P noF (st.set s.heap.objs.size (.sd [])) { s with heap := s.heap.push emptyDict, toks := t } ((st.set s.heap.objs.size (.sd [])).set e (.exo C (some s.heap.objs.size))) { s with heap := (s.heap.push emptyDict).update e fun o => { o with dict := some s.heap.objs.size }, toks := t } :=
  Step.upd (s := { s with heap := s.heap.push emptyDict, toks := t }) S1.holds (by rw [hse]; simp) (Heap.SameBut.update ..) (Heap.get?_update_self (fun o => { o with dict := some s.heap.objs.size }) g1 (Obj.isFreed_of_fields (o := { ob with dict := some s.heap.objs.size }) c')) (fun hh K => .exo a rfl c' d' f) t
 have g2 : ((s.heap.push emptyDict).update e fun o => { o with dict := some s.heap.objs.size }).get? s.heap.objs.size = some (dictOf [] 0) := (Heap.get?_update_other _ _ hne).trans (Heap.get?_push_size _ rfl)
 have hse2 : ((st.set s.heap.objs.size (.sd [])).set e (.exo C (some s.heap.objs.size))) s.heap.objs.size = some (.sd []) := (St.set_ne _ _ (Ne.symm hne)).trans (St.set_same ..)
 have S12 := S1.trans S2
 have S3 : Step o.P noF ((st.set s.heap.objs.size (.sd [])).set e (.exo C (some s.heap.objs.size))) { s with heap := (s.heap.push emptyDict).update e fun o => { o with dict := some s.heap.objs.size }, toks := t }
  (((st.set s.heap.objs.size (.sd [])).set e (.exo C (some s.heap.objs.size))).set s.heap.objs.size (.sd [(name, v)])) { s with heap := ((s.heap.push emptyDict).update e fun o => { o with dict := some s.heap.objs.size }).update s.heap.objs.size (Obj.putName name (PyData.keyHash o.w.params name) (.str name (s.toks + 1)) u), toks := t } :=
  Step.upd (s := { s with heap := (s.heap.push emptyDict).update e fun o => { o with dict := some s.heap.objs.size }, toks := t }) S12.holds (by rw [hse2]; simp) (Heap.SameBut.update ..) (Heap.get?_update_self _ g2 (by rw [putName_dict]; rfl)) (fun hh K => by
   rw [putName_dict]
   exact .sd (.cons ((rv.keep S.hs S12.kp).keep S12.holds K) .nil)) t
 have S123 := S12.trans S3
 have eq : (((st.set s.heap.objs.size (.sd [])).set e (.exo C (some s.heap.objs.size))).set s.heap.objs.size (.sd [(name, v)])) = ((st.set e (.exo C (some s.heap.objs.size))).set s.heap.objs.size (.sd [(name, v)])) := by
  funext b
  unfold St.set
  by_cases q : b = s.heap.objs.size
  . simp [q]
  . simp [q]
 rw [eq] at S123
 exact ⟨_, S123, h _ (size_none S.hs) (Ne.symm hne)⟩
theorem seta_exo {e C dx : Addr} {l : List (Str × V)} {name : Str} {v : V} {Q : St -> Prop} (hst : st e = some (.exo C (some dx))) (hdx : st dx = some (.sd l)) (hk : setOkX o.K C name = true) (hz : l.length <= 900) (h : Q (st.set dx (.sd (sput name v l)))) : SETA o k st (.ptr e) name v Q X := fun s va u S r rv => by
 cases r
 obtain ⟨ob, e1, m1⟩ := S.hs e _ hst
 obtain ⟨od, e2, m2⟩ := S.hs dx _ hdx
 cases m1 with
 | exo a b c' d' f =>
 cases m2 with
 | sd se =>
 refine setX_more S.wd.k e1 a b c' e2 hk se.noRef (by rw [se.len]; exact hz) fun t => ⟨_, ?_, h⟩
 refine Step.upd S.hs (by rw [hdx]; simp) (Heap.SameBut.update ..) (Heap.get?_update_self _ e2 (by rw [putName_dict]; rfl)) (fun hh K => ?_) t
 rw [putName_dict]
 have : SEs o.P hh (sput name v l) (putL name (PyData.keyHash o.w.params name) (.str name (s.toks + 1)) u _) := SEs.put (rv.keep S.hs K) (by
  have := MOR.keep S.hs K (MOR.sd (P := o.P) (n := 0) se)
  cases this with | sd x => exact x)
 exact .sd this
end
section
variable {o : Wo} [W : WoOk o] {c : Cx} {k : Kx} {loc : LocF} {st : St} {Q : V -> St -> Prop} {X : Exc -> St -> Prop} {QF : Fl -> LocF -> St -> Prop} {QL : LocF -> St -> Prop}
theorem raise_R {env : Env} {A : Around} {m : Sem Value} {K : Frag} {s : Shared} {E : Value -> Shared -> Prop} {Q : Flow -> Shared -> Prop} (hh : A.handled = none)
 (h : wpAny o.M A m (fun v s₁ => ∃ x C ob vs, v = .ref x /\ K.In s₁.heap /\ makesXIn K C = true /\ typeIn K (.ref C) = some (.type "type") /\ s₁.heap.get? x = some ob /\ ob.cls = .ref C /\ ob.data = .fields vs /\ vs[1]? = some .none /\ E (.ref x) s₁) E s) :
 wpAny o.M A (raiseStmt env (some m) none) Q E s := by
 unfold raiseStmt
 refine wpAny_bind (wpAny_mono h (fun v s₁ h₁ => ?_) fun _ _ x => x)
 obtain ⟨x, C, ob, vs, rfl, X, hm, ht, he, hcl, hd, h1, hE⟩ := h₁
 obtain ⟨hp, g, d, tk, os⟩ := s₁
 obtain ⟨⟨oc, od, cd, sl, hC, e1, e2, e4⟩, made, base, self, top, bas, noA, noN, call, typ⟩ := makesX_of (M := o.M) X hm
 have ty : Looks o.M hp (typeOf (.ref x)) (.ref C) := by rw [<- hcl]; exact (Looks.ld he).andThen .now
 obtain ⟨cl, di, da, sl'⟩ := ob
 dsimp only at hcl hd
 subst hcl hd
 obtain ⟨oK, hoK, hoT⟩ := Option.map_eq_some_iff.mp ht
 have hoc : oc = .type "type" := by
  have := X C oK hoK
  rw [hC] at this; cases this
  exact hoT
 subst hoc
 repeat (first | lk | wp_step)
 rw [h1]
 refine wpAny_pure ?_
 rw [if_neg (by decide)]
 exact wpAny_pure (wpAny_raiseNew_none hh hE)
inductive RaiseP (o : Wo) (st : St) (X : Exc -> St -> Prop) (v : V) (st₁ : St) : Prop
 | mk (x C dx : Addr) (l : List (Str × V)) (st₂ : St) (e : v = .ptr x) (h1 : st₁ x = some (.exo C (some dx))) (h2 : st₁ dx = some (.sd l)) (h3 : st x = none) (h4 : st dx = none) (h5 : makesXIn o.K C = true) (h6 : typeIn o.K (.ref C) = some (.type "type"))
  (h7 : St.le st₂ st₁) (h8 : st₂ x = none) (h9 : st₂ dx = none) (h10 : X ⟨C, l⟩ st₂)
theorem ex_raise {e : Expr} {pos : Pos} (h : EV o c loc st e (fun v st₁ => RaiseP o st X v st₁) X) : EX o c loc st (.Raise (some e) none pos) QF X := fun s I => by
 rw [arm_exec_Raise]
 refine wpAny_bind (wpAny_standAt (raise_R (K := o.K) I.si.ok.handled (wpAny_bind (pxw I (h.use I fun v st₁ va s₁ q S I₁ r => wpAny_bind (wpAny_standAt (wpAny_pure ?_)))))))
 obtain ⟨x, C, dx, l, st₂, rfl, h1, h2, h3, h4, h5, h6, h7, h8, h9, h10⟩ := q
 cases r
 obtain ⟨ob, e1, m1⟩ := I₁.si.hs x _ h1
 obtain ⟨od, e2, m2⟩ := I₁.si.hs dx _ h2
 cases m1 with
 | exo a b c' d' f =>
 cases m2 with
 | sd se =>
 rename_i vs a0 es n
 have n1 : s.heap.get? x = none := by
  rcases S.sub x (by rw [h1]; simp) with q | q
  . exact absurd h3 q
  . exact q
 have n2 : s.heap.get? dx = none := by
  rcases S.sub dx (by rw [h2]; simp) with q | q
  . exact absurd h4 q
  . exact q
 exact ⟨x, C, ob, vs, rfl, I₁.si.wd.k, h5, h6, e1, a, c', f, ⟨C, l⟩, st₂, x, rfl, ⟨dx, ob, vs, a0, es, n, e1, a, b, c', d', e2, se, n1, n2, ⟨h9, h8⟩, .no f⟩, (S.weak).forget h7, I₁.lc.nil, h10⟩
end
noncomputable def getOkX (K : Frag) (C : Addr) (name : Str) : Bool := findIn K (.ref C) "__getattribute__" == some (some (.builtin "BaseException.__getattribute__")) && findIn K (.ref C) "__getattr__" == some none && hasDictIn K C &&
 (match findIn K (.ref C) name with | some attr => noGet K attr | none => false) && makesXIn K C
theorem ga_kind : builtinKind "BaseException.__getattribute__" = some .slot := by decide +kernel
theorem ga_split : splitId "BaseException.__getattribute__" = some ("BaseException", "__getattribute__") := by decide +kernel
theorem ga_plain : plainId "BaseException.__getattribute__" = true := by decide +kernel
theorem ga_bind (self : Value) : bindSpecial (.builtin "BaseException.__getattribute__") self = pure (.builtin "BaseException.__getattribute__", [self]) :=
 PySem.F.excAttr_ValueError.ga.bind self
section
variable {prog : Program} {w : World} {A : Around} {E : Value -> Shared -> Prop} {s : Shared} {K : Frag} {x C : Addr}
theorem getX {ox od : Obj} {name : Str} {v : Value} {expr : Bool} {Q : Value -> Shared -> Prop} (X : K.In s.heap) (I : InstAt s.heap x ox C (some od)) (hk : getOkX K C name = true) (hl : lookIn name od = some (some v)) (hv : handedIn v = true)
 (h : Q v { s with toks := s.toks + 1 }) : wpAny (model prog w) A (getAttr (.ref x) name expr) Q E s := by
 unfold getOkX at hk
 simp only [Bool.and_eq_true, beq_iff_eq] at hk
 obtain ⟨⟨⟨⟨k1, k2⟩, k3⟩, k4⟩, k5⟩ := hk
 split at k4
 case h_2 => cases k4
 rename_i attr ha
 obtain ⟨hh, g, d, t, os⟩ := s
 have L0 := I.type (M := model prog w)
 have L1 := looks_findIn (M := model prog w) X k1
 have L2 := looks_findIn (M := model prog w) X k2
 have L3 := looks_find (M := model prog w) X I (findObj_own k3 ha k4 hl)
 have Y := makesX_of (M := model prog w) X k5
 have sub : Looks (model prog w) hh (isInstance (.ref x) (.type "BaseException")) true := L0.andThen Y.bas
 unfold getAttr getAttrBy
 refine wpAny_bind (wpAny_mkText (wpAny_holding (wpAny_bind (L0.at (wpAny_bind (L1.at ?_))))))
 dsimp only
 rw [if_neg (by rw [Bool.and_eq_true]; rintro ⟨_, q⟩; revert q; decide)]
 unfold getAttrByItsOwn hookBefore
 rw [if_pos (show onTheHeap (.ref C) = true from rfl)]
 refine wpAny_bind (L2.at (wpAny_bind (wpAny_attempt (wpAny_holding ?_))))
 unfold callGetattribute
 rw [if_neg (by cases expr <;> decide)]
 unfold boundAndCalled
 rw [ga_bind]
 refine wpAny_bind (wpAny_pure ?_)
 refine wpAny_call (codeAny_call_builtin ga_plain PySem.F.entry_bexc_ga (@check_slot (model prog w) _ _ _ "BaseException.__getattribute__" "BaseException" "__getattribute__" (.ref x) [.str name t] [] _ ga_kind ga_split sub (PySem.F.args_bexc_ga _ _) ?_))
 unfold Builtin.«object.__getattribute__»
 repeat (first | lk | wp_step)
 show wpAny _ _ (handedOut v) _ _ _
 rw [handedOut_of hv]
 exact wpAny_pure h
end
section
variable {M : Model} {A : Around} {E : Value -> Shared -> Prop} {s : Shared} {env : Env}
theorem wpAny_nsDelC {a : Addr} {m : Str -> Option Value} {name : Str} {Q : Bool -> Shared -> Prop} (hn : s.heap.Ns a m)
 (hQ : ∀ h', (∃ m', h'.Ns a m') -> Heap.SameBut a s.heap h' -> (∀ ob, s.heap.get? a = some ob -> OOx h' a ob) -> Q (m name).isSome { s with heap := h' }) : wpAny M A (nsDel a name) Q E s := by
 obtain ⟨o, es, ep, ho, hd, hk, hm⟩ := id hn
 have hany : es.any (·.refKey) = false := by
  rw [Array.any_eq_false']; intro e he; obtain ⟨n, t, h⟩ := hk e he; simp [DictEntry.refKey, h]
 have hsome : (m name).isSome = es.any (·.key.isStr name) := by
  rw [<- hm name]; simp only [nsFind, findBy, Option.isSome_map]
  rw [Bool.eq_iff_iff]; simp only [Array.find?_isSome, Array.any_eq_true]
  constructor
  . rintro ⟨x, hx, hp⟩; obtain ⟨i, hi, rfl⟩ := Array.mem_iff_getElem.mp hx; exact ⟨i, hi, hp⟩
  . rintro ⟨i, hi, hp⟩; exact ⟨_, Array.getElem_mem hi, hp⟩
 have hhas : nsHas name o = pure (es.any (·.key.isStr name)) := by
  rw [nsHas_eq]; unfold nsHasByArray; rw [hd]
  show (if (es.any fun x => x.key.isStr name) = true then _ else _) = _
  generalize (es.any fun x => x.key.isStr name) = b
  cases b <;> simp [hany]
 unfold nsDel
 refine wpAny_bind (wpAny_loadPart ho ?_)
 rw [hhas]
 refine wpAny_bind (wpAny_pure ?_)
 rw [<- hsome]
 cases hmn : (m name).isSome
 . have := hQ s.heap ⟨m, hn⟩ (.refl ..) fun ob hob => ⟨ob, hob, .refl ob⟩
   rw [hmn] at this
   exact wpAny_pure this
 . refine wpAny_bind (wpAny_updatePart ho (wpAny_pure ?_))
   have key : ∃ es' ep', (Obj.dropName name o).data = .dict es' ep' /\ (Obj.dropName name o).cls = o.cls /\ ∃ m', (s.heap.update a (Obj.dropName name)).Ns a m' := by
    obtain ⟨cl, d, dt, sl⟩ := o
    subst hd
    cases hi : es.findIdx? (·.key.isStr name) with
    | some i => exact ⟨_, _, (by simp only [Obj.dropName_eq, Obj.dropNameByArray, hi] <;> rfl), by simp only [Obj.dropName_eq, Obj.dropNameByArray, hi], _, _, _, ep + 1, Heap.get?_update_self _ ho (by simp only [Obj.dropName_eq, Obj.dropNameByArray, hi] <;> rfl), (by simp only [Obj.dropName_eq, Obj.dropNameByArray, hi] <;> rfl), hk.erase i, fun _ => rfl⟩
    | none => exact ⟨_, _, (by simp only [Obj.dropName_eq, Obj.dropNameByArray, hi] <;> rfl), by simp only [Obj.dropName_eq, Obj.dropNameByArray, hi], _, _, _, ep, Heap.get?_update_self _ ho (by simp only [Obj.dropName_eq, Obj.dropNameByArray, hi] <;> rfl), (by simp only [Obj.dropName_eq, Obj.dropNameByArray, hi] <;> rfl), hk, fun _ => rfl⟩
   obtain ⟨es', ep', d1, d2, m', hm'⟩ := key
   have := hQ _ ⟨m', hm'⟩ (Heap.SameBut.update ..) fun ob hob => by
    rw [ho] at hob; cases hob
    exact ⟨_, Heap.get?_update_self _ ho (Obj.isFreed_of_dict d1), d2, fun _ => ⟨_, _, d1⟩, fun ⟨v, q⟩ => by (rw [hd] at q; cases q)⟩
   rw [hmn] at this
   exact this
end
section
variable {o : Wo} [W : WoOk o] {c : Cx} {k : Kx} {loc : LocF} {st : St} {Q : V -> St -> Prop} {X : Exc -> St -> Prop} {QF : Fl -> LocF -> St -> Prop} {QL : LocF -> St -> Prop}
theorem step_mine {L : Addr} {h' : Heap} {s : Shared} (I : Inv o c loc st s) (hL : own c L) (sb : Heap.SameBut L s.heap h') (oo : ∀ ob, s.heap.get? L = some ob -> OOx h' L ob) (t : Nat) : Step o.P (own c) st s st { s with heap := h', toks := t } := by
 have K : KpD (fun b => st b ≠ none \/ own c b) s.heap h' := fun b ob hb hob => ⟨ob, (sb.2 b (by intro q; subst q; exact hb (.inr hL))).trans hob, .refl ob⟩
 refine ⟨fun a m e => ?_, fun a e => .inl e, fun b ob hf _ hob => ⟨ob, (sb.2 b (by intro q; subst q; exact hf hL)).trans hob, .refl ob⟩, fun b ob hf hst hob => ?_, fun b e => ?_, rfl, rfl⟩
 . obtain ⟨ob, h1, h2⟩ := I.si.hs a m e
   have : a ≠ L := by intro q; subst q; rw [I.ost a hL] at e; cases e
   exact ⟨ob, (sb.2 a this).trans h1, h2.keepD (DOk.own I) K⟩
 . by_cases q : b = L
   . subst q; exact oo ob hob
   . exact ⟨ob, (sb.2 b q).trans hob, .refl ob⟩
 . by_cases q : b = L
   . subst q
     obtain ⟨ob, hob⟩ := Option.isSome_iff_exists.mp e
     obtain ⟨ob', h1, _⟩ := oo ob hob
     show (h'.get? b).isSome = true
     rw [h1]; rfl
   . show (h'.get? b).isSome = true
     rw [sb.2 b q]; exact e
theorem unbind_R {A : Around} {s : Shared} {x : Str} {v : V} {pos : Pos} {E : Value -> Shared -> Prop} {Q : Unit -> Shared -> Prop} (I : Inv o c loc st s) (hx : c.env.kindOf x = some .local) (hv : loc x = some v)
 (h : ∀ h' t, Step o.P (own c) st s st { s with heap := h', toks := t } -> LocR c.env LocF.nil h' -> Q () { s with heap := h', toks := t }) : wpAny o.M A (unbindBehindTheSuite c.env x pos) Q E s := by
 obtain ⟨m, hm, q⟩ := I.lc.ns
 have hsome : (m x).isSome = true := by
  rcases q x v hv with ⟨_, u, hu, _⟩ | ⟨hk, _⟩
  . rw [hu]; rfl
  . rcases hk with hk | hk <;> (rw [hx] at hk; cases hk)
 have locne : ∀ (a : Addr) (w : Option Value), s.heap.IsCell a w -> a ≠ c.env.locals := fun a w ⟨ob, h1, h2⟩ e => by
  subst e
  obtain ⟨ob', es, ep, h3, h4, _⟩ := hm
  rw [h1] at h3; cases h3; rw [h2] at h4; cases h4
 unfold unbindBehindTheSuite unbindName deleteName
 refine wpAny_onRaise (wpAny_bind (wpAny_point (wpAny_bind ?_)))
 simp only [hx, I.cx.kind]
 refine wpAny_bind (m := nsDel c.env.locals x) (wpAny_nsDelC hm fun h' ⟨m', hm'⟩ hs oo => ?_)
 rw [hsome]
 refine wpAny_pure (wpAny_point ?_)
 refine h h' s.toks (step_mine I (.inl rfl) hs oo _) ⟨⟨m', hm', fun _ _ e => nomatch e⟩, fun y a e => ?_, I.lc.apart⟩
 obtain ⟨w, hw⟩ := I.lc.cells y a e
 exact ⟨w, hw.sameBut hs (locne a _ hw)⟩
end
section
variable {o : Wo} [W : WoOk o] {c : Cx} {k : Kx} {loc : LocF} {st st₁ st' : St} {s s' : Shared} {Q : V -> St -> Prop} {X : Exc -> St -> Prop} {QF : Fl -> LocF -> St -> Prop}
theorem Inv.stepN {h0 : Heap} (I : Inv o c loc st s) (hAd : ∀ a, o.ad a -> (h0.get? a).isSome = true) (x : Step o.P (NewRec h0 s.heap) st s st' s') : Inv o c loc st' s' := by
 have nad : ∀ a, o.ad a -> ¬ NewRec h0 s.heap a := fun a ha q => by have := hAd a ha; rw [q.1] at this; cases this
 have nown : ∀ a, own c a -> ¬ (st a ≠ none \/ NewRec h0 s.heap a) := fun a ha q => by
  rcases q with q | ⟨_, ob, vs, h1, h2, h3⟩
  . exact q (I.ost a ha)
  . obtain ⟨ob', T', e1, e2, e3⟩ := I.ow.ex a ha
    rw [h1] at e1; cases e1
    rcases e3 with ⟨es, n, e3⟩ | ⟨v, e3⟩ <;> (rw [h2] at e3; cases e3)
 have ad : ∀ a, o.ad a -> ∀ ob, s.heap.get? a = some ob -> KOx s'.heap a ob := fun a ha ob hob => x.ext a ob (nad a ha) (I.si.sep a ha) hob
 have nk : ∀ {a : Addr} {m : Str -> Option Value}, o.ad a -> s.heap.Ns a m -> s'.heap.Ns a m := fun {a m} ha ⟨ob, es, ep, h1, h2, r⟩ => by
  obtain ⟨o', h, k⟩ := ad a ha ob h1
  exact ⟨o', es, ep, h, k.data.trans h2, r⟩
 refine ⟨I.cx, ⟨I.si.ok, ⟨fun a ob e => ?_, nk (.inr (.inl rfl)) I.si.wd.g, nk (.inr (.inr (.inl rfl))) I.si.wd.b, I.si.wd.bi, ?_⟩, I.si.fs.stepF I.si.hs x, x.holds, fun a ha => none_of_sub x.sub (I.si.sep a ha) (In.ex I.si.wd ha)⟩, ?_, I.ow.step I.ost x, fun a ha => ?_, I.oad⟩
 . obtain ⟨o', h, k⟩ := ad a (.inl ⟨ob, e⟩) ob (I.si.wd.k a ob e)
   rw [k.eq (W.noFrame a ob e)] at h
   exact h
 . obtain ⟨mc, h1, h2⟩ := I.si.wd.nolimit
   exact ⟨mc, nk (.inr (.inr (.inr rfl))) h1, h2⟩
 . exact LocR.keepD I (NewRec.dok I.si.hs) x.kpd nown
 . obtain ⟨ob, T, h1, _⟩ := I.ow.ex a ha
   exact x.still (I.ost a ha) h1
theorem Flying.stepO {fl : Option Addr} {h0 : Heap} {y : Exc} {e : Addr} (fly : Flying o.P fl st h0 s.heap y e) (I : Inv o c loc st s) (hown : ∀ a, own c a -> (h0.get? a).isSome = true) (x : Step o.P (own c) st s st s') : Flying o.P fl st h0 s'.heap y e := by
 obtain ⟨dx, oe, vs, a0, es, n, b1, b2, b3, b4, b5, b6, b7, enew, dnew, ⟨b10, b10e⟩, b11⟩ := fly
 have no : ∀ {a}, h0.get? a = none -> ¬ own c a := fun {a} h q => by have := hown a q; rw [h] at this; cases this
 have keep : ∀ {a ob}, h0.get? a = none -> st a = none -> s.heap.get? a = some ob -> ob.cls ≠ .type "frame" -> s'.heap.get? a = some ob := fun {a ob} h1 h2 h3 h4 => by
  obtain ⟨o', h, k⟩ := x.ext a ob (no h1) h2 h3
  rw [k.eq h4] at h; exact h
 exact ⟨dx, oe, vs, a0, es, n, keep enew b10e b1 (by rw [b2]; intro q; cases q), b2, b3, b4, b5, keep dnew b10 b6 (by simp), b7.keepV (KpV.of (DOk.own I) x.kpd), enew, dnew, ⟨b10, b10e⟩, b11.imp (fun _ => id) (fun T oT c3 c4 c7 ⟨ts, c5⟩ => keep c3 (rec_not_st I.si.hs c4 c7 c5) c4 (by rw [c7]; simp)) fun _ => id⟩
end
section
variable {o : Wo} [W : WoOk o] {c : Cx} {k : Kx} {loc : LocF} {st st₁ st' : St} {s s' : Shared} {Q : V -> St -> Prop} {X : Exc -> St -> Prop} {QF : Fl -> LocF -> St -> Prop}
theorem matches_R {A : Around} {E : Value -> Shared -> Prop} {s : Shared} {e C CT : Addr} {ob : Obj} {Q : Bool -> Shared -> Prop} (X : o.K.In s.heap) (he : s.heap.get? e = some ob) (hc : ob.cls = .ref C) (hn : instIn o.K (.ref CT) (.type "tuple") = some false) (hm : makesXIn o.K CT = true)
 (hs : subIn o.K (.ref C) (.ref CT) = some true) (h : Q true s) : wpAny o.M A (excMatches (.ref e) (.ref CT)) Q E s := by
 obtain ⟨hp, g, d, tk, os⟩ := s
 have L1 := looks_instIn (M := o.M) X hn
 have Y := makesX_of (M := o.M) X hm
 obtain ⟨⟨oc, od, cd, sl, hC, e1, e2, e4⟩, made, base, self, top, L2, noA, noN, call, typ⟩ := Y
 have L3 : Looks o.M hp (typeOf (.ref e)) (.ref C) := by rw [<- hc]; exact (Looks.ld he).andThen .now
 have L4 := looks_subIn (M := o.M) X hs
 unfold excMatches
 repeat (first | lk | wp_step)
 exact h
end
theorem LocF.set_set (l : LocF) (x : Str) (a b : V) : (l.set x a).set x b = l.set x b := by
 funext y; unfold LocF.set; split <;> rfl
noncomputable def closOf (cells : List (Str × Addr)) : List (Str × NameKind) -> List (Str × Addr) -> Option (List (Str × Addr))
 | [], acc => some acc
 | (n, k) :: r, acc => if k == .free then (match cells.lookup n with | some a => closOf cells r ((n, a) :: acc) | none => none) else closOf cells r acc
theorem closOf_for {env : Env} : ∀ (names : List (Str × NameKind)) (acc cl : List (Str × Addr)), closOf env.cells names acc = some cl ->
 (forIn (m := Sem) names acc fun (x : Str × NameKind) cs => if x.2 == .free then do let a <- cellOf env x.1; pure (.yield ((x.1, a) :: cs)) else pure (.yield cs)) = pure cl
 | [], acc, cl, h => by cases h; rfl
 | (n, k) :: r, acc, cl, h => by
  unfold closOf at h
  rw [List.forIn_cons]
  split at h
  . rename_i hk
    split at h
    . rename_i a ha
      have : cellOf env n = pure a := by unfold cellOf; rw [ha]
      simp only [hk, if_true, this, pure_bind]
      exact closOf_for r _ _ h
    . cases h
  . rename_i hk
    simp only [hk, if_false, pure_bind]
    exact closOf_for r _ _ h
theorem closOf_eq {scope : Scope} {env : Env} {cl : List (Str × Addr)} (h : closOf env.cells scope.names [] = some cl) : closureFor scope env = pure cl := by
 unfold closureFor
 have := closOf_for scope.names [] cl h
 simp only [bind_pure]
 exact this
theorem closOf_mem {cells : List (Str × Addr)} : ∀ {names : List (Str × NameKind)} {acc cl : List (Str × Addr)}, closOf cells names acc = some cl -> ∀ n a, (n, a) ∈ cl -> (n, a) ∈ acc \/ (cells.lookup n = some a /\ ∃ k, (n, k) ∈ names)
 | [], acc, cl, h, n, a, m => by cases h; exact .inl m
 | (n', k) :: r, acc, cl, h, n, a, m => by
  unfold closOf at h
  split at h
  . split at h
    . rename_i b hb
      rcases closOf_mem h n a m with q | ⟨q, k', hk⟩
      . rcases List.mem_cons.mp q with e | q
        . cases e; exact .inr ⟨hb, _, .head _⟩
        . exact .inl q
      . exact .inr ⟨q, k', .tail _ hk⟩
    . cases h
  . rcases closOf_mem h n a m with q | ⟨q, k', hk⟩
    . exact .inl q
    . exact .inr ⟨q, k', .tail _ hk⟩
theorem closOf_apart {cells : List (Str × Addr)} (hp : cells.Pairwise fun x y => x.2 ≠ y.2) : ∀ {names : List (Str × NameKind)} {acc cl : List (Str × Addr)}, closOf cells names acc = some cl -> (names.map (·.1)).Nodup -> (∀ p ∈ acc, cells.lookup p.1 = some p.2 /\ p.1 ∉ names.map (·.1)) -> (acc.Pairwise fun x y => x.2 ≠ y.2) -> cl.Pairwise fun x y => x.2 ≠ y.2
 | [], acc, cl, h, _, _, ha => by cases h; exact ha
 | (n', k) :: r, acc, cl, h, nd, hacc, ha => by
  unfold closOf at h
  have nd' := List.nodup_cons.mp nd
  split at h
  . split at h
    . rename_i b hb
      refine closOf_apart hp h nd'.2 (fun p hp' => ?_) (List.pairwise_cons.mpr ⟨fun y hy e => ?_, ha⟩)
      . rcases List.mem_cons.mp hp' with rfl | hp'
        . exact ⟨hb, nd'.1⟩
        . exact ⟨(hacc p hp').1, fun q => (hacc p hp').2 (.tail _ q)⟩
      . have e : b = y.2 := e
        have := name_of_addr hp (mem_of_lookup hb) (e ▸ mem_of_lookup (hacc y hy).1)
        exact (hacc y hy).2 (this ▸ .head _)
    . cases h
  . exact closOf_apart hp h nd'.2 (fun p hp' => ⟨(hacc p hp').1, fun q => (hacc p hp').2 (.tail _ q)⟩) ha
noncomputable def compCx (c : Cx) (scope : Scope) (cl : List (Str × Addr)) (C : Addr) : Cx := ⟨c.k, compEnvC scope cl C c.env⟩
noncomputable def capt (c : Cx) (scope : Scope) (cl : List (Str × Addr)) (loc : LocF) : LocF := fun y =>
 if ((relabel scope c.env).names.lookup y == some .cell || (relabel scope c.env).names.lookup y == some .free) && (cl.lookup y).isSome && (c.env.kindOf y == some .cell || c.env.kindOf y == some .free) && !(y == ("__classdict__" : Str)) then loc y else none
section
variable {o : Wo} [W : WoOk o] {c : Cx} {k : Kx} {loc : LocF} {st st₁ st' : St} {s s₁ s' : Shared} {Q : V -> St -> Prop} {X : Exc -> St -> Prop}
theorem storeLocal_R {A : Around} {x : Str} {v : V} {u : Value} {Q : Unit -> Shared -> Prop} {E : Value -> Shared -> Prop} (I : Inv o c loc st s) (r : VR s.heap v u) (hl : c.env.kindOf x = some .local)
 (h : ∀ h' t, Step o.P (fun b => b = c.env.locals) st s st { s with heap := h', toks := t } -> LocR c.env (loc.set x v) h' -> Q () { s with heap := h', toks := t }) :
 wpAny o.M A (storeName c.env x u) Q E s := by
 obtain ⟨m, hm, q⟩ := I.lc.ns
 have locne : ∀ (a : Addr) (w : Option Value), s.heap.IsCell a w -> a ≠ c.env.locals := fun a w ⟨ob, h1, h2⟩ e => by
  subst e
  obtain ⟨ob', es, ep, h3, h4, _⟩ := hm
  rw [h1] at h3; cases h3; rw [h2] at h4; cases h4
 rw [storeName_local hl (by rw [I.cx.kind]; rfl)]
 refine wpAny_nsSetC hm fun h' hn hs oo => ?_
 have S := step_mine I (.inl rfl) hs oo (s.toks + 1)
 have S' : Step o.P (fun b => b = c.env.locals) st s st { s with heap := h', toks := s.toks + 1 } := ⟨S.holds, S.sub, fun b ob hb _ hob => ⟨ob, (hs.2 b hb).trans hob, .refl ob⟩, fun b ob hb hst hob => S.own b ob (.inl hb) hst hob, S.mono, S.gens, S.os⟩
 have keep : ∀ {a : V} {w : Value}, VR s.heap a w -> VR h' a w := fun r => VR.stepF I S r
 refine h h' _ S' ⟨⟨_, hn, fun y a e => ?_⟩, fun y a e => ?_, I.lc.apart⟩
 . unfold LocF.set at e
   split at e
   . rename_i hy; cases e; subst hy
     exact .inl ⟨hl, u, by simp, keep r⟩
   . rename_i hy
     rcases q y a e with ⟨b1, w, b2, b3⟩ | ⟨b1, b2, d, w, b3, b4, b5⟩
     . exact .inl ⟨b1, w, by simp [hy, b2], keep b3⟩
     . exact .inr ⟨b1, b2, d, w, b3, b4.sameBut hs (locne d _ b4), keep b5⟩
 . obtain ⟨w, hw⟩ := I.lc.cells y a e
   exact ⟨w, hw.sameBut hs (locne a _ hw)⟩
theorem Step.gone {F : Addr -> Prop} {it : Addr} {h' : Heap} {t : Nat} (x : Step o.P F st s st₁ s₁) (hn : st₁ it = none) (hfr : s.heap.get? it = none) (D : DOk (fun b => st₁ b ≠ none \/ b = it) s₁.heap) (hs : Heap.ExtBut it s₁.heap h') :
 Step o.P F st s st₁ { s₁ with heap := h', toks := t } := by
 have K : KpD (fun b => st₁ b ≠ none \/ b = it) s₁.heap h' := fun b ob hb hob => ⟨ob, hs b ob (fun q => hb (.inr q)) hob, .refl ob⟩
 have ne : ∀ {b ob}, s.heap.get? b = some ob -> b ≠ it := fun h q => by rw [q, hfr] at h; cases h
 refine ⟨fun a m e => ?_, x.sub, fun b ob hb hst hob => ?_, fun b ob hb hst hob => ?_, fun b hb => ?_, x.gens, x.os⟩
 . obtain ⟨ob, h1, h2⟩ := x.holds a m e
   have : a ≠ it := by intro q; subst q; rw [hn] at e; cases e
   exact ⟨ob, hs a ob this h1, h2.keepD D K⟩
 . obtain ⟨o', h1, h2⟩ := x.ext b ob hb hst hob
   exact ⟨o', hs _ _ (ne hob) h1, h2⟩
 . obtain ⟨o', h1, h2⟩ := x.own b ob hb hst hob
   exact ⟨o', hs _ _ (ne hob) h1, h2⟩
 . obtain ⟨ob, hob⟩ := Option.isSome_iff_exists.mp hb
   obtain ⟨o', ho'⟩ := Option.isSome_iff_exists.mp (x.mono b hb)
   show (h'.get? b).isSome = true
   rw [hs _ _ (ne hob) ho']; rfl
theorem cellsFrom_none : ∀ (names : List (Str × NameKind)) (n : Nat) (acc : List (Str × Addr)), (∀ y ∈ names, (y.2 == NameKind.cell) = false) -> cellsFrom n names acc = acc
 | [], _, _, _ => rfl
 | (m, k) :: r, n, acc, h => by
  have := h (m, k) (.head _)
  unfold cellsFrom
  rw [this]
  exact cellsFrom_none r n acc fun y hy => h y (.tail _ hy)
theorem pushCells_none : ∀ (names : List (Str × NameKind)) (h : Heap), (∀ y ∈ names, (y.2 == NameKind.cell) = false) -> pushCells h names = h
 | [], _, _ => rfl
 | (m, k) :: r, h, hh => by
  have := hh (m, k) (.head _)
  unfold pushCells
  rw [this]
  exact pushCells_none r h fun y hy => hh y (.tail _ hy)
end
theorem St.set_set (st : St) (a : Addr) (m n : MO) : (st.set a m).set a n = st.set a n := by
 funext b; unfold St.set; split <;> rfl
section
variable {o : Wo} [W : WoOk o] {c : Cx} {k : Kx} {loc : LocF} {st : St} {Q : V -> St -> Prop} {X : Exc -> St -> Prop}
noncomputable def tests (ifs : List Expr) (env : Env) : Sem Bool := forIn ifs true fun c r => if r = true then do let ok <- isTrue c env (eval c env); pure (ForInStep.yield ok) else pure (ForInStep.yield r)
noncomputable def CTest (o : Wo) (c : Cx) (loc : LocF) (elt : Expr) (D : Addr) (i : Nat) (ys : List V) (J : Nat -> List V -> St -> Prop) : Bool -> St -> Prop := fun b st1 =>
 if b then EV o c loc st1 elt (fun y st'' => ∃ st₃, st'' = st₃.set D (.lst ys) /\ st₃ D = none /\ J (i + 1) (ys ++ [y]) st₃) (fun _ _ => False) else ∃ st₃, st1 = st₃.set D (.lst ys) /\ st₃ D = none /\ J (i + 1) ys st₃
noncomputable def CT (o : Wo) (c : Cx) (loc : LocF) (elt : Expr) (ifs : List Expr) (x : Str) (scope : Scope) (cl : List (Str × Addr)) (xs : List V) (J : Nat -> List V -> St -> Prop) : Prop :=
 ∀ i v ys st' D C s, xs[i]? = some v -> J i ys st' -> st' D = none -> Inv o (compCx c scope cl C) ((capt c scope cl loc).set x v) (st'.set D (.lst ys)) s ->
  wpAny o.M c.k.A (tests ifs (compCx c scope cl C).env) (PB o (st'.set D (.lst ys)) s (CTest o (compCx c scope cl C) ((capt c scope cl loc).set x v) elt D i ys J)) (fun _ _ => False) s
theorem comp_env {M : Model} {A : Around} {scope : Scope} {cl : List (Str × Addr)} {env : Env} {Q : Env -> Shared -> Prop} {E : Value -> Shared -> Prop} {s : Shared} (hcell : ∀ y ∈ scope.names, (y.2 == NameKind.cell) = false)
 (h : Q { scope, locals := s.heap.objs.size, globals := env.globals, cells := cl, qual := env.qual, func := none, code := env.code, frame := env.frame, builtins := env.builtins } { s with heap := s.heap.push { cls := .type "dict", data := .dict #[] } }) :
 wpAny M A (newFunctionEnv scope env.globals cl [] env.qual none .none (some env)) Q E s := by
 refine wpAny_bind (wpAny_alloc ?_)
 refine wpAny_bind (wpAny_layCells _ (fun name kind cells => by cases hkc : kind == NameKind.cell <;> simp [hkc]) _ _ _ _ ?_)
 rw [cellsFrom_none _ _ _ hcell, pushCells_none _ _ hcell]
 exact wpAny_bind (wpAny_pure (wpAny_pure h))
variable {it : Addr} {T : String} {P : Nat -> Heap -> Prop} {R : Heap -> Prop}
structure CI (o : Wo) (P : Nat -> Heap -> Prop) (R : Heap -> Prop) (st₀ : St) (s₀ : Shared) (c : Cx) (loc : LocF) (st : St) (i : Nat) (s : Shared) : Prop where
 p : P i s.heap
 r : R s.heap
 s0 : Step o.P noF st₀ s₀ st s
 inv : Inv o c loc st s
theorem CI.step (K : IterOk o it T P R) {st₀ st₁ : St} {s₀ s s₁ : Shared} {i : Nat} (h : CI o P R st₀ s₀ c loc st i s) (S : Step o.P noF st s st₁ s₁) : CI o P R st₀ s₀ c loc st₁ i s₁ :=
 ⟨K.keep S h.inv.si.hs (fun q => q) h.p, K.r (DOk.ofSt h.inv.si.hs) S.kp.d h.r, h.s0.trans S, h.inv.step S⟩
inductive CLoop (o : Wo) (P : Nat -> Heap -> Prop) (R : Heap -> Prop) (st₀ : St) (s₀ : Shared) (c : Cx) (loc : LocF) (x : Str) (xs : List V) (D : Addr) (J : Nat -> List V -> St -> Prop) (n : Nat) (s : Shared) : Prop
 | mk {i : Nat} {ys : List V} {st' : St} {loc' : LocF} : n = xs.length - i -> i <= xs.length -> ys.length <= i -> J i ys st' -> st' D = none -> CI o P R st₀ s₀ c loc' (st'.set D (.lst ys)) i s -> (∀ v, loc'.set x v = loc.set x v) -> CLoop o P R st₀ s₀ c loc x xs D J n s
theorem comp_inv {scope : Scope} {cl : List (Str × Addr)} {C : Addr} {s : Shared} (hkind : scope.kind = .function) (hnd : (scope.names.map (·.1)).Nodup) (hcl : closOf c.env.cells scope.names [] = some cl)
 (I : Inv o c loc st s) (fC : s.heap.get? C = some { cls := .type "dict", data := .dict #[] }) (nsC : s.heap.Ns C (fun _ => none)) (Cst : st C = none) (Cad : ¬ o.ad C) : Inv o (compCx c scope cl C) (capt c scope cl loc) st s := by
 have mem : ∀ {n a}, (n, a) ∈ cl -> c.env.cells.lookup n = some a := fun {n a} hm => (closOf_mem hcl n a hm).elim (fun q => nomatch q) And.left
 refine ⟨⟨hkind, I.cx.glob, I.cx.blt⟩, I.si, ⟨⟨fun _ => none, nsC, fun y v e => ?_⟩, fun y a e => I.lc.cells y a (mem (mem_of_lookup e)), closOf_apart I.lc.apart hcl hnd (fun _ h => nomatch h) .nil⟩, ⟨fun b hb => hb.elim (fun q => q ▸ ⟨_, _, fC, rfl, .inl ⟨_, _, rfl⟩⟩) fun ⟨y, hb⟩ => I.ow.ex b (.inr ⟨y, mem_of_lookup (mem hb)⟩)⟩, fun b hb => hb.elim (fun q => q ▸ Cst) fun ⟨y, hb⟩ => I.ost b (.inr ⟨y, mem_of_lookup (mem hb)⟩), fun b hb => hb.elim (fun q => q ▸ Cad) fun ⟨y, hb⟩ => I.oad b (.inr ⟨y, mem_of_lookup (mem hb)⟩)⟩
 unfold capt at e
 split at e
 . rename_i hc
   have hc := Bool.and_eq_true_iff.mp hc
   have hd := Bool.and_eq_true_iff.mp hc.1
   have he := Bool.and_eq_true_iff.mp hd.1
   obtain ⟨a', ha'⟩ := Option.isSome_iff_exists.mp he.2
   obtain ⟨m, hm, q⟩ := I.lc.ns
   rcases q y v e with ⟨k1, _⟩ | ⟨k1, k2, a, u, k3, k4, k5⟩
   . have c3 := hd.2
     rw [k1] at c3; cases c3
   . have e2 : a' = a := Option.some.inj ((mem (mem_of_lookup ha')).symm.trans k3)
     exact .inr ⟨(Bool.or_eq_true_iff.mp he.1).imp beq_iff_eq.mp beq_iff_eq.mp, by simpa using hc.2, a', u, ha', e2 ▸ k4, k5⟩
 . cases e
theorem ite_ff {P Q : Prop} (h : Q) : if false = true then P else Q := h
theorem ite_tt {P Q : Prop} (h : P) : if true = true then P else Q := h
theorem CI.turn (K : IterOk o it T P R) {st₀ st : St} {s₀ s s₁ s₂ : Shared} {i : Nat} {loc₂ : LocF} (hfresh : s₀.heap.get? it = none) (Cn0 : s₀.heap.get? c.env.locals = none) (h : CI o P R st₀ s₀ c loc st i s)
 (S1 : Step o.P (fun b => b = it) st s st s₁) (hp : P (i + 1) s₁.heap) (I1 : Inv o c loc st s₁) (S2 : Step o.P (fun b => b = c.env.locals) st s₁ st s₂) (L2 : LocR c.env loc₂ s₂.heap) : CI o P R st₀ s₀ c loc₂ st (i + 1) s₂ := by
 have S2o : Step o.P (own c) st s₁ st s₂ := S2.wider fun b hb => .inl hb
 have ne : ¬ it = c.env.locals := fun q => by
  obtain ⟨ob, T', e1, _, e3⟩ := I1.ow.ex c.env.locals (.inl rfl)
  obtain ⟨ob', vs, f1, _, f3⟩ := K.ex _ _ hp
  rw [<- q, f1] at e1; cases e1
  rcases e3 with ⟨_, _, e3⟩ | ⟨_, e3⟩ <;> (rw [f3] at e3; cases e3)
 exact ⟨K.keep S2 I1.si.hs ne hp, K.r (DOk.own I1) S2o.kpd (K.r (DOk.free h.inv.si.hs fun a (q : a = it) => q ▸ K.free h.p) S1.kpd h.r), (h.s0.absorbF S1 fun a (q : a = it) => .inr (q ▸ hfresh)).absorbF S2 fun a (q : a = c.env.locals) => .inr (q ▸ Cn0), I1.stepF S2o L2⟩
theorem comp_gone (K : IterOk o it T P R) {st₀ st : St} {s₀ s : Shared} {i : Nat} (hfresh : s₀.heap.get? it = none) (Cn0 : s₀.heap.get? c.env.locals = none) (h : CI o P R st₀ s₀ c loc st i s) {h' : Heap} (he : Heap.ExtBut it s.heap h') :
 ∃ m, h'.Ns c.env.locals m /\ ∀ h'', Heap.SameBut c.env.locals h' h'' -> Step o.P noF st₀ s₀ st { s with heap := h'' } := by
 obtain ⟨m, ⟨ob, es, ep, n1, n2, n3⟩, _⟩ := h.inv.lc.ns
 have Cit : ¬ c.env.locals = it := fun q => by
  obtain ⟨ob', vs, f1, f2, f3⟩ := K.ex _ _ h.p
  rw [q, f1] at n1; cases n1
  rw [f3] at n2; cases n2
 have fr := K.free h.p
 have gC : h'.get? c.env.locals = some ob := he _ ob Cit n1
 refine ⟨m, ⟨ob, es, ep, gC, n2, n3⟩, fun h'' hsb => ?_⟩
 have S1 : Step o.P noF st₀ s₀ st { s with heap := h', toks := s.toks } := h.s0.gone (fr.stn h.inv.si.hs) hfresh (DOk.free h.inv.si.hs fun a (q : a = it) => q ▸ fr) he
 refine S1.gone (s₁ := { s with heap := h', toks := s.toks }) (h.inv.ost _ (.inl rfl)) Cn0 ?_ hsb.extBut
 refine ⟨fun a ws n hx q => ?_, fun a ob' vs hx hc hd q => ?_, fun a ob' hx hd _ q => ?_⟩
 . rcases q with q | rfl
   . exact q (tup_not_st S1.holds hx)
   . have := Option.some.inj (gC.symm.trans hx); subst this; cases n2
 . rcases q with q | rfl
   . exact q (rec_not_st S1.holds hx hc hd)
   . rw [gC] at hx; cases hx; rw [n2] at hd; cases hd
 . rcases q with q | rfl
   . exact q (inst_not_st S1.holds hx hd)
   . rw [gC] at hx; cases hx; rw [n2] at hd; cases hd
theorem comp_loop (K : IterOk o it T P R) {elt iter : Expr} {ifs : List Expr} {x : Str} {px pos : Pos} {scope : Scope} {cl : List (Str × Addr)} {xs : List V} {Ast : St -> Prop} {J : Nat -> List V -> St -> Prop} {st₀ : St} {s₀ s : Shared} {C D : Addr} {E : Value -> Shared -> Prop}
 (hfresh : s₀.heap.get? it = none) (Cn0 : s₀.heap.get? C = none) (hx : scope.names.lookup x = some .local) (hz : xs.length <= sizeLine)
 (hA : ∀ i ys st' D, J i ys st' -> st' D = none -> Ast (st'.set D (.lst ys)))
 (hItem : ∀ {E : Value -> Shared -> Prop} i v st' (s : Shared) Q, xs[i]? = some v -> Ast st' -> SI o c.k st' s -> R s.heap -> P i s.heap -> (∀ h' va t, P (i + 1) h' -> Heap.SameBut it s.heap h' -> VR s.heap v va -> Q (some va) { s with heap := h', toks := t }) -> wpAny o.M c.k.A (pyNext (.ref it)) Q E s)
 (hEnd : ∀ {E : Value -> Shared -> Prop} st' (s : Shared) Q, Ast st' -> SI o c.k st' s -> R s.heap -> P xs.length s.heap -> (∀ h', Heap.ExtBut it s.heap h' -> Q none { s with heap := h' }) -> wpAny o.M c.k.A (pyNext (.ref it)) Q E s)
 (turn : CT o c loc elt ifs x scope cl xs J)
 (fin : ∀ ys st' D, J xs.length ys st' -> ys.length <= xs.length -> st' D = none -> Q (.ptr D) (st'.set D (.lst ys)))
 (h : CLoop o P R st₀ s₀ (compCx c scope cl C) (capt c scope cl loc) x xs D J xs.length s) :
 codeAny o.M c.k.A (.compLoop (.ListComp elt [⟨.Name x px, iter, ifs, 0⟩] scope pos) 0 (.ref it) (.ref D) (compEnvC scope cl C c.env)) (compPost o.M c.k.A E none (PV o st₀ s₀ Q) (.ref D) C) s := by
 refine codeAny_compLoop_tests (CLoop o P R st₀ s₀ (compCx c scope cl C) (capt c scope cl loc) x xs D J) (fun n s' h => ?_) xs.length h
 obtain ⟨hn, hi, hy, hJ, hDs, ci, hl⟩ := h
 rename_i i ys st' loc'
 subst hn
 cases hv : xs[i]? with
 | none =>
  have hil : i = xs.length := Nat.le_antisymm hi (List.getElem?_eq_none_iff.mp hv)
  refine hEnd _ s' _ (hA _ _ _ _ hJ hDs) ci.inv.si ci.r (hil ▸ ci.p) fun h' he => ?_
  obtain ⟨m, hm, g⟩ := comp_gone K hfresh Cn0 ci he
  exact ⟨m, hm, fun h'' hsb => ⟨.ptr D, _, .ptr D, g h'' hsb, fin ys st' D (hil ▸ hJ) (hil ▸ hy) hDs⟩⟩
 | some v =>
  have hlt : i < xs.length := (List.getElem?_eq_some_iff.mp hv).1
  refine hItem i v _ s' _ hv (hA _ _ _ _ hJ hDs) ci.inv.si ci.r ci.p fun h' va t hp' hsb rv => ?_
  have S1 := K.stepI (t := t) ci.inv.si.hs ci.p hp' hsb
  have fr' : ∀ a, a = it -> FreeRec o s'.heap a := fun a (q : a = it) => q ▸ K.free ci.p
  have I1 := ci.inv.stepG fr' S1
  refine wpAny_bind (m := standAt px) (wpAny_standAt (wpAny_bindName (storeLocal_R I1 (VR.stepG ci.inv.si.hs fr' S1 rv) (lookup_relabel_local hx) fun h2 t2 S2 L2 => ?_)))
  have c2 := ci.turn K hfresh Cn0 S1 hp' I1 S2 L2
  refine wpAny_mono (turn i v ys st' D C _ hv hJ hDs (hl v ▸ c2.inv)) (fun bv s3 p => ?_) fun _ _ p => p.elim
  obtain ⟨st1, S3, q3⟩ := p
  have c3 := c2.step K S3
  cases bv with
  | false =>
   obtain ⟨st₃, rfl, hD3, hJ3⟩ := q3
   exact ite_ff ⟨_, Nat.sub_lt_sub_left hlt (Nat.lt_succ_self i), .mk rfl hlt (Nat.le_succ_of_le hy) hJ3 hD3 c3 fun u => LocF.set_set _ _ _ _ |>.trans (hl u)⟩
  | true =>
   refine ite_tt (wpAny_mono ((show EV o (compCx c scope cl C) _ st1 elt _ _ from q3) _ (hl v ▸ c3.inv)) (fun yv s4 p => ?_) fun _ _ p => ?_)
   . obtain ⟨y, st'', ry, S4, st₃, rfl, hD4, hJ4⟩ := p
     have c4 := c3.step K S4
     refine wpAny_mono (call_append (o := o) (k := c.k) (Q := fun _ stt => stt = (st₃.set D (.lst ys)).set D (.lst (ys ++ [y]))) (X := fun _ _ => False) (St.set_same ..) (Nat.le_trans hy (Nat.le_trans hi hz)) rfl s4 [.ref D, yv] c4.inv.si (.cons (.ptr D) (.cons ry .nil))) (fun _ s5 p => ?_) fun _ _ ⟨_, _, _, _, _, _, _, q⟩ => q.elim
     obtain ⟨_, stt, _, S5, e5⟩ := p
     exact ⟨_, Nat.sub_lt_sub_left hlt (Nat.lt_succ_self i), .mk rfl hlt (by rw [List.length_append]; exact Nat.succ_le_succ hy) hJ4 hD4 (c4.step K (e5.trans (St.set_set ..) ▸ S5)) fun u => LocF.set_set _ _ _ _ |>.trans (hl u)⟩
   . obtain ⟨_, _, _, _, _, _, _, q⟩ := p
     exact q.elim
theorem comp_core {elt iter : Expr} {ifs : List Expr} {x : Str} {px pos : Pos} {scope : Scope} {cl : List (Str × Addr)} {it : Addr} {xs : List V} {T : String} {P : Nat -> Heap -> Prop} {R : Heap -> Prop} {Ast : St -> Prop} {J : Nat -> List V -> St -> Prop} {st₀ : St} {s₀ s : Shared} {E : Value -> Shared -> Prop}
 (hkind : scope.kind = .function) (hcell : ∀ y ∈ scope.names, (y.2 == NameKind.cell) = false) (hx : scope.names.lookup x = some .local) (hnd : (scope.names.map (·.1)).Nodup) (hcl : closOf c.env.cells scope.names [] = some cl) (hz : xs.length <= sizeLine)
 (hfresh : s₀.heap.get? it = none) (H₀ : SI o c.k st₀ s₀) (S : Step o.P noF st₀ s₀ st s) (I : Inv o c loc st s)
 (hP : ∀ i h h', P i h -> h'.get? it = h.get? it -> P i h')
 (hPex : ∀ i h, P i h -> ∃ ob vs, h.get? it = some ob /\ ob.cls = .type T /\ ob.data = .fields vs) (hTf : T ≠ "frame") (hTr : T ≠ "range")
 (hR : ∀ {D : Addr -> Prop} {h h' : Heap}, DOk D h -> KpD D h h' -> R h -> R h')
 (hA : ∀ i ys st' D, J i ys st' -> st' D = none -> Ast (st'.set D (.lst ys)))
 (hItem : ∀ {E : Value -> Shared -> Prop} i v st' (s : Shared) Q, xs[i]? = some v -> Ast st' -> SI o c.k st' s -> R s.heap -> P i s.heap -> (∀ h' va t, P (i + 1) h' -> Heap.SameBut it s.heap h' -> VR s.heap v va -> Q (some va) { s with heap := h', toks := t }) -> wpAny o.M c.k.A (pyNext (.ref it)) Q E s)
 (hEnd : ∀ {E : Value -> Shared -> Prop} st' (s : Shared) Q, Ast st' -> SI o c.k st' s -> R s.heap -> P xs.length s.heap -> (∀ h', Heap.ExtBut it s.heap h' -> Q none { s with heap := h' }) -> wpAny o.M c.k.A (pyNext (.ref it)) Q E s)
 (hself : ∀ {E : Value -> Shared -> Prop} (s : Shared) Q, P 0 s.heap -> Q (.ref it) s -> wpAny o.M c.k.A (pyIter (.ref it)) Q E s)
 (h0 : P 0 s.heap) (hR0 : R s.heap) (hJ0 : J 0 [] st)
 (turn : CT o c loc elt ifs x scope cl xs J)
 (fin : ∀ ys st' D, J xs.length ys st' -> ys.length <= xs.length -> st' D = none -> Q (.ptr D) (st'.set D (.lst ys))) :
 wpAny o.M c.k.A (newList []) (fun acc s₃ => wpAny o.M c.k.A (newFunctionEnv scope c.env.globals cl [] c.env.qual none .none (some c.env)) (fun cenv s₄ =>
  codeAny o.M c.k.A (.compStart (.ListComp elt [⟨.Name x px, iter, ifs, 0⟩] scope pos) 0 (.ref it) acc { cenv with scope := relabel scope c.env }) (compPost o.M c.k.A E none (PV o st₀ s₀ Q) acc cenv.locals) s₄) E s₃) E s := by
 have K : IterOk o it T P R := ⟨fun q => nsome (In.ex H₀.wd q) hfresh, hP, hPex, hTf, hTr, hR⟩
 refine wpAny_newObj_type (comp_env hcell ?_)
 have ID := (CI.mk h0 hR0 S I).step K (Step.alloc I.si.hs { cls := .type "list", dict := none, data := .seq ([] : List Value).toArray } (.lst []) rfl (.lst (ws := []) .nil) s.toks)
 have IC := ID.step K (Step.push ID.inv.si.hs { cls := .type "dict", data := .dict #[] } s.toks)
 have Cn := Heap.get?_none_of_le (h := s.heap.push { cls := .type "list", dict := none, data := .seq ([] : List Value).toArray }) (Nat.le_refl _)
 have I0 := comp_inv hkind hnd hcl IC.inv (Heap.get?_push_size _ rfl) (Heap.Ns.new _ _) (size_none ID.inv.si.hs) fun q => nsome (In.ex ID.inv.si.wd q) Cn
 have loop := comp_loop K hfresh (none_of_mono ID.s0 Cn) hx hz hA hItem hEnd turn fin (E := E) (iter := iter) (px := px) (pos := pos) (.mk rfl (Nat.zero_le _) (Nat.le_refl _) hJ0 (size_none I.si.hs) ⟨IC.p, IC.r, IC.s0, I0⟩ fun _ => rfl)
 exact codeAny_compStart_list loop (hself _ _ IC.p loop)
noncomputable def scopeOk (scope : Scope) (x : Str) : Bool := scope.kind == .function && scope.names.all (fun y => !(y.2 == NameKind.cell)) && scope.names.lookup x == some .local && decide ((scope.names.map (·.1)).Nodup)
noncomputable def COMPg (o : Wo) (c : Cx) (loc : LocF) (st : St) (v : V) (elt iter : Expr) (ifs : List Expr) (x : Str) (px : Pos) (scope : Scope) (pos : Pos) (cl : List (Str × Addr)) (Q : V -> St -> Prop) : Prop :=
 ∀ st₀ s₀ s va E, SI o c.k st₀ s₀ -> Step o.P noF st₀ s₀ st s -> Inv o c loc st s -> VR s.heap v va -> wpAny o.M c.k.A (pyIter va) (fun it s₂ => wpAny o.M c.k.A (newList []) (fun acc s₃ => wpAny o.M c.k.A (newFunctionEnv scope c.env.globals cl [] c.env.qual none .none (some c.env)) (fun cenv s₄ =>
  codeAny o.M c.k.A (.compStart (.ListComp elt [⟨.Name x px, iter, ifs, 0⟩] scope pos) 0 it acc { cenv with scope := relabel scope c.env }) (compPost o.M c.k.A E none (PV o st₀ s₀ Q) acc cenv.locals) s₄) E s₃) E s₂) E s
theorem ev_compg {elt iter : Expr} {ifs : List Expr} {x : Str} {px pos : Pos} {scope : Scope} (cl : List (Str × Addr)) (hs : ∀ env y, foldedSetIterable iter env y = pure y) (hok : scopeOk scope x = true) (hcl : closOf c.env.cells scope.names [] = some cl)
 (h : EV o c loc st iter (fun v st₁ => COMPg o c loc st₁ v elt iter ifs x px scope pos cl Q) X) : EV o c loc st (.ListComp elt [⟨.Name x px, iter, ifs, 0⟩] scope pos) Q X := fun s I => by
 unfold scopeOk at hok
 simp only [Bool.and_eq_true, beq_iff_eq, decide_eq_true_eq, List.all_eq_true] at hok
 obtain ⟨⟨⟨k1, k2⟩, k3⟩, k4⟩ := hok
 rw [eval_ListComp]
 have hloc : ∀ y ∈ scope.names, y.2 = .local -> scope.names.lookup y.1 = some .local := fun y hy hl => by
  have key : ∀ {l : List (Str × NameKind)}, (l.map (·.1)).Nodup -> ∀ y ∈ l, l.lookup y.1 = some y.2 := by
   intro l
   induction l with
   | nil => intro _ y h; cases h
   | cons p r ih =>
    intro nd y hy
    have nd' := List.nodup_cons.mp nd
    rw [List.lookup_cons]
    rcases List.mem_cons.mp hy with rfl | hy
    . simp
    . have : (y.1 == p.1) = false := beq_eq_false_iff_ne.mpr fun q => nd'.1 (by show p.1 ∈ _; rw [<- q]; exact List.mem_map_of_mem hy)
      rw [this]; exact ih nd'.2 y hy
  rw [key k4 y hy, hl]
 refine wpAny_comprehension_free (use := none) rfl (hs _) (closOf_eq hcl) k1 hloc ?_
 show wpAny o.M c.k.A (eval iter c.env) _ _ s
 exact h.use I fun v st₁ va s₁ q S I₁ r => q st s s₁ va _ I.si S I₁ r
noncomputable abbrev COMPV (o : Wo) (c : Cx) (loc : LocF) (st : St) (v : V) (elt iter : Expr) (x : Str) (px : Pos) (scope : Scope) (pos : Pos) (cl : List (Str × Addr)) (Q : V -> St -> Prop) : Prop := COMPg o c loc st v elt iter [] x px scope pos cl Q
theorem ev_comp {elt iter : Expr} {x : Str} {px pos : Pos} {scope : Scope} (cl : List (Str × Addr)) (hs : ∀ env y, foldedSetIterable iter env y = pure y) (hok : scopeOk scope x = true) (hcl : closOf c.env.cells scope.names [] = some cl)
 (h : EV o c loc st iter (fun v st₁ => COMPV o c loc st₁ v elt iter x px scope pos cl Q) X) : EV o c loc st (.ListComp elt [⟨.Name x px, iter, [], 0⟩] scope pos) Q X := ev_compg cl hs hok hcl h
theorem scopeOk_parts {scope : Scope} {x : Str} (hok : scopeOk scope x = true) : scope.kind = .function /\ (∀ y ∈ scope.names, (y.2 == NameKind.cell) = false) /\ scope.names.lookup x = some .local /\ (scope.names.map (·.1)).Nodup := by
 unfold scopeOk at hok
 simp only [Bool.and_eq_true, beq_iff_eq, decide_eq_true_eq, List.all_eq_true] at hok
 obtain ⟨⟨⟨k1, k2⟩, k3⟩, k4⟩ := hok
 exact ⟨k1, fun y hy => by simpa using k2 y hy, k3, k4⟩
noncomputable def CTurn (o : Wo) (c : Cx) (loc : LocF) (elt : Expr) (x : Str) (scope : Scope) (cl : List (Str × Addr)) (xs : List V) (J : Nat -> List V -> St -> Prop) : Prop :=
 ∀ i v ys st' D C, xs[i]? = some v -> J i ys st' -> st' D = none -> EV o (compCx c scope cl C) ((capt c scope cl loc).set x v) (st'.set D (.lst ys)) elt (fun y st'' => ∃ st₃, st'' = st₃.set D (.lst ys) /\ st₃ D = none /\ J (i + 1) (ys ++ [y]) st₃) (fun _ _ => False)
theorem CTurn.ct {elt : Expr} {x : Str} {scope : Scope} {cl : List (Str × Addr)} {xs : List V} {J : Nat -> List V -> St -> Prop} (h : CTurn o c loc elt x scope cl xs J) : CT o c loc elt [] x scope cl xs (fun i ys st => J i ys st /\ ys.length = i) := fun i v ys st' D C s hx hj hD I => by
 refine wpAny_pure ⟨_, Step.refl I.si.hs, ?_⟩
 exact (h i v ys st' D C hx hj.1 hD).mono (fun y st'' ⟨st₃, e, hD3, hJ3⟩ => ⟨st₃, e, hD3, hJ3, by rw [List.length_append, hj.2]; rfl⟩) fun _ _ q => q
variable {elt iter : Expr} {x : Str} {px pos : Pos} {scope : Scope} {cl : List (Str × Addr)}
theorem compg_lst {ifs : List Expr} {l : Addr} {xs : List V} (J : Nat -> List V -> St -> Prop) (hok : scopeOk scope x = true) (hcl : closOf c.env.cells scope.names [] = some cl) (hz : xs.length <= sizeLine) (hJ : ∀ i ys st', J i ys st' -> st' l = some (.lst xs)) (h0 : J 0 [] st)
 (turn : CT o c loc elt ifs x scope cl xs J) (fin : ∀ ys st' D, J xs.length ys st' -> ys.length <= xs.length -> st' D = none -> Q (.ptr D) (st'.set D (.lst ys))) : COMPg o c loc st (.ptr l) elt iter ifs x px scope pos cl Q := fun st₀ s₀ s va E H₀ S I r => by
 cases r
 obtain ⟨k1, k2, k3, k4⟩ := scopeOk_parts hok
 obtain ⟨ws, n, h1, rr⟩ := lst_of (I.si.hs l _ (hJ _ _ _ h0))
 refine wpAny_pyIter_list ⟨_, h1, rfl, _, rfl⟩ ?_
 have S1 : Step o.P noF st s st { s with heap := s.heap.push { cls := .type "list_iterator", data := .fields #[.ref l, .int 0 0] } } := Step.push I.si.hs _ s.toks
 refine comp_core (T := "list_iterator") (xs := xs) (P := fun i h => h.IsListIter s.heap.objs.size l i) (R := fun _ => True) (Ast := fun stx => stx l = some (.lst xs)) (J := J) k1 k2 k3 k4 hcl hz (none_of_mono S (Heap.get?_none_of_le (Nat.le_refl _))) H₀ (S.trans S1) (I.step S1)
  (fun i h h' ⟨ob, p1, p2⟩ e => ⟨ob, e.trans p1, p2⟩) (fun i h ⟨ob, p1, p2, p3⟩ => ⟨_, _, p1, p2, p3⟩) (by decide) (by decide) (fun _ _ _ => trivial)
  (fun i ys st' D hj hD => (St.set_ne _ _ (fun q => by rw [<- q, hJ _ _ _ hj] at hD; cases hD)).trans (hJ _ _ _ hj)) ?_ ?_ (fun s' Q' hp hq => wpAny_pyIter_listiter hp hq) ⟨_, Heap.get?_push_size _ rfl, rfl, rfl⟩ trivial h0 turn fin
 . intro E i x st' s' Q' hx hj S' _ hp hq
   obtain ⟨ws', n', h1', rr'⟩ := lst_of (S'.hs l _ hj)
   obtain ⟨v, hv, rv⟩ := rr'.get hx
   exact wpAny_pyNext_list_item hp ⟨_, h1', rfl, _, rfl⟩ (x := v) (by simpa using hv) fun h' hit hsb => hq h' v s'.toks hit hsb rv
 . intro E st' s' Q' hj S' _ hp hq
   obtain ⟨ws', n', h1', rr'⟩ := lst_of (S'.hs l _ hj)
   exact wpAny_pyNext_list_end S'.ok.handled hp ⟨_, h1', rfl, _, rfl⟩ (by simp [rr'.length]) hq
theorem compv_lst {l : Addr} {xs : List V} (J : Nat -> List V -> St -> Prop) (hok : scopeOk scope x = true) (hcl : closOf c.env.cells scope.names [] = some cl) (hz : xs.length <= sizeLine) (hJ : ∀ i ys st', J i ys st' -> st' l = some (.lst xs)) (h0 : J 0 [] st)
 (turn : CTurn o c loc elt x scope cl xs J) (fin : ∀ ys st' D, J xs.length ys st' -> ys.length = xs.length -> st' D = none -> Q (.ptr D) (st'.set D (.lst ys))) : COMPV o c loc st (.ptr l) elt iter x px scope pos cl Q :=
 compg_lst _ hok hcl hz (fun i ys st' h => hJ i ys st' h.1) ⟨h0, rfl⟩ turn.ct fun ys st' D hj _ hD => fin ys st' D hj.1 hj.2 hD
theorem compv_rng {lo hi : Int} (J : Nat -> List V -> St -> Prop) (hb : -(2 ^ 62) <= lo /\ lo < 2 ^ 62 /\ -(2 ^ 62) <= hi /\ hi < 2 ^ 62) (hok : scopeOk scope x = true) (hcl : closOf c.env.cells scope.names [] = some cl) (hz : (hi - lo).toNat <= sizeLine) (h0 : J 0 [] st)
 (turn : CTurn o c loc elt x scope cl (rngV lo hi) J) (fin : ∀ ys st' D, J (hi - lo).toNat ys st' -> ys.length = (hi - lo).toNat -> st' D = none -> Q (.ptr D) (st'.set D (.lst ys))) : COMPV o c loc st (.rng lo hi) elt iter x px scope pos cl Q := fun st₀ s₀ s va E H₀ S I r => by
 obtain ⟨k1, k2, k3, k4⟩ := scopeOk_parts hok
 cases r with
 | rng ht =>
 refine wpAny_pyIter_range ht (small_one hb.1 hb.2.1 hb.2.2.1 hb.2.2.2) ?_
 have hsz : Builtin.Range.rangeSize lo hi 1 = ((hi - lo).toNat : Int) := by rw [rangeSize_one]; split <;> (first | lia | omega)
 rw [hsz]
 have S1 : Step o.P noF st s st { s with heap := s.heap.push { cls := .type "range_iterator", data := .fields #[rawInt lo, rawInt ((hi - lo).toNat : Int), rawInt 1] } } := Step.push I.si.hs _ s.toks
 refine comp_core (T := "range_iterator") (xs := rngV lo hi) (P := fun i h => IsRangeIter h s.heap.objs.size (lo + (i : Nat)) (((hi - lo).toNat : Int) - (i : Nat)) 1) (R := fun h => True) (Ast := fun _ => True) (J := fun i ys st => J i ys st /\ ys.length = i) k1 k2 k3 k4 hcl (by rw [rngV_length]; exact hz) (none_of_mono S (Heap.get?_none_of_le (Nat.le_refl _))) H₀ (S.trans S1) (I.step S1)
  (fun i h h' p e => e.trans p) (fun i h p => ⟨_, _, p, rfl, rfl⟩) (by decide) (by decide) (fun _ _ _ => trivial) (fun _ _ _ _ _ _ => trivial) ?_ ?_ (fun s' Q' hp hq => wpAny_pyIter_rangeiter hp hq) (by
   have := Heap.get?_push_size s.heap (o := { cls := .type "range_iterator", data := .fields #[rawInt lo, rawInt ((hi - lo).toNat : Int), rawInt 1] }) rfl
   simpa using this)
  trivial ⟨h0, rfl⟩ turn.ct (by rw [rngV_length]; exact fun ys st' D hj _ hD => fin ys st' D hj.1 hj.2 hD)
 . intro E i x st' s' Q' hx hj S' hR hp hq
   obtain ⟨rfl, hi'⟩ := rngV_get hx
   refine wpAny_pyNext_range_item hp (by (first | lia | omega)) fun h' hit hsb => hq h' _ _ ?_ hsb (.int _ _)
   have e1 : lo + ((i + 1 : Nat) : Int) = lo + (i : Int) + 1 := by (first | lia | omega)
   have e2 : ((hi - lo).toNat : Int) - ((i + 1 : Nat) : Int) = ((hi - lo).toNat : Int) - (i : Int) - 1 := by (first | lia | omega)
   show IsRangeIter _ _ _ _ _
   rw [e1, e2]; exact hit
 . intro E st' s' Q' hj S' hR hp hq
   rw [rngV_length] at hp
   exact wpAny_pyNext_range_end S'.ok.handled hp (by (first | lia | omega)) hq
end
end NN
end
section
open PySem PySem.W PyProof.Rows PySem.Calls
set_option maxRecDepth 100000
set_option linter.all false
namespace NN
section
variable {o : Wo} [W : WoOk o] {c : Cx} {k : Kx} {loc : LocF} {st st' : St} {Q : V -> St -> Prop} {X : Exc -> St -> Prop} {QF : Fl -> LocF -> St -> Prop} {s : Shared}
end
noncomputable def KL (o : Wo) (l : Addr) (xs : List Int) : Prop := ∃ ws n, o.K.lookup l = some (listO ws n) /\ ∀ h, VRs h (xs.map V.int) ws
section
variable {o : Wo} [W : WoOk o] {c : Cx} {k : Kx} {loc : LocF} {st : St} {Q : V -> St -> Prop} {X : Exc -> St -> Prop}
theorem slv_klst {l : Addr} {xs : List Int} {lo hi : Option Int} (hl : KL o l xs) (hz : xs.length <= sizeLine) (h : ∀ a, st a = none -> Q (.ptr a) (st.set a (.lst (slicePart (xs.map V.int) lo hi)))) : SLV o k st (.ptr l) lo hi Q X := fun s va sl vl vu S ra hs pl pu => by
 cases ra
 obtain ⟨ws, n, hk, rr⟩ := hl
 have e1 := S.wd.k l _ hk
 have rr := rr s.heap
 have hlen := rr.length
 rw [List.length_map] at hlen
 refine ⟨"list", _, ⟨_, e1, rfl⟩, list_getitem_lookup, wpAny_getItem_list_slice ⟨_, e1, rfl, _, rfl⟩ hs pl pu .none (by simp) ?_ (by rw [List.size_toArray, <- hlen]; exact hz)⟩
 rw [slicePick_plain]
 have e2 : (((ws.toArray).toList.drop (lo.elim 0 (clipAt ws.toArray.size))).take (hi.elim ws.toArray.size (clipAt ws.toArray.size) - lo.elim 0 (clipAt ws.toArray.size))) = slicePart ws lo hi := by
  simp [slicePart]
 rw [e2]
 have e3 : VRs s.heap (slicePart (xs.map V.int) lo hi) (slicePart ws lo hi) := by
  unfold slicePart
  rw [List.length_map, hlen]
  exact (rr.drop _).take _
 exact ⟨.ptr _, _, .ptr _, Step.alloc S.hs _ (.lst (slicePart (xs.map V.int) lo hi)) rfl (.lst e3) s.toks, h _ (size_none S.hs)⟩
end
section
variable {o : Wo} [W : WoOk o] {c : Cx} {k : Kx} {loc : LocF} {st : St} {X : Exc -> St -> Prop} {QF : Fl -> LocF -> St -> Prop}
theorem for_coreX {fs' : List Env} (hfs : c.k.fs = c.env :: fs') (hfrm : c.env.frame = some c.env.locals) {target : Expr} {body : List Stmt} {it : Addr} {xs : List V} {T : String} {P : Nat -> Heap -> Prop} {R : Heap -> Prop} {J : Nat -> LocF -> St -> Prop} {s₀ s : Shared} {E : Value -> Shared -> Prop}
 (hfresh : s₀.heap.get? it = none) (H₀ : SI o c.k st s₀) (S : Step o.P (own c) st s₀ st s) (I : Inv o c loc st s)
 (hP : ∀ i h h', P i h -> h'.get? it = h.get? it -> P i h')
 (hPex : ∀ i h, P i h -> ∃ ob vs, h.get? it = some ob /\ ob.cls = .type T /\ ob.data = .fields vs)
 (hT : ["enumerate", "zip", "dict_itemiterator", "dict_reverseitemiterator", "odict_iterator", "itertools.zip_longest", "itertools.pairwise"].contains T = false) (hTf : T ≠ "frame") (hTr : T ≠ "range")
 (hR : ∀ {D : Addr -> Prop} {st : St} {h h' : Heap}, DOk D h -> KpD D h h' -> R h -> R h')
 (hItem : ∀ i x loc' st' (s : Shared) Q, xs[i]? = some x -> J i loc' st' -> SI o c.k st' s -> R s.heap -> P i s.heap -> (∀ h' va t, P (i + 1) h' -> Heap.SameBut it s.heap h' -> VR s.heap x va -> Q (some va) { s with heap := h', toks := t }) -> wpAny o.M c.k.A (pyNext (.ref it)) Q E s)
 (hEnd : ∀ loc' st' (s : Shared) Q, J xs.length loc' st' -> SI o c.k st' s -> R s.heap -> P xs.length s.heap -> (∀ h', Heap.ExtBut it s.heap h' -> Q none { s with heap := h' }) -> wpAny o.M c.k.A (pyNext (.ref it)) Q E s)
 (h0 : P 0 s.heap) (hR0 : R s.heap) (hJ0 : J 0 loc st)
 (turn : ∀ i x loc st, xs[i]? = some x -> J i loc st -> ASG o c loc st target x (fun loc₁ st₁ => EXS o c loc₁ st₁ body (fun fl loc₂ st₂ => match fl with
  | .next | .cont => J (i + 1) loc₂ st₂
  | .brk => QF .next loc₂ st₂
  | .ret v => QF (.ret v) loc₂ st₂) X) (fun _ _ => False))
 (fin : ∀ loc st, J xs.length loc st -> QF .next loc st) {R' : Result -> Shared -> Prop}
 (hr : ∀ f s', PF o c st s₀ QF f s' -> R' (.ok f) s') (hrX : ∀ e s' y st', Flying o.P (some c.env.locals) st' s₀.heap s'.heap y e -> (∃ ob vs T, s'.heap.get? e = some ob /\ ob.data = .fields vs /\ vs[1]? = some (.ref T)) -> Step o.P (own c) st s₀ st' s' -> Inv o c LocF.nil st' s' -> X y st' -> R' (.error (.ref e)) s') (hE : E = notedBy o.M c.k.A c.env fun e s' => R' (.error e) s') :
 codeAny o.M c.k.A (.forLoop target (.ref it) body [] c.env) R' s := by
 refine for_coreG (X := X) hfresh H₀ S I hP hPex hT hTf hTr @hR hItem hEnd h0 hR0 hJ0 turn fin hr (fun loc₂ st₂ s₂ ev s₃ S2 I₂ p => ?_) hE
 subst hE
 obtain ⟨y, st₃, e, rfl, fly, S₃, L₃, hX⟩ := p
 have hAd : ∀ a, o.ad a -> (s₀.heap.get? a).isSome = true := fun a ha => In.ex H₀.wd ha
 have I₃ := I₂.stepF S₃ L₃
 have S03 : Step o.P (own c) st s₀ st₃ s₃ := S2.trans S₃
 have fly0 := fly.older (h0' := s₀.heap) fun a q => none_of_mono S2 q
 have hfr' : c.k.A.frames = some (c.env :: fs') := by rw [<- hfs]; exact I.si.ok.fr
 refine note_core0 hfr' hfrm (by rw [<- hfs]; exact I₃.si.fs) I₃.si.hs (fun b hb => S03.mono b hb) fly0 (fun L' e => by cases e; rfl) fun h₂ fly₂ hT F2 => ?_
 exact hrX e _ y st₃ fly₂ hT (S03.absorbF F2 fun a ha => .inr ha.1) (I₃.stepN hAd F2) hX
noncomputable def FORVX (o : Wo) (c : Cx) (loc : LocF) (st : St) (v : V) (target : Expr) (body : List Stmt) (QF : Fl -> LocF -> St -> Prop) (X : Exc -> St -> Prop) : Prop :=
 ∀ s va E' R', Inv o c loc st s -> VR s.heap v va -> (∀ f s', PF o c st s QF f s' -> R' (.ok f) s') ->
  (∀ e s' y st', Flying o.P (some c.env.locals) st' s.heap s'.heap y e -> (∃ ob vs T, s'.heap.get? e = some ob /\ ob.data = .fields vs /\ vs[1]? = some (.ref T)) -> Step o.P (own c) st s st' s' -> Inv o c LocF.nil st' s' -> X y st' -> R' (.error (.ref e)) s') ->
  wpAny o.M c.k.A (pyIter va) (fun it s₂ => codeAny o.M c.k.A (.forLoop target it body [] c.env) R' s₂) E' s
theorem ex_forX {fs' : List Env} (hfs : c.k.fs = c.env :: fs') (hfrm : c.env.frame = some c.env.locals) {target iter : Expr} {body : List Stmt} {pos : Pos} (hs : ∀ env x, foldedSetIterable iter env x = pure x) (h : EV o c loc st iter (fun v st₁ => FORVX o c loc st₁ v target body QF X) X) : EX o c loc st (.For target iter body [] pos) QF X := fun s I => by
 refine wpAny_For (pxw I (h.use I fun v st₁ va s₁ q S I₁ r => q s₁ va _ _ I₁ r (fun f s' p => p.trans S.weak) fun e s' y st' fly hT S' I' hX => ?_)) (hs _)
 obtain ⟨ob, vs, T, t1, t2, t3⟩ := hT
 have hAd : ∀ a, o.ad a -> (s.heap.get? a).isSome = true := fun a ha => In.ex I.si.wd ha
 have fly0 := fly.older (h0' := s.heap) fun a q => none_of_mono S q
 have S0 : Step o.P (own c) st s st' s' := S.weak.trans S'
 unfold cameBackBy
 refine wpAny_bind (wpAny_field t1 t2 t3 ?_)
 rw [hfrm]
 refine flight_R (some c.env.locals) I'.si.hs fly0 fun h₂ fly₂ F2 => ?_
 exact ⟨y, st', e, rfl, fly₂, S0.absorbF F2 fun a ha => .inr ha.1, (I'.stepN hAd F2).lc, hX⟩
noncomputable def TurnX (o : Wo) (c : Cx) (target : Expr) (body : List Stmt) (xs : List V) (J : Nat -> LocF -> St -> Prop) (QF : Fl -> LocF -> St -> Prop) (X : Exc -> St -> Prop) : Prop :=
 ∀ i x loc st, xs[i]? = some x -> J i loc st -> ASG o c loc st target x (fun loc₁ st₁ => EXS o c loc₁ st₁ body (fun fl loc₂ st₂ => match fl with
  | .next | .cont => J (i + 1) loc₂ st₂
  | .brk => QF .next loc₂ st₂
  | .ret v => QF (.ret v) loc₂ st₂) X) (fun _ _ => False)
theorem forvx_tup {fs' : List Env} (hfs : c.k.fs = c.env :: fs') (hfrm : c.env.frame = some c.env.locals) {xs : List V} {target : Expr} {body : List Stmt} (J : Nat -> LocF -> St -> Prop) (h0 : J 0 loc st) (turn : TurnX o c target body xs J QF X) (fin : ∀ loc st, J xs.length loc st -> QF .next loc st) :
 FORVX o c loc st (.tup xs) target body QF X := fun s va E' R' I r hr hrX => by
 cases r with
 | tup ht rr =>
 rename_i ws a n
 have tt : s.heap.IsTuple a ws.toArray := ⟨_, ht, rfl, _, rfl⟩
 refine wpAny_pyIter_tuple tt ?_
 have S : Step o.P (own c) st s st { s with heap := s.heap.push { cls := .type "tuple_iterator", data := .fields #[.ref a, .int 0 0] } } := Step.push I.si.hs _ s.toks
 have ex : ∀ {h : Heap}, (∃ ws n, IsT h a ws.toArray n /\ VRs h xs ws) -> ∃ ws, h.IsTuple a ws.toArray /\ VRs h xs ws := fun ⟨ws, n, h1, h2⟩ => ⟨ws, ⟨_, h1, rfl, _, rfl⟩, h2⟩
 refine for_coreX hfs hfrm (T := "tuple_iterator") (xs := xs) (P := fun i h => h.IsTupleIter s.heap.objs.size a i) (R := fun h => ∃ ws n, IsT h a ws.toArray n /\ VRs h xs ws) (J := J) (Heap.get?_none_of_le (Nat.le_refl _)) I.si S ?_
  (fun i h h' ⟨ob, p1, p2⟩ e => ⟨ob, e.trans p1, p2⟩) (fun i h ⟨ob, p1, p2, p3⟩ => ⟨_, _, p1, p2, p3⟩) (by decide) (by decide) (by decide) (fun D K ⟨ws, n, h1, h2⟩ => ⟨ws, n, (KpV.of D K).tup _ _ _ h1, h2.keepD D K⟩) ?_ ?_ ⟨_, Heap.get?_push_size _ rfl, rfl, rfl⟩
  ⟨ws, n, Heap.get?_push_of_some _ ht, rr.keep I.si.hs (Kp.push _)⟩ h0 turn fin hr hrX rfl
 . exact I.step (Step.push I.si.hs _ s.toks)
 . intro i x loc' st' s' Q' hx hj S' hR hp hq
   obtain ⟨ws', ht', rr'⟩ := ex hR
   obtain ⟨v, hv, rv⟩ := rr'.get hx
   exact wpAny_pyNext_tuple_item hp ht' (x := v) (by simpa using hv) fun h' hit hsb => hq h' v s'.toks hit hsb rv
 . intro loc' st' s' Q' hj S' hR hp hq
   obtain ⟨ws', ht', rr'⟩ := ex hR
   exact wpAny_pyNext_tuple_end S'.ok.handled hp ht' (by simp [rr'.length]) hq
end
class SmOk (o : Wo) : Prop where
 sm : ∃ ob, o.K.lookup sysModules = some ob
inductive SK {K : Type} (h : Heap) : List (K × V) -> List (K × Value) -> Prop
 | nil : SK h [] []
 | cons {k x v l r} : VR h x v -> SK h l r -> SK h ((k, x) :: l) ((k, v) :: r)
noncomputable def pget {K : Type} [DecidableEq K] (k : K) : List (K × V) -> Option V
 | [] => none
 | (k', y) :: r => if k' = k then some y else pget k r
noncomputable def pput {K : Type} [DecidableEq K] (k : K) (x : V) : List (K × V) -> List (K × V)
 | [] => [(k, x)]
 | (k', y) :: r => if k' = k then (k', x) :: r else (k', y) :: pput k x r
section
variable {K : Type} [DecidableEq K] {h : Heap}
theorem SK.names {l : List (K × V)} {r : List (K × Value)} (x : SK h l r) : r.map (·.1) = l.map (·.1) := by
 induction x with
 | nil => rfl
 | cons _ _ ih => exact congrArg (List.cons _) ih
theorem SK.len {l : List (K × V)} {r : List (K × Value)} (x : SK h l r) : r.length = l.length := by
 induction x with
 | nil => rfl
 | cons _ _ ih => exact congrArg Nat.succ ih
theorem valueAt_eq {k : K} {v : Value} {r : List (K × Value)} : valueAt ((k, v) :: r) k = some v := by
 unfold valueAt; rw [List.find?_cons, decide_eq_true rfl]; rfl
theorem valueAt_ne {k k' : K} {v : Value} {r : List (K × Value)} (q : k' ≠ k) : valueAt ((k', v) :: r) k = valueAt r k := by
 unfold valueAt; rw [List.find?_cons, decide_eq_false q]
theorem pgc_eq {k : K} {x : V} {r : List (K × V)} : pget k ((k, x) :: r) = some x := if_pos rfl
theorem pgc_ne {k k' : K} {x : V} {r : List (K × V)} (q : k' ≠ k) : pget k ((k', x) :: r) = pget k r := if_neg q
theorem ppc_eq {k : K} {x y : V} {r : List (K × V)} : pput k x ((k, y) :: r) = (k, x) :: r := if_pos rfl
theorem ppc_ne {k k' : K} {x y : V} {r : List (K × V)} (q : k' ≠ k) : pput k x ((k', y) :: r) = (k', y) :: pput k x r := if_neg q
theorem SK.get {k : K} {x : V} {l : List (K × V)} {r : List (K × Value)} (X : SK h l r) (e : pget k l = some x) : ∃ v, valueAt r k = some v /\ VR h x v := by
 induction X with
 | nil => exact nomatch e
 | cons rv _ ih =>
  rename_i k' _ _ _ _ _
  by_cases q : k' = k
  . subst q
    exact ⟨_, valueAt_eq, Option.some.inj (pgc_eq.symm.trans e) ▸ rv⟩
  . obtain ⟨v', h1, h2⟩ := ih ((pgc_ne q).symm.trans e)
    exact ⟨v', (valueAt_ne q).trans h1, h2⟩
theorem SK.miss {k : K} {l : List (K × V)} {r : List (K × Value)} (X : SK h l r) (e : pget k l = none) : valueAt r k = none := by
 induction X with
 | nil => rfl
 | cons rv _ ih =>
  rename_i k' _ _ _ _ _
  by_cases q : k' = k
  . subst q
    exact nomatch pgc_eq.symm.trans e
  . exact (valueAt_ne q).trans (ih ((pgc_ne q).symm.trans e))
theorem SK.keepV {h' : Heap} (Kp : KpV h h') {l : List (K × V)} {r : List (K × Value)} (x : SK h l r) : SK h' l r := by
 induction x with
 | nil => exact .nil
 | cons rv _ ih => exact .cons (rv.keepV Kp) ih
theorem stored_cons_ne {k' k : K} {v' v : Value} {r : List (K × Value)} (q : k' ≠ k) : stored ((k', v') :: r) k v = (k', v') :: stored r k v := by
 unfold stored
 have e : ((k', v') :: r).any (fun kv => decide (kv.1 = k)) = r.any (fun kv => decide (kv.1 = k)) := by rw [List.any_cons]; simp [q]
 rw [e]
 split
 . rw [List.map_cons, if_neg q]
 . rfl
theorem SK.put {k : K} {x : V} {v : Value} (rv : VR h x v) {l : List (K × V)} {r : List (K × Value)} (X : SK h l r) (nd : (l.map (·.1)).Nodup) : SK h (pput k x l) (stored r k v) := by
 induction X with
 | nil => exact .cons rv .nil
 | cons rv' rr ih =>
  rename_i k' x' v' l r
  have nd := List.nodup_cons.mp nd
  by_cases q : k' = k
  . subst q
    have e : stored ((k', v') :: r) k' v = (k', v) :: r := by
     unfold stored
     rw [if_pos (by simp), List.map_cons, if_pos rfl, map_store_of_not_mem r k' v (by rw [rr.names]; exact nd.1)]
    rw [e, ppc_eq]; exact .cons rv rr
  . rw [stored_cons_ne q, ppc_ne q]; exact .cons rv' (ih nd.2)
end
theorem sget_pget (k : Str) : ∀ l : List (Str × V), sget k l = pget k l
 | [] => rfl
 | (k', y) :: r => by
  unfold sget pget
  rw [sget_pget k r]
  by_cases q : k' = k
  . rw [if_pos q, if_pos (beq_iff_eq.mpr q)]
  . rw [if_neg q, if_neg (fun e => q (beq_iff_eq.mp e))]
theorem sput_pput (k : Str) (x : V) : ∀ l : List (Str × V), sput k x l = pput k x l
 | [] => rfl
 | (k', y) :: r => by
  unfold sput pput
  rw [sput_pput k x r]
  by_cases q : k' = k
  . rw [if_pos q, if_pos (beq_iff_eq.mpr q)]
  . rw [if_neg q, if_neg (fun e => q (beq_iff_eq.mp e))]
section
variable {prog : Program} {w : World} {h : Heap}
theorem isS (x : Str) (t : Tok) : (strKind prog w).is x (.str x t) = true := by simp [PySem.strKind, Value.isStrOf]
theorem isN (x : Int) (t : Tok) : (intKind prog w).is x (.int x t) = true := by simp [PySem.intKind, Value.isInt]
theorem sk_of {l : List (Str × V)} {es : List DictEntry} (x : SEs w.params h l es) : ∃ kvs, SK h l kvs /\ Pairs (strKind prog w) es kvs /\ ∀ e ∈ es, ∃ k, (strKind prog w).is k e.key = true /\ e.hash = (strKind prog w).hash k := by
 induction x with
 | nil => exact ⟨[], .nil, .nil, fun _ h => nomatch h⟩
 | cons rv _ ih =>
  obtain ⟨kvs, h1, h2, h3⟩ := ih
  exact ⟨(_, _) :: kvs, .cons rv h1, .cons (isS _ _) rfl h2, fun e he => (List.mem_cons.mp he).elim (fun q => q ▸ ⟨_, isS _ _, rfl⟩) (h3 e)⟩
theorem nk_of {l : List (Int × V)} {es : List DictEntry} (x : NEs h l es) : ∃ kvs, SK h l kvs /\ Pairs (intKind prog w) es kvs /\ ∀ e ∈ es, ∃ k, (intKind prog w).is k e.key = true /\ e.hash = (intKind prog w).hash k := by
 induction x with
 | nil => exact ⟨[], .nil, .nil, fun _ h => nomatch h⟩
 | cons rv _ ih =>
  obtain ⟨kvs, h1, h2, h3⟩ := ih
  exact ⟨(_, _) :: kvs, .cons rv h1, .cons (isN _ _) rfl h2, fun e he => (List.mem_cons.mp he).elim (fun q => q ▸ ⟨_, isN _ _, rfl⟩) (h3 e)⟩
theorem sk_back {l : List (Str × V)} {kvs : List (Str × Value)} {es : List DictEntry} (x : SK h l kvs) (p : Pairs (strKind prog w) es kvs) (hk : ∀ e ∈ es, ∃ k, (strKind prog w).is k e.key = true /\ e.hash = (strKind prog w).hash k) : SEs w.params h l es := by
 induction x generalizing es with
 | nil => cases p; exact .nil
 | cons rv _ ih =>
  cases p with
  | cons h1 h2 h3 =>
  obtain ⟨k', a1, a2⟩ := hk _ (.head _)
  have r := ih h3 fun e he => hk e (.tail _ he)
  rw [(strKind prog w).inj _ _ _ a1 h1] at a2
  obtain ⟨t, et⟩ := Value.isStrOf_shape h1
  clear ih h3 hk a1 h1
  rename_i e _
  obtain ⟨hh, key, val⟩ := e
  dsimp only at et h2 a2
  subst et h2 a2
  exact .cons rv r
theorem nk_back {l : List (Int × V)} {kvs : List (Int × Value)} {es : List DictEntry} (x : SK h l kvs) (p : Pairs (intKind prog w) es kvs) (hk : ∀ e ∈ es, ∃ k, (intKind prog w).is k e.key = true /\ e.hash = (intKind prog w).hash k) : NEs h l es := by
 induction x generalizing es with
 | nil => cases p; exact .nil
 | cons rv _ ih =>
  cases p with
  | cons h1 h2 h3 =>
  obtain ⟨k', a1, a2⟩ := hk _ (.head _)
  have r := ih h3 fun e he => hk e (.tail _ he)
  rw [(intKind prog w).inj _ _ _ a1 h1] at a2
  obtain ⟨t, et⟩ := Value.isInt_shape h1
  clear ih h3 hk a1 h1
  rename_i e _
  obtain ⟨hh, key, val⟩ := e
  dsimp only at et h2 a2
  subst et h2 a2
  exact .cons rv r
end
section
variable {o : Wo} [W : WoOk o] [Sm : SmOk o] {c : Cx} {k : Kx} {loc : LocF} {st : St} {Q : V -> St -> Prop} {X : Exc -> St -> Prop} {QL : LocF -> St -> Prop}
noncomputable def SD (st : St) (d : Addr) (l : List (Str × V)) : Prop := st d = some (.sd l) /\ (l.map (·.1)).Nodup
noncomputable def ND (st : St) (d : Addr) (l : List (Int × V)) : Prop := (st d = some (.nd l) \/ (l = [] /\ st d = some (.sd []))) /\ (l.map (·.1)).Nodup
theorem SD.of {d : Addr} {l : List (Str × V)} {s : Shared} (H : Holds o.P st s.heap) (x : SD st d l) : ∃ kvs, SK s.heap l kvs /\ s.heap.DictOf (strKind o.prog o.w) d kvs := by
 obtain ⟨es, n, h1, r⟩ := sd_of (H d _ x.1)
 obtain ⟨kvs, a, b, e⟩ := sk_of (prog := o.prog) r
 exact ⟨kvs, a, _, es.toArray, n, h1, ⟨rfl, rfl, rfl⟩, rfl, fun en he => e en (by simpa using he), by simpa using b, by rw [a.names]; exact x.2⟩
theorem ND.of {d : Addr} {l : List (Int × V)} {s : Shared} (H : Holds o.P st s.heap) (x : ND st d l) : ∃ kvs, SK s.heap l kvs /\ s.heap.DictOf (intKind o.prog o.w) d kvs := by
 rcases x.1 with x1 | ⟨rfl, x1⟩
 . obtain ⟨ob, h1, m⟩ := H d _ x1
   cases m with
   | nd r =>
   rename_i es n
   obtain ⟨kvs, a, b, e⟩ := nk_of (prog := o.prog) (w := o.w) r
   exact ⟨kvs, a, _, es.toArray, n, h1, ⟨rfl, rfl, rfl⟩, rfl, fun en he => e en (by simpa using he), by simpa using b, by rw [a.names]; exact x.2⟩
 . obtain ⟨_, _, h1, r⟩ := sd_of (H d _ x1)
   cases r
   exact ⟨[], .nil, _, #[], _, h1, ⟨rfl, rfl, rfl⟩, rfl, fun en he => by simp at he, .nil, List.nodup_nil⟩
theorem sm_ne {d : Addr} {m : MO} {s : Shared} (S : SI o k st s) (h : st d = some m) : (d == sysModules) = false := by
 rw [beq_eq_false_iff_ne]
 rintro rfl
 obtain ⟨ob, e⟩ := Sm.sm
 rw [S.sep _ (.inl ⟨ob, e⟩)] at h; cases h
theorem SD.ne {d : Addr} {l : List (Str × V)} {s : Shared} (S : SI o k st s) (x : SD st d l) : (d == sysModules) = false := sm_ne S x.1
theorem ND.ne {d : Addr} {l : List (Int × V)} {s : Shared} (S : SI o k st s) (x : ND st d l) : (d == sysModules) = false := by
 rcases x.1 with q | ⟨_, q⟩ <;> exact sm_ne S q
theorem opt_bool {α : Type} {a : Option α} {b : Option Value} (h : a = none -> b = none) (h' : ∀ x, a = some x -> ∃ v, b = some v) : b.isSome = a.isSome := by
 cases e : a with
 | none => rw [h e]; rfl
 | some x => obtain ⟨v, q⟩ := h' x e; rw [q]; rfl
theorem cmp_in_sd {d : Addr} {l : List (Str × V)} {x : Str} (hd : SD st d l) (h : Q (.bool (sget x l).isSome) st) : CMP o k st .In (.str x) (.ptr d) Q X := fun s va vb S ra rb => by
 cases ra; cases rb
 obtain ⟨kvs, a, D⟩ := hd.of S.hs
 refine wpAny_in_of (knd := strKind o.prog o.w) (isS _ _) (hd.ne S) D.mapOf ?_
 rw [opt_bool (a := pget x l) (fun e => a.miss e) (fun y e => let ⟨v, h1, _⟩ := a.get e; ⟨v, h1⟩), <- sget_pget]
 exact ⟨_, st, .bool _, Step.toks S.hs _, h⟩
theorem cmp_nin_sd {d : Addr} {l : List (Str × V)} {x : Str} (hd : SD st d l) (h : Q (.bool (!(sget x l).isSome)) st) : CMP o k st .NotIn (.str x) (.ptr d) Q X := fun s va vb S ra rb => by
 cases ra; cases rb
 obtain ⟨kvs, a, D⟩ := hd.of S.hs
 refine wpAny_notIn_of (knd := strKind o.prog o.w) (isS _ _) (hd.ne S) D.mapOf ?_
 rw [opt_bool (a := pget x l) (fun e => a.miss e) (fun y e => let ⟨v, h1, _⟩ := a.get e; ⟨v, h1⟩), <- sget_pget]
 exact ⟨_, st, .bool _, Step.toks S.hs _, h⟩
theorem sub_sd {d : Addr} {l : List (Str × V)} {x : Str} {v : V} (hd : SD st d l) (hx : sget x l = some v) (h : Q v st) : SUB o k st (.ptr d) (.str x) Q X := fun s va vi S ra ri => by
 cases ra; cases ri
 obtain ⟨kvs, a, D⟩ := hd.of S.hs
 rw [sget_pget] at hx
 obtain ⟨u, h1, h2⟩ := a.get hx
 exact ⟨"dict", _, D.typeIs, PySem.F.slot_dict_getitem.lookup, wpAny_getItem_of (knd := strKind o.prog o.w) (isS _ _) D.mapOf h1 ⟨v, st, h2, Step.toks S.hs _, h⟩⟩
theorem meth_dict {d : Addr} {m : MO} {name : Str} {id : String} (hd : st d = some m) (hm : (∃ l, m = .sd l) \/ ∃ l, m = .nd l) (slot : Slot "dict" name id) (hty : typeOf (.builtin id) = pure (.type "method_descriptor")) : METH o k st (.ptr d) name (.builtin id) := fun s va pl S r => by
 cases r
 obtain ⟨ob, e1, m1⟩ := S.hs d _ hd
 have : ob.cls = .type "dict" /\ ob.dict = none := by
  rcases hm with ⟨l, rfl⟩ | ⟨l, rfl⟩ <;> cases m1 <;> exact ⟨rfl, rfl⟩
 refine getMethod_builtin ⟨_, e1, this.1⟩ PySem.F.plainAttrs_dict slot hty (fun a e => ?_) ⟨rfl, s.toks, rfl⟩
 cases e
 exact ⟨_, e1, this.2⟩
theorem meth_get_sd {d : Addr} {l : List (Str × V)} (hd : SD st d l) : METH o k st (.ptr d) "get" (.builtin "dict.get") := meth_dict hd.1 (.inl ⟨_, rfl⟩) PySem.F.slot_dict_get PySem.F.type_dict_get
theorem meth_get_nd {d : Addr} {l : List (Int × V)} (hd : ND st d l) : METH o k st (.ptr d) "get" (.builtin "dict.get") := by
 rcases hd.1 with q | ⟨_, q⟩
 . exact meth_dict q (.inr ⟨_, rfl⟩) PySem.F.slot_dict_get PySem.F.type_dict_get
 . exact meth_dict q (.inl ⟨_, rfl⟩) PySem.F.slot_dict_get PySem.F.type_dict_get
theorem call_get_sd {d : Addr} {l : List (Str × V)} {x : Str} (hd : SD st d l) (h : Q ((sget x l).getD .none) st) : CALL o k st (.builtin "dict.get") [.ptr d, .str x] Q X := fun s vs S r => by
 cases r.inv2 with
 | mk r1 r2 =>
 cases r1; cases r2
 obtain ⟨kvs, a, D⟩ := hd.of S.hs
 refine call_meetsIn PySem.F.slot_dict_get D.typeIs PySem.F.entry_dict_get (PySem.F.args_dict_get_2 _ _) (meets_dict_get (strKind o.prog o.w) d (k := x) (isS _ _) (hd.ne S)) ⟨_, D.mapOf, ?_⟩
 rw [sget_pget] at h
 cases e : pget x l with
 | none => rw [e] at h; rw [a.miss e]; exact ⟨.none, st, .none, Step.toks S.hs _, h⟩
 | some y => rw [e] at h; obtain ⟨v, h1, h2⟩ := a.get e; rw [h1]; exact ⟨y, st, h2, Step.toks S.hs _, h⟩
theorem call_get_nd {d : Addr} {l : List (Int × V)} {x : Int} (hd : ND st d l) (h : Q ((pget x l).getD .none) st) : CALL o k st (.builtin "dict.get") [.ptr d, .int x] Q X := fun s vs S r => by
 cases r.inv2 with
 | mk r1 r2 =>
 cases r1; cases r2
 obtain ⟨kvs, a, D⟩ := hd.of S.hs
 refine call_meetsIn PySem.F.slot_dict_get D.typeIs PySem.F.entry_dict_get (PySem.F.args_dict_get_2 _ _) (meets_dict_get (intKind o.prog o.w) d (k := x) (isN _ _) (hd.ne S)) ⟨_, D.mapOf, ?_⟩
 cases e : pget x l with
 | none => rw [e] at h; rw [a.miss e]; exact ⟨.none, st, .none, Step.toks S.hs _, h⟩
 | some y => rw [e] at h; obtain ⟨v, h1, h2⟩ := a.get e; rw [h1]; exact ⟨y, st, h2, Step.toks S.hs _, h⟩
noncomputable def SETI (o : Wo) (k : Kx) (st : St) (a i v : V) (Q : St -> Prop) (X : Exc -> St -> Prop) : Prop :=
 ∀ s va vi vv, SI o k st s -> VR s.heap a va -> VR s.heap i vi -> VR s.heap v vv -> wpAny o.M k.A (setItem va vi vv) (fun _ s' => ∃ st', Step o.P noF st s st' s' /\ Q st') (PX o noF st s X) s
theorem seti_sd {d : Addr} {l : List (Str × V)} {x : Str} {v : V} {Q : St -> Prop} (hd : SD st d l) (hz : l.length <= 60) (h : Q (st.set d (.sd (sput x v l)))) : SETI o k st (.ptr d) (.str x) v Q X := fun s va vi vv S ra ri rv => by
 cases ra; cases ri
 obtain ⟨kvs, a, D⟩ := hd.of S.hs
 refine wpAny_setItem_pairs (knd := strKind o.prog o.w) (isS _ _) D (fun h' D' hs => ?_) (hsz := by rw [a.len]; exact Nat.le_trans hz (by decide))
 obtain ⟨ob, es, n, e1, ⟨c1, c2, c3⟩, e2, e3, e4, e5⟩ := D'
 have eo : ob = dictO es.toList n := by obtain ⟨cl, di, da, sl⟩ := ob; dsimp only at c1 c2 c3 e2; subst c1 c2 c3 e2; simp
 refine ⟨_, Step.upd (P := o.P) S.hs (by rw [hd.1]; simp) hs (eo ▸ e1) (fun hh K => ?_) _, h⟩
 have KV : KpV s.heap hh := .of (.ofSt S.hs) K.d
 have a' : SK hh (pput x v l) (stored kvs x vv) := (a.keepV KV).put (rv.keepV KV) hd.2
 rw [sput_pput]
 exact .sd (sk_back (prog := o.prog) a' (by simpa using e4) fun e he => e3 e (by simpa using he))
theorem seti_nd {d : Addr} {l : List (Int × V)} {x : Int} {v : V} {Q : St -> Prop} (hd : ND st d l) (hz : l.length <= 60) (h : Q (st.set d (.nd (pput x v l)))) : SETI o k st (.ptr d) (.int x) v Q X := fun s va vi vv S ra ri rv => by
 cases ra; cases ri
 obtain ⟨kvs, a, D⟩ := hd.of S.hs
 refine wpAny_setItem_pairs (knd := intKind o.prog o.w) (isN _ _) D (fun h' D' hs => ?_) (hsz := by rw [a.len]; exact Nat.le_trans hz (by decide))
 obtain ⟨ob, es, n, e1, ⟨c1, c2, c3⟩, e2, e3, e4, e5⟩ := D'
 have eo : ob = dictO es.toList n := by obtain ⟨cl, di, da, sl⟩ := ob; dsimp only at c1 c2 c3 e2; subst c1 c2 c3 e2; simp
 refine ⟨_, Step.upd (P := o.P) S.hs (by rcases hd.1 with q | ⟨_, q⟩ <;> rw [q] <;> simp) hs (eo ▸ e1) (fun hh K => ?_) _, h⟩
 have KV : KpV s.heap hh := .of (.ofSt S.hs) K.d
 have a' : SK hh (pput x v l) (stored kvs x vv) := (a.keepV KV).put (rv.keepV KV) hd.2
 exact .nd (nk_back (prog := o.prog) a' (by simpa using e4) fun e he => e3 e (by simpa using he))
theorem asg_sub {e i : Expr} {pos : Pos} {v : V} (hn : ∀ l u s p, i ≠ .Slice l u s p) (h : EV o c loc st e (fun a st₁ => EV o c loc st₁ i (fun b st₂ => SETI o c.k st₂ a b v (fun st₃ => QL loc st₃) X) X) X) : ASG o c loc st (.Subscript e i pos) v QL X := fun s u I r => by
 rw [arm_assign_Subscript]
 refine wpAny_bind (wpAny_holding (pxw I (h.use I fun a st₁ va s₁ q S I₁ ra => ?_)))
 refine wpAny_bind (wpAny_holding (pxw I (px S (q.use I₁ fun b st₂ vb s₂ q₂ S₂ I₂ rb => ?_))))
 have r2 := (r.keep I.si.hs S.kp).keep I₁.si.hs S₂.kp
 refine wpAny_bind (wpAny_standAt (wpAny_bind (wpAny_holding (pxw I (px (S.trans S₂) (wpAny_mono (q₂ s₂ va vb u I₂.si (ra.keep I₁.si.hs S₂.kp) rb r2) (fun _ s₃ ⟨st₃, S₃, hq⟩ => ?_) fun _ _ p => p))))))
 have SS := (S.trans S₂).trans S₃
 have I₃ := I.step SS
 exact wpAny_release ⟨loc, st₃, SS.weak, I₃.lc, hq⟩
end
section
variable {o : Wo} [W : WoOk o] {c : Cx} {k : Kx} {loc : LocF} {st : St} {Q : V -> St -> Prop} {X : Exc -> St -> Prop}
noncomputable abbrev COMPV1 (o : Wo) (c : Cx) (loc : LocF) (st : St) (v : V) (elt iter cnd : Expr) (x : Str) (px : Pos) (scope : Scope) (pos : Pos) (cl : List (Str × Addr)) (Q : V -> St -> Prop) : Prop := COMPg o c loc st v elt iter [cnd] x px scope pos cl Q
theorem ev_comp1 {elt iter cnd : Expr} {x : Str} {px pos : Pos} {scope : Scope} (cl : List (Str × Addr)) (hs : ∀ env y, foldedSetIterable iter env y = pure y) (hok : scopeOk scope x = true) (hcl : closOf c.env.cells scope.names [] = some cl)
 (h : EV o c loc st iter (fun v st₁ => COMPV1 o c loc st₁ v elt iter cnd x px scope pos cl Q) X) : EV o c loc st (.ListComp elt [⟨.Name x px, iter, [cnd], 0⟩] scope pos) Q X := ev_compg cl hs hok hcl h
noncomputable def CTurn1 (o : Wo) (c : Cx) (loc : LocF) (elt cnd : Expr) (x : Str) (scope : Scope) (cl : List (Str × Addr)) (xs : List V) (J : Nat -> List V -> St -> Prop) : Prop :=
 ∀ i v ys st' D C, xs[i]? = some v -> J i ys st' -> st' D = none -> TR o (compCx c scope cl C) ((capt c scope cl loc).set x v) (st'.set D (.lst ys)) cnd (fun b st1 => if b then EV o (compCx c scope cl C) ((capt c scope cl loc).set x v) st1 elt (fun y st'' => ∃ st₃, st'' = st₃.set D (.lst ys) /\ st₃ D = none /\ J (i + 1) (ys ++ [y]) st₃) (fun _ _ => False) else ∃ st₃, st1 = st₃.set D (.lst ys) /\ st₃ D = none /\ J (i + 1) ys st₃) (fun _ _ => False)
theorem CTurn1.ct {elt cnd : Expr} {x : Str} {scope : Scope} {cl : List (Str × Addr)} {xs : List V} {J : Nat -> List V -> St -> Prop} (h : CTurn1 o c loc elt cnd x scope cl xs J) : CT o c loc elt [cnd] x scope cl xs J := fun i v ys st' D C s hx hj hD I => by
 unfold tests
 rw [List.forIn_cons]
 simp only [if_true]
 refine wpAny_bind (wpAny_bind (wpAny_mono (h i v ys st' D C hx hj hD _ I) (fun bv s3 p => ?_) fun _ _ ⟨_, _, _, _, _, _, _, q⟩ => q.elim))
 refine wpAny_pure ?_
 simp only [List.forIn_nil]
 exact wpAny_pure p
variable {elt iter cnd : Expr} {x : Str} {px pos : Pos} {scope : Scope} {cl : List (Str × Addr)}
theorem compv1_lst {l : Addr} {xs : List V} (J : Nat -> List V -> St -> Prop) (hok : scopeOk scope x = true) (hcl : closOf c.env.cells scope.names [] = some cl) (hz : xs.length <= sizeLine) (hJ : ∀ i ys st', J i ys st' -> st' l = some (.lst xs)) (h0 : J 0 [] st)
 (turn : CTurn1 o c loc elt cnd x scope cl xs J) (fin : ∀ ys st' D, J xs.length ys st' -> ys.length <= xs.length -> st' D = none -> Q (.ptr D) (st'.set D (.lst ys))) : COMPV1 o c loc st (.ptr l) elt iter cnd x px scope pos cl Q := compg_lst J hok hcl hz hJ h0 turn.ct fin
theorem compv_tup {xs : List V} (J : Nat -> List V -> St -> Prop) (hok : scopeOk scope x = true) (hcl : closOf c.env.cells scope.names [] = some cl) (hz : xs.length <= sizeLine) (h0 : J 0 [] st)
 (turn : CTurn o c loc elt x scope cl xs J) (fin : ∀ ys st' D, J xs.length ys st' -> ys.length = xs.length -> st' D = none -> Q (.ptr D) (st'.set D (.lst ys))) : COMPV o c loc st (.tup xs) elt iter x px scope pos cl Q := fun st₀ s₀ s va E H₀ S I r => by
 obtain ⟨k1, k2, k3, k4⟩ := scopeOk_parts hok
 cases r with
 | tup ht rr =>
 rename_i ws a n
 refine wpAny_pyIter_tuple ⟨_, ht, rfl, _, rfl⟩ ?_
 have S1 : Step o.P noF st s st { s with heap := s.heap.push { cls := .type "tuple_iterator", data := .fields #[.ref a, .int 0 0] } } := Step.push I.si.hs _ s.toks
 have ex : ∀ {h : Heap}, (∃ ws n, IsT h a ws.toArray n /\ VRs h xs ws) -> ∃ ws, h.IsTuple a ws.toArray /\ VRs h xs ws := fun ⟨ws, n, h1, h2⟩ => ⟨ws, ⟨_, h1, rfl, _, rfl⟩, h2⟩
 refine comp_core (T := "tuple_iterator") (xs := xs) (P := fun i h => h.IsTupleIter s.heap.objs.size a i) (R := fun h => ∃ ws n, IsT h a ws.toArray n /\ VRs h xs ws) (Ast := fun _ => True) (J := fun i ys st => J i ys st /\ ys.length = i) k1 k2 k3 k4 hcl hz (none_of_mono S (Heap.get?_none_of_le (Nat.le_refl _))) H₀ (S.trans S1) (I.step S1)
  (fun i h h' ⟨ob, p1, p2⟩ e => ⟨ob, e.trans p1, p2⟩) (fun i h ⟨ob, p1, p2, p3⟩ => ⟨_, _, p1, p2, p3⟩) (by decide) (by decide) (fun D K ⟨ws, n, h1, h2⟩ => ⟨ws, n, (KpV.of D K).tup _ _ _ h1, h2.keepD D K⟩)
  (fun _ _ _ _ _ _ => trivial) ?_ ?_ (fun s' Q' hp hq => ?_) ⟨_, Heap.get?_push_size _ rfl, rfl, rfl⟩ ⟨ws, n, Heap.get?_push_of_some _ ht, rr.keep I.si.hs (Kp.push _)⟩ ⟨h0, rfl⟩ turn.ct fun ys st' D hj _ hD => fin ys st' D hj.1 hj.2 hD
 . intro E i x st' s' Q' hx hj S' hR hp hq
   obtain ⟨ws', ht', rr'⟩ := ex hR
   obtain ⟨v, hv, rv⟩ := rr'.get hx
   exact wpAny_pyNext_tuple_item hp ht' (x := v) (by simpa using hv) fun h' hit hsb => hq h' v s'.toks hit hsb rv
 . intro E st' s' Q' hj S' hR hp hq
   obtain ⟨ws', ht', rr'⟩ := ex hR
   exact wpAny_pyNext_tuple_end S'.ok.handled hp ht' (by simp [rr'.length]) hq
 . exact wpAny_pyIter_tupleiter hp hq
theorem map_get {α β : Type} {f : α -> β} {zs : List α} {i : Nat} {x : β} (h : (zs.map f)[i]? = some x) : ∃ z, zs[i]? = some z /\ x = f z := by
 rw [List.getElem?_map] at h
 obtain ⟨z, h1, h2⟩ := Option.map_eq_some_iff.mp h
 exact ⟨z, h1, h2.symm⟩
theorem compv_map {α : Type} {l : Addr} {zs : List α} (f g : α -> V) {L : List V} (hL : zs.map g = L) (hok : scopeOk scope x = true) (hcl : closOf c.env.cells scope.names [] = some cl) (hz : zs.length <= sizeLine) (hl : st l = some (.lst (zs.map f)))
 (turn : ∀ z ys D C, z ∈ zs -> st D = none -> EV o (compCx c scope cl C) ((capt c scope cl loc).set x (f z)) (st.set D (.lst ys)) elt (fun y st' => y = g z /\ st' = st.set D (.lst ys)) (fun _ _ => False))
 (fin : ∀ D, st D = none -> Q (.ptr D) (st.set D (.lst L))) : COMPV o c loc st (.ptr l) elt iter x px scope pos cl Q := by
 subst hL
 refine compv_lst (fun i vs st' => st' = st /\ vs = (zs.take i).map g) hok hcl (by rw [List.length_map]; exact hz) (fun i ys st' hj => hj.1 ▸ hl) ⟨rfl, rfl⟩ (fun i v ys st' D C hx hj hD => ?_) (fun ys st' D hj _ hD => ?_)
 . obtain ⟨z, hz, rfl⟩ := map_get hx
   obtain ⟨rfl, rfl⟩ := hj
   exact (turn z _ D C (List.mem_of_getElem? hz) hD).mono (fun y st'' q => ⟨_, q.2, hD, rfl, by rw [List.take_add_one, hz, List.map_append, q.1]; rfl⟩) fun _ _ q => q
 . obtain ⟨rfl, rfl⟩ := hj
   rw [List.length_map, List.take_length]
   exact fin D hD
end
section
variable {o : Wo} [W : WoOk o] {c : Cx} {k : Kx} {loc : LocF} {st : St} {Q : V -> St -> Prop} {X : Exc -> St -> Prop} {QF : Fl -> LocF -> St -> Prop}
noncomputable def chV (c : Nat) : V := .str ⟨#[c]⟩
theorem sub_str {x : Str} {i : Int} {n : Nat} (hr : -(2 ^ 63) <= i /\ i < 2 ^ 63) (hc : (seqIndex? i x.length).bind (x.cps[·]?) = some n) (h : Q (chV n) st) : SUB o k st (.str x) (.int i) Q X := fun s va vi S ra ri => by
 cases ra; cases ri
 exact ⟨"str", _, typeIs_str _ _ _, PySem.F.slot_str_getitem.lookup, PySem.P.getItem_str (by simp; (first | lia | omega)) hc ⟨_, st, .str _ _, Step.toks S.hs _, h⟩⟩
theorem call_chr {i : Int} (h0 : 0 <= i) (h1 : i <= 1114111) (h : Q (chV i.toNat) st) : CALL o k st (.builtin "chr") [.int i] Q X := fun s vs S r => by
 cases r.inv1 with
 | mk r1 =>
 cases r1
 exact PySem.P.chr_of_int (by simp; (first | lia | omega)) ⟨_, st, .str _ _, Step.toks S.hs _, h⟩
theorem call_ord {n : Nat} (h : Q (.int n) st) : CALL o k st (.builtin "ord") [chV n] Q X := fun s vs S r => by
 cases r.inv1 with
 | mk r1 =>
 cases r1
 exact PySem.P.ord_of_char ⟨_, st, .int _ _, Step.toks S.hs _, h⟩
theorem forv_str {x : Str} {target : Expr} {body : List Stmt} (J : Nat -> LocF -> St -> Prop) (h0 : J 0 loc st) (turn : Turn o c target body (x.cps.toList.map chV) J QF) (fin : ∀ loc st, J x.cps.size loc st -> QF .next loc st) :
 FORV o c loc st (.str x) target body QF := fun s va E' R' I r hr => by
 cases r with
 | str _ t =>
 have len : (x.cps.toList.map chV).length = x.cps.size := by simp
 have get : ∀ {i : Nat} {v : V}, (x.cps.toList.map chV)[i]? = some v -> ∃ n, x.cps[i]? = some n /\ v = chV n := fun {i v} e => by
  rw [List.getElem?_map] at e
  cases q : x.cps.toList[i]? with
  | none => rw [q] at e; cases e
  | some n => rw [q] at e; exact ⟨n, by simpa using q, (Option.some.inj e).symm⟩
 have main : ∀ (ty : String) (hT : ["enumerate", "zip", "dict_itemiterator", "dict_reverseitemiterator", "odict_iterator", "itertools.zip_longest", "itertools.pairwise"].contains ty = false) (hTf : ty ≠ "frame") (hTr : ty ≠ "range")
  (item : ∀ {E : Value -> Shared -> Prop} {s : Shared} {it : Addr} {i n : Nat} {Q : Option Value -> Shared -> Prop}, s.heap.IsStrIter it ty x t i -> x.cps[i]? = some n -> (∀ h', h'.IsStrIter it ty x t (i + 1) -> Heap.SameBut it s.heap h' -> Q (some (.str ⟨#[n]⟩ s.toks)) { s with heap := h', toks := s.toks + 1 }) -> wpAny o.M c.k.A (pyNext (.ref it)) Q E s)
  (done : ∀ {E : Value -> Shared -> Prop} {s : Shared} {it : Addr} {i : Nat} {Q : Option Value -> Shared -> Prop}, c.k.A.handled = none -> s.heap.IsStrIter it ty x t i -> x.cps[i]? = none -> (∀ h', Heap.ExtBut it s.heap h' -> Q none { s with heap := h' }) -> wpAny o.M c.k.A (pyNext (.ref it)) Q E s),
  codeAny o.M c.k.A (.forLoop target (.ref s.heap.objs.size) body [] c.env) R' { s with heap := s.heap.push { cls := .type ty, data := .fields #[.str x t, .int 0 0] } } := fun ty hT hTf hTr item done => by
  have S : Step o.P (own c) st s st { s with heap := s.heap.push { cls := .type ty, data := .fields #[.str x t, .int 0 0] } } := Step.push I.si.hs _ s.toks
  refine for_core (T := ty) (xs := x.cps.toList.map chV) (P := fun i h => h.IsStrIter s.heap.objs.size ty x t i) (R := fun _ => True) (J := J) (Heap.get?_none_of_le (Nat.le_refl _)) I.si S ?_
   (fun i h h' ⟨ob, p1, p2⟩ e => ⟨ob, e.trans p1, p2⟩) (fun i h ⟨ob, p1, p2, p3⟩ => ⟨_, _, p1, p2, p3⟩) hT hTf hTr (fun _ _ _ => trivial) ?_ ?_ ⟨_, Heap.get?_push_size _ rfl, rfl, rfl⟩ trivial h0 turn (by rw [len]; exact fin) hr rfl
  . exact I.step (Step.push I.si.hs _ s.toks)
  . intro i v loc' st' s' Q' hx hj S' _ hp hq
    obtain ⟨n, hn, rfl⟩ := get hx
    exact item hp hn fun h' hit hsb => hq h' _ _ hit hsb (.str _ _)
  . intro loc' st' s' Q' hj S' _ hp hq
    rw [len] at hp
    exact done S'.ok.handled hp (by simp) hq
 cases ha : x.cps.all (· < 128) with
 | true => exact wpAny_pyIter_ascii ha (main "str_ascii_iterator" (by decide) (by decide) (by decide) (fun a b c => wpAny_pyNext_ascii_item a b c) (fun a b c d => wpAny_pyNext_ascii_end a b c d))
 | false => exact wpAny_pyIter_wide ha (main "str_iterator" (by decide) (by decide) (by decide) (fun a b c => wpAny_pyNext_wide_item a b c) (fun a b c d => wpAny_pyNext_wide_end a b c d))
theorem meth_join {x : Str} : METH o k st (.str x) "join" (.builtin "str.join") := fun s va pl S r => by
 cases r
 exact PySem.GM.join ⟨rfl, s.toks, rfl⟩
theorem carried_ch {h : Heap} : ∀ {cs : List Nat} {ys : List Value}, VRs h (cs.map chV) ys -> CarriedAll ys (cs.map fun n => PyData.str ⟨#[n]⟩)
 | [], _, .nil => .nil
 | n :: cs, _, .cons r1 r2 => by
  cases r1
  exact .cons (.str _ _) (carried_ch r2)
theorem join_ch : ∀ cs : List Nat, Str.join "" (cs.map fun n => (⟨#[n]⟩ : Str)) = ⟨cs.toArray⟩
 | [] => by rfl
 | [n] => rfl
 | n :: m :: r => by
  have ih := join_ch (m :: r)
  show (⟨#[n]⟩ : Str) ++ Str.ofString "" ++ Str.join "" ((m :: r).map fun n => (⟨#[n]⟩ : Str)) = _
  rw [ih]
  show (⟨#[n] ++ (Str.ofString "").cps ++ (m :: r).toArray⟩ : Str) = _
  rw [Str.ofString_eq_toList]
  simp
theorem call_join {l : Addr} {cs : List Nat} (hl : st l = some (.lst (cs.map chV))) (hz : cs.length <= 1048576) (h : Q (.str ⟨cs.toArray⟩) st) : CALL o k st (.builtin "str.join") [.str "", .ptr l] Q X := fun s vs S r => by
 cases r.inv2 with
 | mk r1 r2 =>
 cases r1; cases r2
 obtain ⟨ws, n, e1, rr⟩ := lst_of (S.hs l _ hl)
 refine KT.join_1 (l := cs) (g := fun n => (⟨#[n]⟩ : Str)) ⟨_, e1, rfl, _, rfl⟩ (carried_ch rr) (fun _ _ => rfl) hz fun t' kk _ => ?_
 have e : PySem.Txt.join "" (cs.map fun n => (⟨#[n]⟩ : Str)) = ⟨cs.toArray⟩ := by
  show Builtin.Str.glued _ _ = _
  rw [StrLaws.glued_eq_join]; exact join_ch cs
 rw [e]
 exact ⟨_, st, .str _ _, Step.toks S.hs _, h⟩
theorem opb_mul_lst {l : Addr} {xs : List V} {x : Int} (hl : st l = some (.lst xs)) (h0 : -(2 ^ 62) <= x) (h1 : x < 2 ^ 62) (hz : xs.length * x.toNat <= 2 ^ 24) (h : ∀ a, st a = none -> Q (.ptr a) (st.set a (.lst (List.replicate x.toNat xs).flatten))) : OPB o k st .Mult (.ptr l) (.int x) Q X := fun s va vb S ra rb => by
 cases rb with
 | int _ u =>
 cases ra
 obtain ⟨ws, n, e1, rr⟩ := lst_of (S.hs l _ hl)
 have hlen := rr.length
 have hsz : ws.toArray.size * x.toNat <= 2 ^ 24 := by rw [List.size_toArray, <- hlen]; exact hz
 refine wpAny_binaryOp_repeat_ref (T := "list") (U := "int") (by decide) ⟨_, e1, rfl⟩ (fun s' => typeIs_int s' x u) noFill_list_mul PySem.F.fills_int_mul PySem.F.slot_int_rmul repeat_list PySem.F.slot_int_index.lookup
  (call_meets PySem.F.slot_int_rmul (typeIs_int s x u) PySem.F.entry_int_rmul (PySem.F.args_int_rmul_2 _ _) (int___rmul___int_list x u l ws.toArray n)
   ⟨e1, rfl, ⟨_, e1, rfl⟩, call_meets PySem.F.slot_list_mul ⟨_, e1, rfl⟩ PySem.F.entry_list_mul (PySem.F.args_list_mul_2 _ _)
    (AutoListH.list___mul___list_int_3 l ws.toArray n x u (by simp [Builtin.List.listFitsIndex]; (first | lia | omega)) (by (first | lia | omega)) (by simp [Builtin.List.listTooLong, sizeLine]; simp at hsz; (first | lia | omega)))
    ⟨e1, ?_⟩⟩)
 have e2 : List.foldl (fun x1 x2 => x1 ++ x2) #[] (List.replicate (if ws.toArray.isEmpty = true then 0 else x.toNat) ws.toArray) = ((List.replicate x.toNat ws).flatten).toArray := by
  cases ws with
  | nil => simp
  | cons w r =>
   rw [if_neg (by simp)]
   have := foldl_repl (w :: r) x.toNat []
   simpa using this
 rw [e2]
 exact ⟨.ptr _, _, .ptr _, Step.alloc S.hs _ (.lst (List.replicate x.toNat xs).flatten) rfl (.lst (rr.repl x.toNat)) s.toks, h _ (size_none S.hs)⟩
end
end NN
end
section
open PySem PySem.W PyProof.Rows PySem.Calls Builtin Builtin.ObjectAttr
set_option maxRecDepth 100000
set_option linter.all false
namespace NN
section
variable {o : Wo} [W : WoOk o] {c : Cx} {k : Kx} {loc : LocF} {st : St} {Q : V -> St -> Prop} {X : Exc -> St -> Prop} {QF : Fl -> LocF -> St -> Prop}
theorem call_isi_tup {xs : List V} (h : Q (.bool false) st) : CALL o k st (.builtin "isinstance") [.tup xs, .raw (.type "str")] Q X := fun s vs S r => by
 cases r.inv2 with
 | mk r1 r2 =>
 cases r2
 cases r1 with
 | tup ht rr => exact IsiPair.tuple_str ht rfl ⟨_, st, .bool _, Step.toks S.hs _, h⟩
section
variable {prog : Program} {w : World} {A : Around} {E : Value -> Shared -> Prop} {s : Shared}
theorem sliceApplied_ab {sl : Addr} {a b n : Nat} {u u' : Tok} {Q : Int × Int × Nat -> Shared -> Prop} (hs : s.heap.IsSliceOf sl (.int a u) (.int b u') .none) (ha : a <= b) (hb : b <= n) (h : Q ((a : Int), 1, b - a) s) :
 wpAny (model prog w) A (Builtin.Slice.sliceApplied (.ref sl) (pure (n : Int))) Q E s := by
 obtain ⟨os, hos, hcs, hds⟩ := id hs
 unfold Builtin.Slice.sliceApplied Builtin.Slice.sliceFields
 refine wpAny_bind (wpAny_bind (wpAny_field hos hds (x := .int a u) rfl (wpAny_bind (wpAny_field hos hds (x := .int b u') rfl (wpAny_bind (wpAny_field hos hds (x := .none) rfl (wpAny_pure ?_)))))))
 refine wpAny_bind (slicePart_none ?_)
 show wpAny _ _ (if ((1 : Int) == 0) = true then _ else _) _ _ s
 rw [if_neg (by decide)]
 refine wpAny_bind (slicePart_int (wpAny_bind (slicePart_int (wpAny_bind (wpAny_pure ?_)))))
 show wpAny _ _ (match Builtin.Slice.sliceAdjust (some (a : Int)) (some (b : Int)) 1 (n : Int) with | (lo, hi) => pure (lo, (1 : Int), Builtin.Slice.slicePlaces lo hi 1)) _ _ s
 have e : Builtin.Slice.sliceAdjust (some (a : Int)) (some (b : Int)) 1 (n : Int) = ((a : Int), (b : Int)) := by
  unfold Builtin.Slice.sliceAdjust
  have h1 : ¬ ((1 : Int) < 0) := by (first | lia | omega)
  have h2 : ¬ ((a : Int) < 0) := by (first | lia | omega)
  have h3 : ¬ ((b : Int) < 0) := by (first | lia | omega)
  simp only [h1, h2, h3, if_false]
  congr 1 <;> (first | lia | omega)
 rw [e]
 show wpAny _ _ (pure ((a : Int), (1 : Int), Builtin.Slice.slicePlaces (a : Int) (b : Int) 1)) _ _ s
 have e2 : Builtin.Slice.slicePlaces (a : Int) (b : Int) 1 = b - a := by
  unfold Builtin.Slice.slicePlaces
  have h1 : (1 : Int) > 0 := by (first | lia | omega)
  simp only [h1, if_true, Int.ediv_one]
  split <;> (first | lia | omega)
 rw [e2]
 exact wpAny_pure h
theorem pick_ab (xs : Array Value) (a m : Nat) : ((List.range m).filterMap fun (k : Nat) => xs[((a : Int) + (k : Int) * 1).toNat]?).toArray = ((xs.toList.drop a).take m).toArray := by
 have e : (fun (k : Nat) => xs[((a : Int) + (k : Int) * 1).toNat]?) = fun k => xs[a + k]? := by
  funext k
  have : ((a : Int) + (k : Int) * 1).toNat = a + k := by (first | lia | omega)
  rw [this]
 rw [e]
 have := pick_run xs a m
 rw [List.filterMap_map] at this
 have e2 : ((fun x => xs[x]?) ∘ fun x => a + x) = fun k => xs[a + k]? := rfl
 rw [e2] at this
 rw [this]
theorem getItem_tuple_ab {t sl : Addr} {items : Array Value} {a b : Nat} {u u' : Tok} {Q : Value -> Shared -> Prop} (ht : IsTup s.heap t items) (hs : s.heap.IsSliceOf sl (.int a u) (.int b u') .none) (hab : a <= b) (hb : b < items.size)
 (h : Q (.ref s.heap.objs.size) { s with heap := s.heap.push { cls := .type "tuple", data := .seq ((items.toList.drop a).take (b - a)).toArray } })
 (hsz : items.size <= sizeLine) : wpAny (model prog w) A (getItem (.ref t) (.ref sl)) Q E s := by
 have hdrop : sizeOk (.seq ((items.toList.drop a).take (b - a)).toArray) := by
  show ((items.toList.drop a).take (b - a)).toArray.size <= sizeLine
  rw [List.size_toArray, List.length_take, List.length_drop, Array.length_toList]
  (first | lia | omega)
 obtain ⟨os, hos, hcs, hds⟩ := id hs
 have hTs : s.TypeIs (.ref sl) "slice" := ⟨os, hos, hcs⟩
 unfold getItem
 try with_reducible refine wpAny_holding ?_
 first | refine wpAny_bind (wpAny_pure ?_) | skip
 refine wpAny_bind (wpAny_sequenceKey ht.typeIs (by decide) ?_)
 refine wpAny_bind (wpAny_callSpecial?_slot (name := Str.ofString "__getitem__") ht.typeIs slot_tuple_getitem
  (wpAny_call_entry slot_tuple_getitem ht.typeIs entry_tuple_getitem ?_ (args_tuple_getitem _ _)))
 show wpAny _ _ (Builtin.Tuple.tupleItemsOf (.ref t) >>= _) _ _ s
 refine wpAny_bind (tupleItemsOf_ ht ?_)
 refine wpAny_bind (wpAny_typeOf hTs ?_)
 rw [if_pos (by decide)]
 refine wpAny_bind (sliceApplied_ab hs hab (Nat.le_of_lt hb) ?_)
 have hno : ¬ (((a : Int) == 0 && (1 : Int) == 1 && (b - a) == items.size) = true) := by
  have : ((b - a) == items.size) = false := by rw [beq_eq_false_iff_ne]; (first | lia | omega)
  rw [this]; simp
 show wpAny _ _ (if ((a : Int) == 0 && (1 : Int) == 1 && (b - a) == items.size) = true then _ else _) _ _ s
 rw [if_neg hno, pick_ab items a (b - a)]
 first
  | exact wpAny_bind (m := Builtin.Tuple.tupleExact _) (wpAny_newObj_type (wpAny_pure ⟨_, rfl, wpAny_pure h⟩) hdrop)
  | exact wpAny_bind (m := Builtin.Tuple.tupleExact _) (wpAny_newObj_type (wpAny_bind (wpAny_pure (wpAny_pure ⟨_, rfl, wpAny_pure h⟩))) hdrop)
  | exact wpAny_bind (wpAny_bind (m := Builtin.Tuple.tupleExact _) (wpAny_newObj_type (wpAny_pure (wpAny_pure ⟨_, rfl, wpAny_pure h⟩)) hdrop))
  | exact wpAny_bind (wpAny_bind (m := Builtin.Tuple.tupleExact _) (wpAny_newObj_type (wpAny_pure ⟨_, rfl, wpAny_pure h⟩) hdrop))
end
theorem slv_tup_ab {xs : List V} {a b : Nat} (hab : a <= b) (hb : b < xs.length) (hz : xs.length <= sizeLine) (h : Q (.tup ((xs.drop a).take (b - a))) st) : SLV o k st (.tup xs) (some (a : Int)) (some (b : Int)) Q X := fun s va sl vl vu S ra hs pl pu => by
 cases pu
 cases pl
 cases ra with
 | tup ht rr =>
 rename_i ws b' n
 have hlen := rr.length
 have tt : IsTup s.heap b' ws.toArray := ⟨_, ht, rfl, _, rfl⟩
 refine ⟨"tuple", _, tt.typeIs, slot_tuple_getitem.lookup, getItem_tuple_ab tt hs hab (by rw [List.size_toArray, <- hlen]; exact hb) ?_ (by rw [List.size_toArray, <- hlen]; exact hz)⟩
 exact ⟨.tup _, st, .tup (IsT.new _ _) (by simpa using ((rr.drop a).take (b - a)).keep S.hs (Kp.push _)), Step.push S.hs _ s.toks, h⟩
theorem suite_C {A : Around} {E : Value -> Shared -> Prop} {st₂ : St} {s₄ : Shared} {h0 : Heap} {y : Exc} {e : Addr} {x attr nm : Str} {np ap rp mp cp : Pos} {kd : Str} {Q : Flow -> Shared -> Prop} (I₄ : Inv o c (loc.set x (.ptr e)) st₂ s₄) (fly₄ : Flying o.P none st₂ h0 s₄.heap y e)
 (hget : getOkX o.K y.C attr = true) (hv : sget attr y.at' = some (.str kd)) (hxd : (x == ("__debug__" : Str)) = false) (hnd : (nm == ("__debug__" : Str)) = false) (hnx : nm ≠ x) (hn : loc nm = some (.str kd)) (hq : ∀ t, Q (.ret (.bool true)) { s₄ with toks := t }) :
 wpAny o.M A (execs [.Return (some (.Compare (.Attribute (.Name x np) attr ap) [.Eq] [.Name nm mp] cp)) rp] c.env) Q E s₄ := by
 refine wpAny_execs_cons (wpAny_Return_some ?_)
 refine wpAny_Compare1 ?_ rfl
 rw [arm_eval_Attribute]
 refine wpAny_bind (wpAny_Name (load_R I₄ (v := .ptr e) (LocF.set_same _ _ _) fun u ru => ?_) hxd)
 cases ru
 obtain ⟨dx4, oe4, vs4, a04, es4, n4, d1, d2, d3, d4, d5, d6, d7, d8⟩ := id fly₄
 obtain ⟨w, hw, rw'⟩ := d7.get hv
 have Ie : InstAt s₄.heap e oe4 y.C (some (dictOf es4 n4)) := ⟨d1, d2, notCls_fields d4, by rw [d3]; exact d6⟩
 refine wpAny_bind (wpAny_standAt (wpAny_bind (wpAny_holding (getX I₄.si.wd.k Ie hget hw (rw'.handed rfl) ?_))))
 refine wpAny_bind (wpAny_letTemporaryGo (wpAny_pure ?_))
 cases rw'
 have go : ∀ t t', wpAny o.M A (eval (.Name nm mp) c.env) (fun vb s₂ => wpAny o.M A (compareOp .Eq (.str kd t') vb) (fun v s₃ => Q (.ret v) s₃) E s₂) E { s₄ with toks := t } := fun t t' => by
  have I₅ : Inv o c (loc.set x (.ptr e)) st₂ { s₄ with toks := t } := I₄.stepF (Step.toks I₄.si.hs t) I₄.lc
  refine wpAny_Name (load_R I₅ (v := .str kd) ((LocF.set_ne _ _ hnx).trans hn) fun u ru => ?_) hnd
  cases ru
  refine eq_str ?_
  rw [beq_self_eq_true]
  exact hq t
 exact go _ _
theorem ex_try_cmp {t e : Expr} {asp : Pos} {T x nm attr : Str} {tp np ap mp cp rp hp pos : Pos} {CT : Addr} {fs' : List Env} (hfs : c.k.fs = c.env :: fs') (hfr : c.env.frame = some c.env.locals)
 (hTk : c.env.kindOf T = some .globalImplicit) (hTg : o.mg T = some (.ref CT)) (hTd : (T == ("__debug__" : Str)) = false) (hTn : instIn o.K (.ref CT) (.type "tuple") = some false) (hTm : makesXIn o.K CT = true)
 (hx : c.env.kindOf x = some .local) (hxd : (x == ("__debug__" : Str)) = false) (hnd : (nm == ("__debug__" : Str)) = false) (hnx : nm ≠ x)
 (hs : ∀ env, swapsWith e (some t) asp.line env = pure false) (hw : ∀ env, swappedStores [t] e env = pure none) (hev : ∀ env, (assignEach [t] env).map (·.2) = [assign t env])
 (h : EV o c loc st e (fun v st₁ => ASG o c loc st₁ t v (fun loc₂ st₂ => QF .next loc₂ st₂) (fun _ _ => False))
  (fun y st' => subIn o.K (.ref y.C) (.ref CT) = some true /\ getOkX o.K y.C attr = true /\ ∃ kd, sget attr y.at' = some (.str kd) /\ loc nm = some (.str kd) /\ QF (.ret (.bool true)) LocF.nil st')) :
 EX o c loc st (.Try [.Assign [t] e asp] [.ExceptHandler (some (.Name T tp)) (some x) [.Return (some (.Compare (.Attribute (.Name x np) attr ap) [.Eq] [.Name nm mp] cp)) rp] hp] [] [] pos) QF X := fun s I => by
 have body : wpAny o.M c.k.A (execs [.Assign [t] e asp] c.env) (PF o c st s QF) (PXg o (own c) (LocR c.env loc) (some c.env.locals) st s
  (fun y st' => subIn o.K (.ref y.C) (.ref CT) = some true /\ getOkX o.K y.C attr = true /\ ∃ kd, sget attr y.at' = some (.str kd) /\ loc nm = some (.str kd) /\ QF (.ret (.bool true)) LocF.nil st')) s := by
  have pxl : ∀ {α : Type} {s' : Shared} {m : Sem α} {Qa : α -> Shared -> Prop} {X : Exc -> St -> Prop}, wpAny o.M c.k.A m Qa (PX o noF st s X) s' -> wpAny o.M c.k.A m Qa (PXg o (own c) (LocR c.env loc) (some c.env.locals) st s X) s' := fun h =>
   wpAny_mono h (fun _ _ p => p) fun _ _ ⟨y, st', e, a, b, S, _, d⟩ => ⟨y, st', e, a, b.weak, S.weak, (I.step S).lc, d⟩
  refine wpAny_execs_cons (wpAny_Assign_stores (pxl (h.use I fun v st₁ va s₁ q S I₁ r => ?_)) (hs _) (hw _))
  rw [hev]
  have S' := S.weak (F := own c)
  show wpAny o.M c.k.A (assign t c.env va) _ _ s₁
  refine wpAny_mono (q s₁ va I₁ r) (fun _ s₂ ⟨loc₂, st₂, S₂, L, q₂⟩ => ?_) fun _ _ ⟨_, _, _, _, _, _, _, q⟩ => q.elim
  exact wpAny_execs_nil ⟨_, loc₂, st₂, .next, S'.trans S₂, L, q₂⟩
 refine wpAny_Try_except (wpAny_mono body (fun f s₁ p => ?_) fun ev s₁ p => ?_)
 . obtain ⟨fl, loc', st', fr, S, L, q⟩ := p
   cases fr with
   | next => exact wpAny_execs_nil ⟨_, _, _, .next, S, L, q⟩
   | brk => exact ⟨_, _, _, .brk, S, L, q⟩
   | cont => exact ⟨_, _, _, .cont, S, L, q⟩
   | ret r => exact ⟨_, _, _, .ret r, S, L, q⟩
 obtain ⟨y, st₂, e', rfl, fly, S, L, hsub, hget, kd, hv, hln, hQ⟩ := p
 have I₁ := I.stepF S L
 have sf : storable c.env x = true := by unfold storable; rw [hx]; rfl
 have hAd : ∀ a, o.ad a -> (s.heap.get? a).isSome = true := fun a ha => In.ex I.si.wd ha
 have hOw : ∀ a, own c a -> (s.heap.get? a).isSome = true := fun a ha => by obtain ⟨ob, T, h1, _⟩ := I.ow.ex a ha; rw [h1]; rfl
 have hfr' : c.k.A.frames = some (c.env :: fs') := by rw [<- hfs]; exact I.si.ok.fr
 refine note_core hfr' hfr (by rw [<- hfs]; exact I₁.si.fs) I₁.si.hs (fun b hb => S.mono b hb) fly (fun L' e => by cases e; rfl) fun h₂ fly₂ F2 => ?_
 have S2 : Step o.P (own c) st s st₂ { s₁ with heap := h₂ } := S.absorbF F2 fun a ha => .inr ha.1
 have I₂ := I₁.stepN hAd F2
 obtain ⟨s₂, hs2⟩ : ∃ s₂ : Shared, s₂ = { s₁ with heap := h₂ } := ⟨_, rfl⟩
 rw [<- hs2] at I₂ S2 ⊢
 replace fly₂ : Flying o.P none st₂ s.heap s₂.heap y e' := by rw [hs2]; exact fly₂
 obtain ⟨dx, oe, vs, a0, es, n, b1, b2, b3, b4, b5, b6, b7, b8⟩ := id fly₂
 refine wpAny_handleBy_cons ?_ (by intro q; cases q)
 refine codeAny_of_tree ?_
 show wpAny _ _ (do return Fin.done (<- (handleWith _ _ [.ExceptHandler (some (.Name T tp)) none [] hp]).onRaise (fun x => do noteFrame x c.env; theTreesLotGoes x))) _ _ _
 refine wpAny_bind (wpAny_noted ?_)
 unfold handleWith
 refine wpAny_bind (wpAny_standAt (wpAny_bind ?_))
 refine Name_function_global I.cx.kind hTk (loadGlobal_global (by rw [I.cx.glob]; exact I₂.si.wd.g) hTg ?_) hTd
 refine wpAny_bind (wpAny_standAt (wpAny_bind (matches_R I₂.si.wd.k b1 b2 hTn hTm hsub ?_)))
 refine wpAny_pure (wpAny_pure ?_)
 refine codeAny_of_tree ?_
 show wpAny _ _ (do return Fin.done (<- (handleWith _ _ [.ExceptHandler none (some x) [.Return (some (.Compare (.Attribute (.Name x np) attr ap) [.Eq] [.Name nm mp] cp)) rp] hp]).onRaise (fun x => do noteFrame x c.env; theTreesLotGoes x))) _ _ _
 refine wpAny_bind (wpAny_noted ?_)
 unfold handleWith
 refine wpAny_bind (wpAny_standAt (wpAny_bind (flight_R none I₂.si.hs fly₂ fun h₃ fly₃ F3 => ?_)))
 have S3 : Step o.P (own c) st s st₂ { s₂ with heap := h₃ } := S2.absorbF F3 fun a ha => .inr ha.1
 have I₃ := I₂.stepN hAd F3
 refine wpAny_bind (wpAny_bindName (storeName_R I₃ (.ptr e') sf fun h₄ t₄ S₄ L₄ => ?_))
 have I₄ := I₃.stepF S₄ L₄
 have fly₄ := fly₃.stepO I₃ hOw S₄
 have S04 := S3.trans S₄
 refine wpAny_bind (wpAny_attempt (suite_C I₄ fly₄ hget hv hxd hnd hnx hln fun t => ?_))
 refine wpAny_pure (wpAny_pure ?_)
 dsimp only
 have S₅ := Step.toks (F := own c) I₄.si.hs t
 have I₅ := I₄.stepF S₅ I₄.lc
 refine wpAny_bind (wpAny_bindName (storeName_R I₅ .none sf fun h₆ t₆ S₆ L₆ => ?_))
 have I₆ := I₅.stepF S₆ L₆
 refine unbind_R I₆ hx (v := .none) (LocF.set_same _ _ _) fun h₇ t₇ S₇ L₇ => ?_
 exact ⟨.ret (.bool true), LocF.nil, st₂, .ret (.bool true), ((S04.trans S₅).trans S₆).trans S₇, L₇.nil, hQ⟩
end
end NN
end
section
open PySem PySem.W PyProof.Rows PySem.Calls
set_option maxRecDepth 100000
set_option linter.all false
set_option maxHeartbeats 4000000
namespace NN
inductive GO : Prop where
 | go
noncomputable def noSwap : Expr -> Bool
 | .ListComp .. => false
 | .SetComp .. => false
 | .DictComp .. => false
 | _ => true
theorem noSwap_ok {e : Expr} (h : noSwap e = true) (t : Option Expr) (n : Nat) (env : Env) : swapsWith e t n env = pure false := by
 cases e <;> first | rfl | cases h
noncomputable def noPair : Expr -> Expr -> Bool
 | .Tuple .., .Tuple .. => false
 | .List .., _ => false
 | .Starred .., _ => false
 | _, _ => true
theorem noPair_ok {t e : Expr} (h : noPair t e = true) (env : Env) : swappedStores [t] e env = pure none := by
 cases t <;> first | rfl | cases h | (cases e <;> first | rfl | cases h)
theorem noPair_each {t e : Expr} (h : noPair t e = true) (env : Env) : (assignEach [t] env).map (·.2) = [assign t env] := by
 cases t <;> first | rfl | (cases e <;> cases h)
noncomputable def baseOk : Expr -> Bool
 | .Call .. => false
 | _ => true
theorem baseOk_ok {e : Expr} (h : baseOk e = true) (name : Str) (env : Env) (w : Sem Value) : attributeBase e name env w = w := by
 cases e <;> first | rfl | cases h
noncomputable def methE (e : Expr) (args : List Expr) (apos pos : Pos) : Bool := baseOk e && (args.all plainE && (Nat.ble args.length 28 && (apos.endLine == pos.line)))
theorem none_any {α : Type} : ∀ {l : List (Bool × α)}, l.any (·.1) = false -> l.all (!·.1) = true
 | [], _ => rfl
 | x :: l, h => by
  rw [List.any_cons, Bool.or_eq_false_iff] at h
  rw [List.all_cons, h.1, none_any h.2]; rfl
theorem meth_form {e : Expr} {name : Str} {apos pos : Pos} {args : List Expr} (h : methE e args apos pos = true) (env : Env) : ∃ pl, eval (.Call (.Attribute e name apos) args [] pos) env = (do
 let ov <- eval e env
 standAt apos.atName
 let (f, first) <- holding [ov] (getMethod ov name pl)
 callWith pos f first (backTo pos (starEach args env)) (backToKw pos (keywordEach [] env))) := by
 unfold methE at h
 simp only [Bool.and_eq_true] at h
 obtain ⟨h1, h2, h3, h4⟩ := h
 have e1 : eval (.Call (.Attribute e name apos) args [] pos) env = (do
  let ov <- attributeBase e name env (eval e env)
  standAt apos.atName
  methodCall e name apos pos env ov (args.length + 0) (backTo pos (starEach args env)) (backToKw pos (keywordEach [] env))) := rfl
 have e2 : methodCallForm (args.length + 0) (backTo pos (starEach args env)) (backToKw pos (keywordEach [] env)) = true := by
  have hb := backTo_plain (env := env) (pos := pos) h2
  have h3 := Nat.le_of_ble_eq_true h3
  unfold methodCallForm
  rw [Bool.and_eq_true, Bool.and_eq_true]
  refine ⟨⟨?_, rfl⟩, by simp [keywordEach, backToKw]; (first | lia | omega)⟩
  exact none_any hb
 rw [baseOk_ok h1] at e1
 refine ⟨(do return (<- importBound e env).getD true), ?_⟩
 rw [e1]
 unfold methodCall
 rw [e2]
 unfold calleeOf methodCallPos
 simp only [h4, if_true, Bool.not_true, Bool.false_or, pure_bind]
noncomputable def trVal : Expr -> Bool
 | .Name .. => true
 | .Call .. => true
 | .Attribute .. => true
 | .Subscript .. => true
 | .Constant .. => true
 | .BinOp .. => true
 | _ => false
theorem trVal_ok {e : Expr} (h : trVal e = true) (env : Env) (whole : Sem Value) : isTrue e env whole = (do let v <- whole; standAt e.pos; holding [v] (truthy v)) := by
 cases e <;> first | rfl | cases h
section
variable {o : Wo} [W : WoOk o] {c : Cx} {k : Kx} {loc : LocF} {st : St} {X : Exc -> St -> Prop}
theorem EVs.mono {e : List Expr} {pos : Pos} {Q Q' : List V -> St -> Prop} (h : EVs o c loc st pos e Q X) (q : ∀ v s, Q v s -> Q' v s) : EVs o c loc st pos e Q' X := fun s I =>
 wpAny_mono (h s I) (fun _ _ ⟨r, st', a, b, d⟩ => ⟨r, st', a, b, q _ _ d⟩) fun _ _ p => p
theorem TR.mono {e : Expr} {Q Q' : Bool -> St -> Prop} (h : TR o c loc st e Q X) (q : ∀ v s, Q v s -> Q' v s) : TR o c loc st e Q' X := fun s I =>
 wpAny_mono (h s I) (fun _ _ ⟨st', b, d⟩ => ⟨st', b, q _ _ d⟩) fun _ _ p => p
theorem EX.mono {e : Stmt} {Q Q' : Fl -> LocF -> St -> Prop} (h : EX o c loc st e Q X) (q : ∀ f l s, Q f l s -> Q' f l s) : EX o c loc st e Q' X := fun s I =>
 wpAny_mono (h s I) (fun _ _ ⟨f, l, st', a, b, d, p⟩ => ⟨f, l, st', a, b, d, q _ _ _ p⟩) fun _ _ p => p
theorem EXS.mono {e : List Stmt} {Q Q' : Fl -> LocF -> St -> Prop} (h : EXS o c loc st e Q X) (q : ∀ f l s, Q f l s -> Q' f l s) : EXS o c loc st e Q' X := fun s I =>
 wpAny_mono (h s I) (fun _ _ ⟨f, l, st', a, b, d, p⟩ => ⟨f, l, st', a, b, d, q _ _ _ p⟩) fun _ _ p => p
theorem ASG.mono {t : Expr} {v : V} {Q Q' : LocF -> St -> Prop} (h : ASG o c loc st t v Q X) (q : ∀ l s, Q l s -> Q' l s) : ASG o c loc st t v Q' X := fun s u I r =>
 wpAny_mono (h s u I r) (fun _ _ ⟨l, st', a, b, d⟩ => ⟨l, st', a, b, q _ _ d⟩) fun _ _ p => p
theorem PT.mono {e : Option Expr} {Q Q' : Option Int -> St -> Prop} (h : PT o c loc st e Q X) (q : ∀ v s, Q v s -> Q' v s) : PT o c loc st e Q' X := fun s I =>
 wpAny_mono (h s I) (fun _ _ ⟨r, st', a, b, d⟩ => ⟨r, st', a, b, q _ _ d⟩) fun _ _ p => p
end
section
variable {o : Wo} {k : Kx} {st : St} {X : Exc -> St -> Prop}
theorem trv_mono {a : V} {Q Q' : Bool -> St -> Prop} (h : TRV o k st a Q X) (q : ∀ v s, Q v s -> Q' v s) : TRV o k st a Q' X := fun s va I r =>
 wpAny_mono (h s va I r) (fun _ _ ⟨st', b, d⟩ => ⟨st', b, q _ _ d⟩) fun _ _ p => p
theorem cmp_mono {op : CmpOp} {a b : V} {Q Q' : V -> St -> Prop} (h : CMP o k st op a b Q X) (q : ∀ v s, Q v s -> Q' v s) : CMP o k st op a b Q' X := fun s va vb I r r' =>
 wpAny_mono (h s va vb I r r') (fun _ _ ⟨r, st', a, b, d⟩ => ⟨r, st', a, b, q _ _ d⟩) fun _ _ p => p
end
noncomputable def nthV : List V -> Nat -> Option V
 | [], _ => none
 | x :: _, 0 => some x
 | _ :: xs, n + 1 => nthV xs n
theorem nthV_get : ∀ {xs : List V} {n : Nat} {x : V}, nthV xs n = some x -> xs[n]? = some x
 | x :: _, 0, _, h => by cases h; rfl
 | _ :: xs, n + 1, _, h => by rw [List.getElem?_cons_succ]; exact nthV_get (xs := xs) (by exact h)
section
variable (o : Wo) (k : Kx) (X : Exc -> St -> Prop)
noncomputable def wB (op : Operator) (a b : V) (Q : V -> St -> Prop) (st : St) : Prop :=
 match op with
 | .Add => match a, b with
  | .int i, .int j => Q (.int (i + j)) st
  | a, b => GO -> OPB o k st .Add a b Q X
 | .Sub => match a, b with
  | .int i, .int j => Q (.int (i - j)) st
  | a, b => GO -> OPB o k st .Sub a b Q X
 | op => GO -> OPB o k st op a b Q X
noncomputable def wI (op : Operator) (a b : V) (Q : V -> St -> Prop) (st : St) : Prop :=
 match op with
 | .Add => match a, b with
  | .int i, .int j => Q (.int (i + j)) st
  | a, b => GO -> OPI o k st .Add a b Q X
 | .Sub => match a, b with
  | .int i, .int j => Q (.int (i - j)) st
  | a, b => GO -> OPI o k st .Sub a b Q X
 | op => GO -> OPI o k st op a b Q X
noncomputable def wC (op : CmpOp) (a b : V) (Q : V -> St -> Prop) (st : St) : Prop :=
 match op with
 | .Lt => match a, b with
  | .int i, .int j => Q (.bool (decide (i < j))) st
  | a, b => GO -> CMP o k st .Lt a b Q X
 | .LtE => match a, b with
  | .int i, .int j => Q (.bool (decide (i <= j))) st
  | a, b => GO -> CMP o k st .LtE a b Q X
 | .Gt => match a, b with
  | .int i, .int j => Q (.bool (decide (j < i))) st
  | a, b => GO -> CMP o k st .Gt a b Q X
 | .GtE => match a, b with
  | .int i, .int j => Q (.bool (decide (j <= i))) st
  | a, b => GO -> CMP o k st .GtE a b Q X
 | .Eq => match b with
  | .int j => (match a with
   | .int i => Q (.bool (i == j)) st
   | a => GO -> CMP o k st .Eq a (.int j) Q X)
  | .str y => (match a with
   | .str x => Q (.bool (x == y)) st
   | a => GO -> CMP o k st .Eq a (.str y) Q X)
  | b => GO -> CMP o k st .Eq a b Q X
 | .NotEq => match b with
  | .int j => (match a with
   | .int i => Q (.bool (i != j)) st
   | a => GO -> CMP o k st .NotEq a (.int j) Q X)
  | .str y => (match a with
   | .str x => Q (.bool (x != y)) st
   | a => GO -> CMP o k st .NotEq a (.str y) Q X)
  | b => GO -> CMP o k st .NotEq a b Q X
 | .Is => match b with
  | .none => Q (.bool a.isNone) st
  | b => GO -> CMP o k st .Is a b Q X
 | .IsNot => match b with
  | .none => Q (.bool (!a.isNone)) st
  | b => GO -> CMP o k st .IsNot a b Q X
 | op => GO -> CMP o k st op a b Q X
noncomputable def wV (a : V) (Q : Bool -> St -> Prop) (st : St) : Prop :=
 match a with
 | .bool b => Q b st
 | .int i => Q (i != 0) st
 | .none => Q false st
 | a => GO -> TRV o k st a Q X
noncomputable abbrev kInv (Q : V -> St -> Prop) : Bool -> St -> Prop := fun b => Q (.bool (!b))
noncomputable def wU (op : UnaryOp) (a : V) (Q : V -> St -> Prop) (st : St) : Prop :=
 match op with
 | .Not => wV o k X a (kInv Q) st
 | .USub => (match a with
  | .int i => Q (.int (-i)) st
  | a => GO -> OPU o k st .USub a Q X)
 | op => GO -> OPU o k st op a Q X
noncomputable def wSb (i : Int) (a : V) (Q : V -> St -> Prop) (st : St) : Prop :=
 match a with
 | .tup xs => (match i with
  | .ofNat n => (match nthV xs n with
   | some x => (match Nat.ble n 1000000 with
    | true => Q x st
    | false => GO -> SUB o k st (.tup xs) (.int (.ofNat n)) Q X)
   | none => GO -> SUB o k st (.tup xs) (.int (.ofNat n)) Q X)
  | i => GO -> SUB o k st (.tup xs) (.int i) Q X)
 | a => GO -> SUB o k st a (.int i) Q X
noncomputable def wSub (a i : V) (Q : V -> St -> Prop) (st : St) : Prop := GO -> SUB o k st a i Q X
noncomputable def wSet (v a i : V) (Q : St -> Prop) (st : St) : Prop := GO -> SETI o k st a i v Q X
end
noncomputable abbrev kNext (Q : Fl -> LocF -> St -> Prop) (loc : LocF) : V -> St -> Prop := fun _ => Q .next loc
noncomputable abbrev kRet (Q : Fl -> LocF -> St -> Prop) (loc : LocF) : V -> St -> Prop := fun v => Q (.ret v) loc
noncomputable abbrev k2b {β : Type} (B : V -> V -> β -> St -> Prop) (a : V) (Q : β) : V -> St -> Prop := fun b => B a b Q
noncomputable abbrev k2a {β : Type} (F : Expr -> (V -> St -> Prop) -> St -> Prop) (B : V -> V -> β -> St -> Prop) (r : Expr) (Q : β) : V -> St -> Prop := fun a => F r (k2b B a Q)
noncomputable abbrev k1 {β : Type} (B : V -> β -> St -> Prop) (Q : β) : V -> St -> Prop := fun a => B a Q
noncomputable abbrev kNot (Q : Bool -> St -> Prop) : Bool -> St -> Prop := fun b => Q (!b)
noncomputable abbrev kAnd (T : Expr -> (Bool -> St -> Prop) -> St -> Prop) (e : Expr) (Q : Bool -> St -> Prop) : Bool -> St -> Prop := fun b st => GO -> if b then T e Q st else Q false st
noncomputable abbrev kOr (T : Expr -> (Bool -> St -> Prop) -> St -> Prop) (e : Expr) (Q : Bool -> St -> Prop) : Bool -> St -> Prop := fun b st => GO -> if b then Q true st else T e Q st
noncomputable abbrev kTst (o : Wo) (k : Kx) (X : Exc -> St -> Prop) (op : CmpOp) (a b : V) (Q : Bool -> St -> Prop) : St -> Prop := wC o k X op a b (k1 (wV o k X) Q)
noncomputable abbrev kIfE (F : Expr -> (V -> St -> Prop) -> St -> Prop) (a b : Expr) (Q : V -> St -> Prop) : Bool -> St -> Prop := fun r st => GO -> if r then F a Q st else F b Q st
noncomputable abbrev kIf (S : List Stmt -> (Fl -> LocF -> St -> Prop) -> LocF -> St -> Prop) (a b : List Stmt) (Q : Fl -> LocF -> St -> Prop) (loc : LocF) : Bool -> St -> Prop := fun r st => GO -> if r then S a Q loc st else S b Q loc st
noncomputable abbrev kA2 (F : Expr -> (V -> St -> Prop) -> St -> Prop) (y : Expr) (Q : V -> St -> Prop) (a : V) : Bool -> St -> Prop := fun b st => GO -> if b then F y Q st else Q a st
noncomputable abbrev kO2 (F : Expr -> (V -> St -> Prop) -> St -> Prop) (y : Expr) (Q : V -> St -> Prop) (a : V) : Bool -> St -> Prop := fun b st => GO -> if b then Q a st else F y Q st
noncomputable abbrev kBo (o : Wo) (k : Kx) (X : Exc -> St -> Prop) (K : V -> Bool -> St -> Prop) : V -> St -> Prop := fun a => wV o k X a (K a)
noncomputable abbrev kTup (Q : V -> St -> Prop) : List V -> St -> Prop := fun vs => Q (.tup vs)
noncomputable abbrev kLst (Q : V -> St -> Prop) : List V -> St -> Prop := fun vs st => ∀ a, st a = none -> Q (.ptr a) (st.set a (.lst vs))
noncomputable abbrev kCons (v : V) (Q : List V -> St -> Prop) : List V -> St -> Prop := fun vs => Q (v :: vs)
noncomputable abbrev kEs (W : (List V -> St -> Prop) -> St -> Prop) (Q : List V -> St -> Prop) : V -> St -> Prop := fun v => W (kCons v Q)
noncomputable def wEs (F : Expr -> (V -> St -> Prop) -> St -> Prop) : List Expr -> (List V -> St -> Prop) -> St -> Prop
 | [], Q => Q []
 | e :: es, Q => F e (kEs (wEs F es) Q)
noncomputable abbrev kPt (Q : Option Int -> St -> Prop) : V -> St -> Prop := fun v st => match v with
 | .int i => Q (some i) st
 | v => GO -> ∃ n, v = .int n /\ Q (some n) st
noncomputable def wPt (F : Expr -> (V -> St -> Prop) -> St -> Prop) (e : Option Expr) (Q : Option Int -> St -> Prop) (st : St) : Prop :=
 match e with
 | none => Q none st
 | some e => F e (kPt Q) st
noncomputable abbrev kS2 (o : Wo) (k : Kx) (X : Exc -> St -> Prop) (a : V) (l : Option Int) (Q : V -> St -> Prop) : Option Int -> St -> Prop := fun h st => GO -> SLV o k st a l h Q X
noncomputable abbrev kS1 (o : Wo) (k : Kx) (X : Exc -> St -> Prop) (F : Expr -> (V -> St -> Prop) -> St -> Prop) (hi : Option Expr) (Q : V -> St -> Prop) (a : V) : Option Int -> St -> Prop := fun l => wPt F hi (kS2 o k X a l Q)
noncomputable abbrev kS0 (o : Wo) (k : Kx) (X : Exc -> St -> Prop) (F : Expr -> (V -> St -> Prop) -> St -> Prop) (lo hi : Option Expr) (Q : V -> St -> Prop) : V -> St -> Prop := fun a => wPt F lo (kS1 o k X F hi Q a)
noncomputable abbrev kAtt (o : Wo) (k : Kx) (X : Exc -> St -> Prop) (name : Str) (Q : V -> St -> Prop) : V -> St -> Prop := fun a st => GO -> ATT o k st a name Q X
noncomputable abbrev kSeA (o : Wo) (k : Kx) (X : Exc -> St -> Prop) (name : Str) (v : V) (Q : St -> Prop) : V -> St -> Prop := fun a st => GO -> SETA o k st a name v Q X
noncomputable abbrev kCall (o : Wo) (k : Kx) (X : Exc -> St -> Prop) (f : Value) (Q : V -> St -> Prop) : List V -> St -> Prop := fun vs st => GO -> CALL o k st f vs Q X
noncomputable abbrev kCalM (o : Wo) (k : Kx) (X : Exc -> St -> Prop) (f : Value) (a : V) (Q : V -> St -> Prop) : List V -> St -> Prop := fun vs st => GO -> CALL o k st f (a :: vs) Q X
inductive MeP (o : Wo) (k : Kx) (st : St) (a : V) (name : Str) (F : Value -> Prop) : Prop
 | mk (f : Value) (m : METH o k st a name f) (kp : keepB o.K f = true) (r : F f)
noncomputable abbrev kMe (o : Wo) (k : Kx) (X : Exc -> St -> Prop) (F : Expr -> (V -> St -> Prop) -> St -> Prop) (name : Str) (args : List Expr) (Q : V -> St -> Prop) : V -> St -> Prop := fun a st => GO -> MeP o k st a name fun f => wEs F args (kCalM o k X f a Q) st
noncomputable abbrev kSto (x : Str) (loc : LocF) (Q : LocF -> St -> Prop) : V -> St -> Prop := fun r => Q (loc.set x r)
noncomputable abbrev kSeq (F : LocF -> St -> Prop) (Q : Fl -> LocF -> St -> Prop) : Fl -> LocF -> St -> Prop := fun f loc st => match f with
 | .next => F loc st
 | f => Q f loc st
noncomputable abbrev kExs (o : Wo) (c : Cx) (X : Exc -> St -> Prop) (es : List Stmt) (Q : Fl -> LocF -> St -> Prop) : LocF -> St -> Prop := fun loc st => EXS o c loc st es Q X
section
variable {o : Wo} [W : WoOk o] {k : Kx} {st : St} {X : Exc -> St -> Prop}
theorem wB_ok {op : Operator} {a b : V} {Q : V -> St -> Prop} (h : wB o k X op a b Q st) : OPB o k st op a b Q X := by
 unfold wB at h
 split at h
 . split at h
   . exact opb_add h
   . exact h .go
 . split at h
   . exact opb_sub h
   . exact h .go
 . exact h .go
theorem wI_ok {op : Operator} {a b : V} {Q : V -> St -> Prop} (h : wI o k X op a b Q st) : OPI o k st op a b Q X := by
 unfold wI at h
 split at h
 . split at h
   . exact opi_add h
   . exact h .go
 . split at h
   . exact opi_sub h
   . exact h .go
 . exact h .go
theorem wC_ok {op : CmpOp} {a b : V} {Q : V -> St -> Prop} (h : wC o k X op a b Q st) : CMP o k st op a b Q X := by
 unfold wC at h
 split at h
 . split at h
   . exact cmp_lt h
   . exact h .go
 . split at h
   . exact cmp_le h
   . exact h .go
 . split at h
   . exact cmp_gt h
   . exact h .go
 . split at h
   . exact cmp_ge h
   . exact h .go
 . split at h
   . split at h
     . exact cmp_eq_int h
     . exact h .go
   . split at h
     . exact cmp_eq_str h
     . exact h .go
   . exact h .go
 . split at h
   . split at h
     . exact cmp_ne_int h
     . exact h .go
   . split at h
     . exact cmp_ne_str h
     . exact h .go
   . exact h .go
 . split at h
   . exact cmp_is_none h
   . exact h .go
 . split at h
   . exact cmp_isnot_none h
   . exact h .go
 . exact h .go
theorem wV_ok {a : V} {Q : Bool -> St -> Prop} (h : wV o k X a Q st) : TRV o k st a Q X := by
 unfold wV at h
 split at h
 . exact trv_bool h
 . exact trv_int h
 . exact trv_none h
 . exact h .go
theorem wU_ok {op : UnaryOp} {a : V} {Q : V -> St -> Prop} (h : wU o k X op a Q st) : OPU o k st op a Q X := by
 unfold wU at h
 split at h
 . exact opu_not (wV_ok h)
 . split at h
   . exact opu_neg h
   . exact h .go
 . exact h .go
theorem wSb_ok {a : V} {i : Int} {Q : V -> St -> Prop} (h : wSb o k X i a Q st) : SUB o k st a (.int i) Q X := by
 unfold wSb at h
 split at h
 . split at h
   . split at h
     . rename_i n _ x hx
       split at h
       . rename_i hb
         have hn := Nat.le_of_ble_eq_true hb
         have hg := nthV_get hx
         have hl : n < _ := (List.getElem?_eq_some_iff.mp hg).1
         refine sub_tup (j := n) ?_ ?_ ?_ hg h
         . show -2 ^ 63 <= (n : Int); (first | lia | omega)
         . show (n : Int) < 2 ^ 63; (first | lia | omega)
         . show seqIndex? (n : Int) _ = some n
           unfold seqIndex?
           simp; (first | lia | omega)
       . exact h .go
     . exact h .go
   . exact h .go
 . exact h .go
end
structure Gt (o : Wo) (g : Str -> Option Value) (kb : Value -> Bool) : Prop where
 nm : ∀ {x v}, g x = some v -> ∀ {c : Cx} {loc : LocF} {st : St} {pos : Pos} {Q : V -> St -> Prop} {X : Exc -> St -> Prop}, c.env.kindOf x = some .globalImplicit -> Q (.raw v) st -> EV o c loc st (.Name x pos) Q X
 kp : ∀ {v}, kb v = true -> keepB o.K v = true
noncomputable def glob? : Option NameKind -> Bool
 | some .globalImplicit => true
 | _ => false
theorem glob_ok {k : Option NameKind} (h : glob? k = true) : k = some .globalImplicit := by
 unfold glob? at h; split at h
 . rfl
 . cases h
section
variable (g : Str -> Option Value) (kb : Value -> Bool) (o : Wo) (c : Cx) (X : Exc -> St -> Prop)
noncomputable def wK (loc : LocF) (k : Const) (n : Nat) (p : Pos) (Q : V -> St -> Prop) (st : St) : Prop :=
 match k with
 | .int i => Q (.int i) st
 | .str x => Q (.str x) st
 | .bool b => Q (.bool b) st
 | .none => Q .none st
 | k => GO -> EV o c loc st (.Constant k n p) Q X
noncomputable def wN (loc : LocF) (x : Str) (p : Pos) (Q : V -> St -> Prop) (st : St) : Prop :=
 match loc x with
 | some v => (match x == ("__debug__" : Str) with
  | false => Q v st
  | true => GO -> EV o c loc st (.Name x p) Q X)
 | none => (match glob? (c.env.kindOf x) with
  | true => (match g x with
   | some v => Q (.raw v) st
   | none => GO -> EV o c loc st (.Name x p) Q X)
  | false => GO -> EV o c loc st (.Name x p) Q X)
mutual
noncomputable def wE (n : Nat) (loc : LocF) (e : Expr) (Q : V -> St -> Prop) (st : St) : Prop :=
 match n with
 | 0 => GO -> EV o c loc st e Q X
 | n + 1 => match e with
  | .Constant k i p => wK o c X loc k i p Q st
  | .Name x p => wN g o c X loc x p Q st
  | .BinOp l op r _ => wE n loc l (k2a (wE n loc) (wB o c.k X op) r Q) st
  | .UnaryOp op x _ => wE n loc x (k1 (wU o c.k X op) Q) st
  | .Compare l ops rs p => (match ops, rs with
   | [op], [r] => (match behindInMarks op r with
    | false => wE n loc l (k2a (wE n loc) (wC o c.k X op) r Q) st
    | true => GO -> EV o c loc st (.Compare l [op] [r] p) Q X)
   | ops, rs => GO -> EV o c loc st (.Compare l ops rs p) Q X)
  | .IfExp t a b _ => wT n loc t (kIfE (wE n loc) a b Q) st
  | .BoolOp op es p => (match es with
   | [x, y] => (match op with
    | .And => wE n loc x (kBo o c.k X (kA2 (wE n loc) y Q)) st
    | .Or => wE n loc x (kBo o c.k X (kO2 (wE n loc) y Q)) st)
   | es => GO -> EV o c loc st (.BoolOp op es p) Q X)
  | .Tuple es i p => (match Nat.ble es.length 1000 && es.all plainE with
   | true => wEs (wE n loc) es (kTup Q) st
   | false => GO -> EV o c loc st (.Tuple es i p) Q X)
  | .List es p => (match Nat.ble es.length 1000 && es.all plainE with
   | true => wEs (wE n loc) es (kLst Q) st
   | false => GO -> EV o c loc st (.List es p) Q X)
  | .Dict ks vs p => (match ks with
   | [] => (match vs with
    | [] => ∀ a, st a = none -> Q (.ptr a) (st.set a (.sd []))
    | vs => GO -> EV o c loc st (.Dict [] vs p) Q X)
   | ks => GO -> EV o c loc st (.Dict ks vs p) Q X)
  | .Subscript v s p => (match s with
   | .Slice lo hi stp p2 => (match stp with
    | none => wE n loc v (kS0 o c.k X (wE n loc) lo hi Q) st
    | some z => GO -> EV o c loc st (.Subscript v (.Slice lo hi (some z) p2) p) Q X)
   | .Constant k i p2 => (match k with
    | .int i => wE n loc v (k1 (wSb o c.k X i) Q) st
    | k => wE n loc v (k2a (wE n loc) (wSub o c.k X) (.Constant k i p2) Q) st)
   | s => wE n loc v (k2a (wE n loc) (wSub o c.k X) s Q) st)
  | .Attribute e name p => (match baseOk e with
   | true => wE n loc e (kAtt o c.k X name Q) st
   | false => GO -> EV o c loc st (.Attribute e name p) Q X)
  | .Call f args kws p => (match kws with
   | [] => (match args.all plainE with
    | true => (match f with
     | .Name x np => (match loc x with
      | none => (match glob? (c.env.kindOf x) with
       | true => (match g x with
        | some f => (match kb f with
         | true => wEs (wE n loc) args (kCall o c.k X f Q) st
         | false => GO -> EV o c loc st (.Call (.Name x np) args [] p) Q X)
        | none => GO -> EV o c loc st (.Call (.Name x np) args [] p) Q X)
       | false => GO -> EV o c loc st (.Call (.Name x np) args [] p) Q X)
      | some _ => GO -> EV o c loc st (.Call (.Name x np) args [] p) Q X)
     | .Attribute e name ap => (match methE e args ap p with
      | true => wE n loc e (kMe o c.k X (wE n loc) name args Q) st
      | false => GO -> EV o c loc st (.Call (.Attribute e name ap) args [] p) Q X)
     | f => GO -> EV o c loc st (.Call f args [] p) Q X)
    | false => GO -> EV o c loc st (.Call f args [] p) Q X)
   | kws => GO -> EV o c loc st (.Call f args kws p) Q X)
  | e => GO -> EV o c loc st e Q X
 termination_by structural n
noncomputable def wT (n : Nat) (loc : LocF) (e : Expr) (Q : Bool -> St -> Prop) (st : St) : Prop :=
 match n with
 | 0 => GO -> TR o c loc st e Q X
 | n + 1 => match e with
  | .Compare l ops rs p => (match ops, rs with
   | [op], [r] => (match behindInMarks op r with
    | false => wE n loc l (k2a (wE n loc) (kTst o c.k X op) r Q) st
    | true => GO -> TR o c loc st (.Compare l [op] [r] p) Q X)
   | ops, rs => GO -> TR o c loc st (.Compare l ops rs p) Q X)
  | .UnaryOp op x p => (match op with
   | .Not => wT n loc x (kNot Q) st
   | op => GO -> TR o c loc st (.UnaryOp op x p) Q X)
  | .BoolOp op es p => (match op with
   | .And => (match es with
    | [] => Q true st
    | x :: rest => (match rest with
     | [] => wT n loc x Q st
     | y :: rest => wT n loc x (kAnd (wT n loc) (.BoolOp .And (y :: rest) p) Q) st))
   | .Or => (match es with
    | [] => Q false st
    | x :: rest => (match rest with
     | [] => wT n loc x Q st
     | y :: rest => wT n loc x (kOr (wT n loc) (.BoolOp .Or (y :: rest) p) Q) st)))
  | e => (match trVal e with
   | true => wE n loc e (k1 (wV o c.k X) Q) st
   | false => GO -> TR o c loc st e Q X)
 termination_by structural n
end
noncomputable def wAs (l : LocF) (ts : List Expr) (vs : List V) : Option LocF :=
 match ts with
 | [] => (match vs with
  | [] => some l
  | _ => none)
 | t :: ts => (match vs with
  | [] => none
  | v :: vs => (match t with
   | .Name x _ => (match storable c.env x with
    | true => wAs (l.set x v) ts vs
    | false => none)
   | _ => none))
noncomputable def wA (n : Nat) (loc : LocF) (t : Expr) (v : V) (Q : LocF -> St -> Prop) (st : St) : Prop :=
 match t with
 | .Name x p => (match storable c.env x with
  | true => Q (loc.set x v) st
  | false => GO -> ASG o c loc st (.Name x p) v Q X)
 | .Tuple ts i p => (match v with
  | .tup vs => (match wAs c loc ts vs with
   | some l => Q l st
   | none => GO -> ASG o c loc st (.Tuple ts i p) (.tup vs) Q X)
  | v => GO -> ASG o c loc st (.Tuple ts i p) v Q X)
 | .Attribute e name _ => wE g kb o c X n loc e (kSeA o c.k X name v (Q loc)) st
 | .Subscript e i p => (match i with
  | .Slice lo hi stp p2 => GO -> ASG o c loc st (.Subscript e (.Slice lo hi stp p2) p) v Q X
  | i => wE g kb o c X n loc e (k2a (wE g kb o c X n loc) (wSet o c.k X v) i (Q loc)) st)
 | t => GO -> ASG o c loc st t v Q X
noncomputable def bigS : Stmt -> Bool
 | .For .. => true
 | .While .. => true
 | .Try .. => true
 | _ => false
mutual
noncomputable def wX (n : Nat) (s : Stmt) (Q : Fl -> LocF -> St -> Prop) (loc : LocF) (st : St) : Prop :=
 match n with
 | 0 => GO -> EX o c loc st s Q X
 | n + 1 => match s with
  | .Return e p => (match e with
   | some e => wE g kb o c X n loc e (kRet Q loc) st
   | none => Q (.ret .none) loc st)
  | .If t a b _ => wT g kb o c X n loc t (kIf (wS n 1000) a b Q loc) st
  | .Expr e p => (match noSwap e with
   | true => wE g kb o c X n loc e (kNext Q loc) st
   | false => GO -> EX o c loc st (.Expr e p) Q X)
  | .Pass _ => Q .next loc st
  | .Break _ => Q .brk loc st
  | .Continue _ => Q .cont loc st
  | .Assign ts e p => (match ts with
   | [t] => (match noSwap e && noPair t e with
    | true => wE g kb o c X n loc e (k1 (wA g kb o c X n loc t) (Q .next)) st
    | false => GO -> EX o c loc st (.Assign [t] e p) Q X)
   | ts => GO -> EX o c loc st (.Assign ts e p) Q X)
  | .AugAssign t op e p => (match t with
   | .Name x np => (match loc x with
    | some a => (match storable c.env x with
     | true => wE g kb o c X n loc e (k1 (wI o c.k X op a) (kSto x loc (Q .next))) st
     | false => GO -> EX o c loc st (.AugAssign (.Name x np) op e p) Q X)
    | none => GO -> EX o c loc st (.AugAssign (.Name x np) op e p) Q X)
   | t => GO -> EX o c loc st (.AugAssign t op e p) Q X)
  | s => GO -> EX o c loc st s Q X
 termination_by structural n
noncomputable def wS (n : Nat) (m : Nat) (es : List Stmt) (Q : Fl -> LocF -> St -> Prop) (loc : LocF) (st : St) : Prop :=
 match n with
 | 0 => EXS o c loc st es Q X
 | n + 1 => match m with
  | 0 => EXS o c loc st es Q X
  | m + 1 => (match es with
   | [] => Q .next loc st
   | s :: es => (match bigS s with
    | true => GO -> EX o c loc st s (kSeq (kExs o c X es Q) Q) X
    | false => wX n s (kSeq (wS n m es Q) Q) loc st))
 termination_by structural n
end
end
theorem mb {b : Bool} {P R C : Prop} (h : match b with | true => P | false => R) (t : b = true -> P -> C) (f : R -> C) : C := by
 cases b
 . exact f h
 . exact t rfl h
theorem mbf {b : Bool} {P R C : Prop} (h : match b with | false => P | true => R) (t : b = false -> P -> C) (f : R -> C) : C := by
 cases b
 . exact t rfl h
 . exact f h
theorem mo {a : Option V} {P : V -> Prop} {R C : Prop} (h : match a with | some v => P v | none => R) (t : ∀ v, a = some v -> P v -> C) (f : R -> C) : C := by
 cases a
 . exact f h
 . exact t _ rfl h
theorem moW {a : Option Value} {P : Value -> Prop} {R C : Prop} (h : match a with | some v => P v | none => R) (t : ∀ v, a = some v -> P v -> C) (f : R -> C) : C := by
 cases a
 . exact f h
 . exact t _ rfl h
theorem moL {a : Option LocF} {P : LocF -> Prop} {R C : Prop} (h : match a with | some v => P v | none => R) (t : ∀ v, a = some v -> P v -> C) (f : R -> C) : C := by
 cases a
 . exact f h
 . exact t _ rfl h
theorem mbo {b : Bool} {x : Option LocF} {l : LocF} (h : (match b with | true => x | false => none) = some l) : b = true /\ x = some l := by
 cases b
 . cases h
 . exact ⟨rfl, h⟩
theorem nos {l : LocF} {P : Prop} (h : none = some l) : P := nomatch h
theorem mon {a : Option V} {P : V -> Prop} {R C : Prop} (h : match a with | none => R | some v => P v) (f : R -> C) (t : ∀ v, P v -> C) : C := by
 cases a
 . exact f h
 . exact t _ h
section
variable {g : Str -> Option Value} {kb : Value -> Bool} {o : Wo} [W : WoOk o] {c : Cx} {X : Exc -> St -> Prop}
theorem wEs_ok {F : Expr -> (V -> St -> Prop) -> St -> Prop} {loc : LocF} {pos : Pos} (hF : ∀ e Q st, F e Q st -> EV o c loc st e Q X) :
 ∀ {es : List Expr} {Q : List V -> St -> Prop} {st : St}, es.all plainE = true -> wEs F es Q st -> EVs o c loc st pos es (fun vs st₁ => vs.length = es.length /\ Q vs st₁) X
 | [], _, _, _, h => evs_nil ⟨rfl, h⟩
 | e :: es, Q, st, hp, h => by
  have hp := Bool.and_eq_true_iff.mp hp
  exact evs_cons ((hF _ _ _ h).mono (fun v st₁ h => (wEs_ok hF hp.2 h).mono fun vs st₂ h => ⟨by rw [List.length_cons, List.length_cons, h.1], h.2⟩) fun _ _ h => h) hp.1
theorem wEs_ok' {F : Expr -> (V -> St -> Prop) -> St -> Prop} {loc : LocF} {pos : Pos} (hF : ∀ e Q st, F e Q st -> EV o c loc st e Q X)
 {es : List Expr} {Q : List V -> St -> Prop} {st : St} (hp : es.all plainE = true) (h : wEs F es Q st) : EVs o c loc st pos es Q X := (wEs_ok hF hp h).mono fun _ _ h => h.2
theorem wPt_ok {F : Expr -> (V -> St -> Prop) -> St -> Prop} {loc : LocF} (hF : ∀ e Q st, F e Q st -> EV o c loc st e Q X) {e : Option Expr} {Q : Option Int -> St -> Prop} {st : St} (h : wPt F e Q st) : PT o c loc st e Q X := by
 cases e with
 | none => exact pt_none h
 | some e =>
  refine pt_some ((hF _ _ _ h).mono (fun v st₁ h => ?_) fun _ _ h => h)
  cases v <;> first | exact ⟨_, rfl, h⟩ | exact h .go
theorem wK_ok {loc : LocF} {k : Const} {n : Nat} {p : Pos} {Q : V -> St -> Prop} {st : St} (h : wK o c X loc k n p Q st) : EV o c loc st (.Constant k n p) Q X := by
 cases k <;> first | exact ev_int h | exact ev_str h | exact ev_bool h | exact ev_none h | exact h .go
theorem wN_ok (G : Gt o g kb) {loc : LocF} {x : Str} {p : Pos} {Q : V -> St -> Prop} {st : St} (h : wN g o c X loc x p Q st) : EV o c loc st (.Name x p) Q X := by
 unfold wN at h
 refine mo h (fun v hv h => ?_) fun h => ?_
 . exact mbf h (fun hd h => ev_name hv hd h) fun h => h .go
 exact mb h (fun hk h => moW h (fun v hg h => G.nm hg (glob_ok hk) h) fun h => h .go) fun h => h .go
theorem small_len {es : List Expr} (h : (Nat.ble es.length 1000 && es.all plainE) = true) {vs : List V} (hl : vs.length = es.length) : vs.length <= sizeLine := by
 exact hl ▸ Nat.le_trans (Nat.le_of_ble_eq_true (Bool.and_eq_true_iff.mp h).1) (by decide)
theorem all_of {es : List Expr} (h : (Nat.ble es.length 1000 && es.all plainE) = true) : es.all plainE = true := by
 exact (Bool.and_eq_true_iff.mp h).2
noncomputable abbrev HE (g : Str -> Option Value) (kb : Value -> Bool) (o : Wo) (c : Cx) (X : Exc -> St -> Prop) (n : Nat) : Prop := ∀ loc e Q st, wE g kb o c X n loc e Q st -> EV o c loc st e Q X
noncomputable abbrev HT (g : Str -> Option Value) (kb : Value -> Bool) (o : Wo) (c : Cx) (X : Exc -> St -> Prop) (n : Nat) : Prop := ∀ loc e Q st, wT g kb o c X n loc e Q st -> TR o c loc st e Q X
theorem mE {n : Nat} (hE : HE g kb o c X n) {loc e st} {Q Q' : V -> St -> Prop} (h : wE g kb o c X n loc e Q st) (q : ∀ v s, Q v s -> Q' v s) : EV o c loc st e Q' X := (hE _ _ _ _ h).mono q fun _ _ h => h
theorem mT {n : Nat} (hT : HT g kb o c X n) {loc e st} {Q Q' : Bool -> St -> Prop} (h : wT g kb o c X n loc e Q st) (q : ∀ v s, Q v s -> Q' v s) : TR o c loc st e Q' X := (hT _ _ _ _ h).mono q
theorem call_ok (G : Gt o g kb) {n : Nat} (hE : HE g kb o c X n) {loc : LocF} {f : Expr} {args : List Expr} {kws : List Keyword} {p : Pos} {Q : V -> St -> Prop} {st : St} (h : wE g kb o c X (n + 1) loc (.Call f args kws p) Q st) : EV o c loc st (.Call f args kws p) Q X := by
 cases kws with
 | cons k kws => exact h .go
 | nil =>
 refine mb h (fun hp h => ?_) fun h => h .go
 cases f with
 | Name x np =>
  refine mon h (fun h => ?_) fun _ h => h .go
  refine mb h (fun hk h => ?_) fun h => h .go
  refine moW h (fun f hg h => ?_) fun h => h .go
  exact mb h (fun hkb h => ev_call (G.nm hg (glob_ok hk) ⟨rfl, rfl⟩) (G.kp hkb) ((wEs_ok' (hE loc) hp h).mono fun _ _ h => h .go) hp) fun h => h .go
 | Attribute e name ap =>
  refine mb h (fun hm h => ?_) fun h => h .go
  refine ev_meth (fun env => meth_form hm env) (mE hE h fun a st₁ h => ?_) hp
  obtain ⟨f, h1, h2, h3⟩ := h .go
  exact ⟨f, h1, h2, (wEs_ok' (hE loc) hp h3).mono fun _ _ h => h .go⟩
 | _ => exact h .go
theorem bo_ok {n : Nat} (hE : HE g kb o c X n) {loc : LocF} {op : BoolOp} {es : List Expr} {p : Pos} {Q : V -> St -> Prop} {st : St} (h : wE g kb o c X (n + 1) loc (.BoolOp op es p) Q st) : EV o c loc st (.BoolOp op es p) Q X := by
 match es with
 | [] => exact h .go
 | [x] => exact h .go
 | x :: y :: z :: es => exact h .go
 | [x, y] =>
 cases op with
 | And =>
  refine ev_and2 (mE hE h fun a st₁ h => trv_mono (wV_ok h) fun b st₂ h => ?_)
  have h := h .go
  cases b
  . exact h
  . exact hE _ _ _ _ h
 | Or =>
  refine ev_or2 (mE hE h fun a st₁ h => trv_mono (wV_ok h) fun b st₂ h => ?_)
  have h := h .go
  cases b
  . exact hE _ _ _ _ h
  . exact h
theorem sub_ok {n : Nat} (hE : HE g kb o c X n) {loc : LocF} {v s : Expr} {p : Pos} {Q : V -> St -> Prop} {st : St} (h : wE g kb o c X (n + 1) loc (.Subscript v s p) Q st) : EV o c loc st (.Subscript v s p) Q X := by
 cases s with
 | Slice lo hi stp p2 =>
  cases stp with
  | some z => exact h .go
  | none =>
   refine ev_slice (mE hE h fun a st₁ h => ?_)
   refine (wPt_ok (hE loc) h).mono fun l st₂ h => ?_
   exact (wPt_ok (hE loc) h).mono fun hh st₃ h => h .go
 | Constant k i p2 =>
  cases k with
  | int i => exact ev_sub (mE hE h fun a st₁ h => ev_int (wSb_ok h))
  | _ => exact ev_sub (mE hE h fun a st₁ h => mE hE h fun b st₂ h => h .go)
 | _ => exact ev_sub (mE hE h fun a st₁ h => mE hE h fun b st₂ h => h .go)
theorem e_ok (G : Gt o g kb) {n : Nat} (hE : HE g kb o c X n) (hT : HT g kb o c X n) : HE g kb o c X (n + 1) := fun loc e Q st h => by
 cases e with
 | Constant k i p => exact wK_ok h
 | Name x p => exact wN_ok G h
 | BinOp l op r p => exact ev_bin (mE hE h fun a st₁ h => mE hE h fun b st₂ h => wB_ok h)
 | UnaryOp op x p => exact ev_unary (mE hE h fun a st₁ h => wU_ok h)
 | Compare l ops rs p =>
  cases ops with
  | nil => exact h .go
  | cons op ops =>
  cases ops with
  | cons _ _ => exact h .go
  | nil =>
  cases rs with
  | nil => exact h .go
  | cons r rs =>
  cases rs with
  | cons _ _ => exact h .go
  | nil =>
  exact mbf h (fun hm h => ev_cmp (mE hE h fun a st₁ h => mE hE h fun b st₂ h => wC_ok h) hm) fun h => h .go
 | IfExp t a b p =>
  refine ev_ifexp (mT hT h fun r st₁ h => ?_)
  have h := h .go
  cases r <;> exact hE _ _ _ _ h
 | BoolOp op es p => exact bo_ok hE h
 | Tuple es i p =>
  exact mb h (fun hb h => ev_tuple ((wEs_ok (hE loc) (all_of hb) h).mono fun vs st₁ h => ⟨small_len hb h.1, h.2⟩)) fun h => h .go
 | List es p =>
  exact mb h (fun hb h => ev_list ((wEs_ok (hE loc) (all_of hb) h).mono fun vs st₁ h => ⟨small_len hb h.1, h.2⟩)) fun h => h .go
 | Dict ks vs p =>
  cases ks with
  | cons _ _ => exact h .go
  | nil =>
  cases vs with
  | cons _ _ => exact h .go
  | nil => exact ev_dict0 h
 | Subscript v s p => exact sub_ok hE h
 | Attribute e name p =>
  exact mb h (fun hb h => ev_attr (fun env => baseOk_ok hb _ _ _) (mE hE h fun a st₁ h => h .go)) fun h => h .go
 | Call f args kws p => exact call_ok G hE h
 | _ => exact h .go
theorem t_ok (G : Gt o g kb) {n : Nat} (hE : HE g kb o c X n) (hT : HT g kb o c X n) : HT g kb o c X (n + 1) := fun loc e Q st h => by
 have other : ∀ {e : Expr}, (match trVal e with | true => wE g kb o c X n loc e (k1 (wV o c.k X) Q) st | false => GO -> TR o c loc st e Q X) -> TR o c loc st e Q X := fun {e} h => mb h (fun hv h => tr_val (fun env whole => trVal_ok hv env whole) (mE hE h fun v st₁ h => wV_ok h)) fun h => h .go
 cases e with
 | Compare l ops rs p =>
  cases ops with
  | nil => exact h .go
  | cons op ops =>
  cases ops with
  | cons _ _ => exact h .go
  | nil =>
  cases rs with
  | nil => exact h .go
  | cons r rs =>
  cases rs with
  | cons _ _ => exact h .go
  | nil =>
  exact mbf h (fun hm h => tr_cmp (mE hE h fun a st₁ h => mE hE h fun b st₂ h => cmp_mono (wC_ok h) fun v st₃ h => wV_ok h) hm) fun h => h .go
 | UnaryOp op x p =>
  cases op with
  | Not => exact tr_not (hT _ _ _ _ h)
  | _ => exact h .go
 | BoolOp op es p =>
  cases op with
  | And =>
   match es with
   | [] => exact tr_and_nil h
   | [x] =>
    refine tr_and (mT hT h fun b st₁ h => ?_)
    cases b
    . exact h
    . exact tr_and_nil h
   | x :: y :: rest =>
    refine tr_and (mT hT h fun b st₁ h => ?_)
    have h := h .go
    cases b
    . exact h
    . exact hT _ _ _ _ h
  | Or =>
   match es with
   | [] => exact tr_or_nil h
   | [x] =>
    refine tr_or (mT hT h fun b st₁ h => ?_)
    cases b
    . exact tr_or_nil h
    . exact h
   | x :: y :: rest =>
    refine tr_or (mT hT h fun b st₁ h => ?_)
    have h := h .go
    cases b
    . exact hT _ _ _ _ h
    . exact h
 | _ => exact other h
theorem w_ok (G : Gt o g kb) : ∀ n, HE g kb o c X n /\ HT g kb o c X n
 | 0 => ⟨fun _ _ _ _ h => h .go, fun _ _ _ _ h => h .go⟩
 | n + 1 => ⟨e_ok G (w_ok G n).1 (w_ok G n).2, t_ok G (w_ok G n).1 (w_ok G n).2⟩
theorem wAs_ok : ∀ {ts : List Expr} {vs : List V} {loc l : LocF} {st : St} {Q : LocF -> St -> Prop}, wAs c loc ts vs = some l -> Q l st -> ts.all plainE = true /\ ts.length = vs.length /\ ASGS o c loc st ts vs Q X
 | [], [], _, _, _, _, h, q => by cases h; exact ⟨rfl, rfl, asgs_nil q⟩
 | [], _ :: _, _, _, _, _, h, _ => by cases h
 | t :: ts, [], _, _, _, _, h, _ => by cases h
 | t :: ts, v :: vs, loc, l, st, Q, h, q => by
  cases t with
  | Name x p =>
   have h := mbo h
   have a := wAs_ok h.2 q
   exact ⟨by rw [List.all_cons, a.1]; rfl, by rw [List.length_cons, List.length_cons, a.2.1], asgs_cons (asg_name h.1 a.2.2)⟩
  | _ => exact nos h
variable [SM : SmOk o]
theorem wA_ok (G : Gt o g kb) {n : Nat} {loc : LocF} {t : Expr} {v : V} {Q : LocF -> St -> Prop} {st : St} (h : wA g kb o c X n loc t v Q st) : ASG o c loc st t v Q X := by
 have hE := (w_ok (X := X) (c := c) G n).1
 cases t with
 | Name x p =>
  exact mb h (fun hs h => asg_name hs h) fun h => h .go
 | Tuple ts i p =>
  cases v with
  | tup vs =>
   refine moL h (fun l hs h => ?_) fun h => h .go
   have a := wAs_ok (o := o) (X := X) hs h
   exact asg_tuple a.1 a.2.1 a.2.2
  | _ => exact h .go
 | Attribute e name p => exact asg_attr (mE hE h fun a st₁ h => h .go)
 | Subscript e i p =>
  cases i with
  | Slice lo hi stp p2 => exact h .go
  | _ => exact asg_sub (fun l u s p e => nomatch e) (mE hE h fun a st₁ h => mE hE h fun b st₂ h => h .go)
 | _ => exact h .go
noncomputable abbrev HX (g : Str -> Option Value) (kb : Value -> Bool) (o : Wo) (c : Cx) (X : Exc -> St -> Prop) (n : Nat) : Prop := ∀ s Q loc st, wX g kb o c X n s Q loc st -> EX o c loc st s Q X
noncomputable abbrev HS (g : Str -> Option Value) (kb : Value -> Bool) (o : Wo) (c : Cx) (X : Exc -> St -> Prop) (n : Nat) : Prop := ∀ m es Q loc st, wS g kb o c X n m es Q loc st -> EXS o c loc st es Q X
theorem x_ok (G : Gt o g kb) {n : Nat} (hS : HS g kb o c X n) : HX g kb o c X (n + 1) := fun s Q loc st h => by
 have hE := (w_ok (X := X) (c := c) G n).1
 cases s with
 | Return e p =>
  cases e with
  | none => exact ex_return_none h
  | some e => exact ex_return (hE _ _ _ _ h)
 | If t a b p =>
  refine ex_if (mT (w_ok G n).2 h fun r st₁ h => ?_)
  have h := h .go
  cases r <;> exact hS _ _ _ _ _ h
 | Expr e p =>
  exact mb h (fun hn h => ex_expr (fun env => noSwap_ok hn _ _ _) (hE _ _ _ _ h)) fun h => h .go
 | Pass p => exact ex_pass h
 | Break p => exact ex_break h
 | Continue p => exact ex_continue h
 | Assign ts e p =>
  match ts with
  | [] => exact h .go
  | _ :: _ :: _ => exact h .go
  | [t] =>
  refine mb h (fun hb h => ?_) fun h => h .go
  have hb := Bool.and_eq_true_iff.mp hb
  exact ex_assign (fun env => noSwap_ok hb.1 _ _ _) (fun env => noPair_ok hb.2 _) (fun env => noPair_each hb.2 _) (mE hE h fun v st₁ h => wA_ok G h)
 | AugAssign t op e p =>
  cases t with
  | Name x np => exact mo h (fun a hx h => mb h (fun hs h => ex_aug hx hs (mE hE h fun b st₁ h => wI_ok h)) fun h => h .go) fun h => h .go
  | _ => exact h .go
 | _ => exact h .go
theorem s_ok {n : Nat} (hX : HX g kb o c X n) (hS : HS g kb o c X n) : HS g kb o c X (n + 1) := fun m es Q loc st h => by
 cases m with
 | zero => exact h
 | succ m =>
 cases es with
 | nil => exact exs_nil h
 | cons s es =>
 refine mb h (fun _ h => exs_cons (EX.mono (h .go) fun f l s h => ?_)) fun h => exs_cons ((hX _ _ _ _ h).mono fun f l s h => ?_)
 . cases f <;> exact h
 . cases f
   . exact hS _ _ _ _ _ h
   all_goals exact h
theorem wS_all (G : Gt o g kb) : ∀ n, HX g kb o c X n /\ HS g kb o c X n
 | 0 => ⟨fun _ _ _ _ h => h .go, fun _ _ _ _ _ h => h⟩
 | n + 1 => ⟨x_ok G (wS_all G n).2, s_ok (wS_all G n).1 (wS_all G n).2⟩
theorem exs_w (G : Gt o g kb) (n m : Nat) {loc : LocF} {st : St} {es : List Stmt} {Q : Fl -> LocF -> St -> Prop} (h : wS g kb o c X n m es Q loc st) : EXS o c loc st es Q X := (wS_all G n).2 _ _ _ _ _ h
theorem ev_w (G : Gt o g kb) (n : Nat) {loc : LocF} {st : St} {e : Expr} {Q : V -> St -> Prop} (h : wE g kb o c X n loc e Q st) : EV o c loc st e Q X := (w_ok G n).1 _ _ _ _ h
theorem tr_w (G : Gt o g kb) (n : Nat) {loc : LocF} {st : St} {e : Expr} {Q : Bool -> St -> Prop} (h : wT g kb o c X n loc e Q st) : TR o c loc st e Q X := (w_ok G n).2 _ _ _ _ h
theorem asg_w (G : Gt o g kb) (n : Nat) {loc : LocF} {st : St} {t : Expr} {v : V} {Q : LocF -> St -> Prop} (h : wA g kb o c X n loc t v Q st) : ASG o c loc st t v Q X := wA_ok G h
end
section
variable {o : Wo} {c : Cx} {X : Exc -> St -> Prop}
noncomputable def LocF.of : List (Str × V) -> LocF
 | [] => LocF.nil
 | (x, v) :: l => (LocF.of l).set x v
theorem LocR.less {env : Env} {loc loc' : LocF} {h : Heap} (r : LocR env loc h) (q : ∀ x v, loc' x = some v -> loc x = some v) : LocR env loc' h := by
 obtain ⟨⟨m, hm, a⟩, b, d⟩ := r
 exact ⟨⟨m, hm, fun x v h => a x v (q x v h)⟩, b, d⟩
theorem Inv.less {loc loc' : LocF} {st : St} {s : Shared} (I : Inv o c loc st s) (q : ∀ x v, loc' x = some v -> loc x = some v) : Inv o c loc' st s := { I with lc := I.lc.less q }
theorem of_less {loc : LocF} : ∀ {L : List (Str × V)}, (∀ p ∈ L, loc p.1 = some p.2) -> ∀ x v, LocF.of L x = some v -> loc x = some v
 | [], _, _, _, h => nomatch h
 | (y, u) :: L, hl, x, v, h => by
  rw [LocF.of] at h
  by_cases e : x = y
  . subst e
    rw [LocF.set_same] at h
    cases h
    exact hl _ (List.mem_cons_self ..)
  . rw [LocF.set_ne _ _ e] at h
    exact of_less (fun p hp => hl p (List.mem_cons_of_mem _ hp)) x v h
theorem exs_of (L : List (Str × V)) {loc : LocF} {st : St} {es : List Stmt} {Q : Fl -> LocF -> St -> Prop} (hl : ∀ p ∈ L, loc p.1 = some p.2) (h : EXS o c (LocF.of L) st es Q X) : EXS o c loc st es Q X := fun s I => h s (I.less (of_less hl))
theorem asg_of (L : List (Str × V)) {loc : LocF} {st : St} {t : Expr} {v : V} {Q : LocF -> St -> Prop} (hl : ∀ p ∈ L, loc p.1 = some p.2) (h : ASG o c (LocF.of L) st t v Q X) : ASG o c loc st t v Q X := fun s u I => h s u (I.less (of_less hl))
theorem tr_of (L : List (Str × V)) {loc : LocF} {st : St} {e : Expr} {Q : Bool -> St -> Prop} (hl : ∀ p ∈ L, loc p.1 = some p.2) (h : TR o c (LocF.of L) st e Q X) : TR o c loc st e Q X := fun s I => h s (I.less (of_less hl))
theorem lk_nil {loc : LocF} : ∀ p ∈ ([] : List (Str × V)), loc p.1 = some p.2 := fun _ h => nomatch h
theorem lk_cons {loc : LocF} {x : Str} {v : V} {L : List (Str × V)} (h : loc x = some v) (hL : ∀ p ∈ L, loc p.1 = some p.2) : ∀ p ∈ (x, v) :: L, loc p.1 = some p.2 := fun p hp => by
 rcases List.mem_cons.mp hp with rfl | hp
 . exact h
 . exact hL p hp
end
end NN
end
section
open PySem PySem.W PyProof.Rows PySem.Calls
set_option maxRecDepth 100000
set_option linter.all false
namespace NN
noncomputable def Codes (bs : List Int) : Prop := ∀ b ∈ bs, (0 : Int) <= b /\ b < 4
noncomputable def lowOf : List Int -> Int
 | [] => 0
 | b :: r => b % 2 + 2 * lowOf r
noncomputable def highOf : List Int -> Int
 | [] => 0
 | b :: r => b / 2 + 2 * highOf r
theorem lowOf_app : ∀ xs ys : List Int, lowOf (xs ++ ys) = lowOf xs + 2 ^ xs.length * lowOf ys
 | [], ys => by simp [lowOf]
 | x :: xs, ys => by
  rw [List.cons_append, lowOf, lowOf, lowOf_app xs ys, List.length_cons, Int.pow_succ, Int.mul_add, Int.mul_comm (2 ^ xs.length) 2, Int.mul_assoc]; (first | lia | omega)
theorem highOf_app : ∀ xs ys : List Int, highOf (xs ++ ys) = highOf xs + 2 ^ xs.length * highOf ys
 | [], ys => by simp [highOf]
 | x :: xs, ys => by
  rw [List.cons_append, highOf, highOf, highOf_app xs ys, List.length_cons, Int.pow_succ, Int.mul_add, Int.mul_comm (2 ^ xs.length) 2, Int.mul_assoc]; (first | lia | omega)
theorem lowOf_bd : ∀ xs : List Int, 0 <= lowOf xs /\ lowOf xs < 2 ^ xs.length
 | [] => by simp [lowOf]
 | x :: xs => by
  have := lowOf_bd xs
  rw [lowOf, List.length_cons, Int.pow_succ]; (first | lia | omega)
theorem Codes.tail {x : Int} {xs : List Int} (h : Codes (x :: xs)) : Codes xs := fun b hb => h b (.tail _ hb)
theorem highOf_bd : ∀ xs : List Int, Codes xs -> 0 <= highOf xs /\ highOf xs < 2 ^ xs.length
 | [], _ => by simp [highOf]
 | x :: xs, h => by
  have := highOf_bd xs h.tail
  have hx := h x (.head _)
  rw [highOf, List.length_cons, Int.pow_succ]; (first | lia | omega)
theorem Codes.app {xs ys : List Int} (h : Codes xs) (h' : Codes ys) : Codes (xs ++ ys) := fun b hb => (List.mem_append.mp hb).elim (h b) (h' b)
theorem Codes.take {xs : List Int} (h : Codes xs) (n : Nat) : Codes (xs.take n) := fun b hb => h b (List.mem_of_mem_take hb)
theorem Codes.repl {b : Int} (h : 0 <= b /\ b < 4) (n : Nat) : Codes (List.replicate n b) := fun c hc => by rw [List.eq_of_mem_replicate hc]; exact h
theorem Codes.nil : Codes [] := fun _ h => nomatch h
noncomputable def vecV (bs : List Int) : V := .tup [.int bs.length, .int (lowOf bs), .int (highOf bs)]
noncomputable def constV (bs : List Int) : V := .tup [.str "const", .int bs.length, .int (lowOf bs), .int (highOf bs)]
noncomputable def numV (bs : List Int) (sg szd : Bool) : V := .tup [.str "num", .int 0, vecV bs, .bool sg, .bool szd]
theorem or_nat (a b : Nat) : Builtin.bitOr (a : Int) (b : Int) = ((a ||| b : Nat) : Int) := by
 have n1 : ∀ x : Nat, decide (0 <= Builtin.bitNot (x : Int)) = false := fun x => by rw [decide_eq_false_iff_not]; unfold Builtin.bitNot; (first | lia | omega)
 have n2 : ∀ x : Nat, (Builtin.bitNot (Builtin.bitNot (x : Int))).toNat = x := fun x => by unfold Builtin.bitNot; (first | lia | omega)
 unfold Builtin.bitOr Builtin.bitAnd
 rw [n1, n1]
 dsimp only
 rw [n2, n2]
 unfold Builtin.bitNot; (first | lia | omega)
theorem or_join {a b : Int} {n : Nat} (ha : 0 <= a) (hb : 0 <= b) (hlt : b < 2 ^ n) : Builtin.bitOr (a * 2 ^ n) b = a * 2 ^ n + b := by
 obtain ⟨a, rfl⟩ := Int.eq_ofNat_of_zero_le ha
 obtain ⟨b, rfl⟩ := Int.eq_ofNat_of_zero_le hb
 have hlt' : b < 2 ^ n := by exact_mod_cast hlt
 have e : (a : Int) * 2 ^ n = ((a * 2 ^ n : Nat) : Int) := by push_cast; rfl
 rw [e, or_nat, <- Nat.shiftLeft_eq, <- Nat.shiftLeft_add_eq_or_of_lt hlt']
 push_cast; rfl
theorem or_comm (a b : Int) (ha : 0 <= a) (hb : 0 <= b) : Builtin.bitOr a b = Builtin.bitOr b a := by
 obtain ⟨a, rfl⟩ := Int.eq_ofNat_of_zero_le ha
 obtain ⟨b, rfl⟩ := Int.eq_ofNat_of_zero_le hb
 rw [or_nat, or_nat, Nat.or_comm]
theorem or_zero (a : Int) (ha : 0 <= a) : Builtin.bitOr a 0 = a := by
 obtain ⟨a, rfl⟩ := Int.eq_ofNat_of_zero_le ha
 have := or_nat a 0
 simpa using this
theorem zero_or (a : Int) (ha : 0 <= a) : Builtin.bitOr 0 a = a := by rw [or_comm 0 a (by decide) ha, or_zero a ha]
theorem and_zero (a : Int) : Builtin.bitAnd a 0 = 0 := by
 have := kbt_mask a 0
 simpa using this
theorem mask_sub {n w : Nat} (h : n <= w) : Builtin.bitXor (2 ^ w - 1) (2 ^ n - 1) = (2 ^ w - 2 ^ n : Int) := by
 rw [bitXor_and, kbt_mask]
 have e : ((2 : Int) ^ w - 1) % 2 ^ n = 2 ^ n - 1 := by
  obtain ⟨d, rfl⟩ := Nat.exists_eq_add_of_le h
  have h1 := kbt_pos n
  have h2 := kbt_pos d
  have : (2 : Int) ^ (n + d) - 1 = (2 ^ n - 1) + 2 ^ n * (2 ^ d - 1) := by rw [Int.pow_add, Int.mul_sub]; (first | lia | omega)
  rw [this, Int.add_mul_emod_self_left]
  exact Int.emod_eq_of_lt (by (first | lia | omega)) (by (first | lia | omega))
 rw [e]; (first | lia | omega)
theorem lowOf_split {bs : List Int} {n : Nat} (h : n <= bs.length) : lowOf bs = lowOf (bs.take n) + 2 ^ n * lowOf (bs.drop n) := by
 have := lowOf_app (bs.take n) (bs.drop n)
 rw [List.take_append_drop, List.length_take, Nat.min_eq_left h] at this
 exact this
theorem highOf_split {bs : List Int} {n : Nat} (h : n <= bs.length) : highOf bs = highOf (bs.take n) + 2 ^ n * highOf (bs.drop n) := by
 have := highOf_app (bs.take n) (bs.drop n)
 rw [List.take_append_drop, List.length_take, Nat.min_eq_left h] at this
 exact this
theorem lowOf_take {bs : List Int} {n : Nat} (h : n <= bs.length) : lowOf bs % 2 ^ n = lowOf (bs.take n) := by
 have hb := lowOf_bd (bs.take n)
 rw [List.length_take, Nat.min_eq_left h] at hb
 rw [lowOf_split h, Int.add_mul_emod_self_left]
 exact Int.emod_eq_of_lt hb.1 hb.2
theorem highOf_take {bs : List Int} (hc : Codes bs) {n : Nat} (h : n <= bs.length) : highOf bs % 2 ^ n = highOf (bs.take n) := by
 have hb := highOf_bd (bs.take n) (hc.take n)
 rw [List.length_take, Nat.min_eq_left h] at hb
 rw [highOf_split h, Int.add_mul_emod_self_left]
 exact Int.emod_eq_of_lt hb.1 hb.2
theorem lowOf_drop {bs : List Int} {n : Nat} (h : n <= bs.length) : lowOf bs / 2 ^ n = lowOf (bs.drop n) := by
 have hb := lowOf_bd (bs.take n)
 rw [List.length_take, Nat.min_eq_left h] at hb
 rw [lowOf_split h, Int.add_mul_ediv_left _ _ (by have := kbt_pos n; (first | lia | omega)), Int.ediv_eq_zero_of_lt hb.1 hb.2]; (first | lia | omega)
theorem highOf_drop {bs : List Int} (hc : Codes bs) {n : Nat} (h : n <= bs.length) : highOf bs / 2 ^ n = highOf (bs.drop n) := by
 have hb := highOf_bd (bs.take n) (hc.take n)
 rw [List.length_take, Nat.min_eq_left h] at hb
 rw [highOf_split h, Int.add_mul_ediv_left _ _ (by have := kbt_pos n; (first | lia | omega)), Int.ediv_eq_zero_of_lt hb.1 hb.2]; (first | lia | omega)
theorem lowOf_get {bs : List Int} {i : Nat} (h : i < bs.length) : lowOf bs / 2 ^ i % 2 = bs[i] % 2 := by
 rw [lowOf_drop (Nat.le_of_lt h), List.drop_eq_getElem_cons h, lowOf]; (first | lia | omega)
theorem highOf_get {bs : List Int} (hc : Codes bs) {i : Nat} (h : i < bs.length) : highOf bs / 2 ^ i % 2 = bs[i] / 2 := by
 have := hc bs[i] (List.getElem_mem ..)
 rw [highOf_drop hc (Nat.le_of_lt h), List.drop_eq_getElem_cons h, highOf]; (first | lia | omega)
theorem lowOf_repl (t : Int) : ∀ m : Nat, lowOf (List.replicate m t) = t % 2 * (2 ^ m - 1)
 | 0 => by simp [lowOf]
 | m + 1 => by
  rw [List.replicate_succ, lowOf, lowOf_repl t m, Int.pow_succ]
  rcases (by (first | lia | omega) : t % 2 = 0 \/ t % 2 = 1) with e | e <;> rw [e] <;> (first | lia | omega)
theorem highOf_repl {t : Int} (ht : 0 <= t /\ t < 4) : ∀ m : Nat, highOf (List.replicate m t) = t / 2 * (2 ^ m - 1)
 | 0 => by simp [highOf]
 | m + 1 => by
  rw [List.replicate_succ, highOf, highOf_repl ht m, Int.pow_succ]
  rcases (by (first | lia | omega) : t / 2 = 0 \/ t / 2 = 1) with e | e <;> rw [e] <;> (first | lia | omega)
noncomputable def fitB (bs : List Int) (sg : Bool) (w : Nat) : List Int := (bs ++ List.replicate w (if sg then bs.getLast?.getD 0 else 0)).take w
theorem fitB_len (bs : List Int) (sg : Bool) (w : Nat) : (fitB bs sg w).length = w := by simp [fitB]
theorem fitB_short {bs : List Int} {sg : Bool} {w : Nat} (h : w <= bs.length) : fitB bs sg w = bs.take w := by
 unfold fitB; rw [List.take_append_of_le_length h]
theorem fitB_long {bs : List Int} {sg : Bool} {w : Nat} (h : bs.length <= w) : fitB bs sg w = bs ++ List.replicate (w - bs.length) (if sg then bs.getLast?.getD 0 else 0) := by
 unfold fitB
 rw [List.take_append, List.take_of_length_le h, List.take_replicate, Nat.min_eq_left (by (first | lia | omega))]
theorem last_code {bs : List Int} (hc : Codes bs) : 0 <= bs.getLast?.getD 0 /\ bs.getLast?.getD 0 < 4 := by
 cases e : bs.getLast? with
 | none => decide
 | some b => exact hc b (List.mem_of_getLast? e)
theorem fitB_codes {bs : List Int} (hc : Codes bs) (sg : Bool) (w : Nat) : Codes (fitB bs sg w) := by
 refine (hc.app (Codes.repl ?_ w)).take w
 cases sg
 . rw [if_neg (by decide)]; (first | lia | omega)
 . rw [if_pos rfl]; exact last_code hc
noncomputable def atomIs (v : Value) (x : V) : Bool := match x with
 | .none => (match v with
  | .none => true
  | _ => false)
 | .int j => (match v with
  | .int i _ => i == j
  | _ => false)
 | .str y => (match v with
  | .str x _ => x == y
  | _ => false)
 | .bool d => (match v with
  | .bool b => b == d
  | _ => false)
 | _ => false
noncomputable def atomsAre : List Value -> List V -> Bool
 | [], [] => true
 | v :: vs, x :: xs => atomIs v x && atomsAre vs xs
 | _, _ => false
theorem atomIs_R {h : Heap} : ∀ {v : Value} {x : V}, atomIs v x = true -> VR h x v := by
 intro v x e
 unfold atomIs at e
 split at e <;> first | (split at e <;> first | exact .none | (rw [beq_iff_eq.mp e]; constructor) | cases e) | cases e
theorem atomsAre_R {h : Heap} : ∀ {vs : List Value} {xs : List V}, atomsAre vs xs = true -> VRs h xs vs
 | [], [], _ => .nil
 | v :: vs, x :: xs, e => by
  simp only [atomsAre, Bool.and_eq_true] at e
  exact .cons (atomIs_R e.1) (atomsAre_R e.2)
 | [], _ :: _, e => by cases e
 | _ :: _, [], e => by cases e
noncomputable def dfltOk (K : Frag) (d : Value) (ds : List V) : Bool := match d with
 | .none => ds.isEmpty
 | .ref T => (match K.lookup T with
  | some ⟨_, _, .seq vs _, _⟩ => atomsAre vs.toList ds
  | _ => false)
 | _ => false
noncomputable def fnChk (K : Frag) (fd : FuncData) (ns : List Str) (ds : List V) : Bool :=
 plainPar fd.params ns && decide ns.Nodup && ns.all (fun x => (fd.scope.names.lookup x == some .local || (fd.scope.names.lookup x == some .cell && !(x == ("__classdict__" : Str))))) &&
 (fd.scope.kind == .function) && !fd.scope.isGenerator && !fd.scope.isCoroutine && (fd.globals == mainGlobals) && (fd.builtins == builtinsNs) && fd.closure.isEmpty && codeIn K fd.code fd.qualname && dfltOk K fd.defaults ds && decide (ds.length <= ns.length)
theorem FnOk.of {o : Wo} {a : Addr} {fd : FuncData} {ns : List Str} {ds : List V} {body : List Stmt} (h1 : ∃ ob, o.K.lookup a = some ob /\ ob.data = .func fd) (h2 : fnChk o.K fd ns ds = true) (h3 : fd.body = .stmts body) : FnOk o a fd ns ds body := by
 unfold fnChk at h2
 simp only [Bool.and_eq_true, decide_eq_true_eq, beq_iff_eq, Bool.not_eq_true', List.isEmpty_iff, List.all_eq_true] at h2
 obtain ⟨⟨⟨⟨⟨⟨⟨⟨⟨⟨⟨a1, a2⟩, a3⟩, a4⟩, a5⟩, a6⟩, a7⟩, a8⟩, a9⟩, a10⟩, a11⟩, a12⟩ := h2
 refine ⟨h1, fun h X => codeRec_of X a10, ?_, a1, a2, fun x hx => ?_, a4, a5, a6, a7, a8, a9, h3, a12⟩
 . unfold dfltOk at a11
   split at a11
   . rename_i hd
     have : ds = [] := by simpa using a11
     subst this
     exact ⟨[], fun h => .nil, fun h _ => .inl ⟨hd, rfl⟩⟩
   . rename_i T hd
     split at a11
     . rename_i vs n _ hK
       exact ⟨vs.toList, fun h => atomsAre_R a11, fun h X => .inr ⟨T, _, n, hd, X _ _ hK, by simp⟩⟩
     . cases a11
   . cases a11
 . have := a3 x hx
   simpa using this
class W3 (o : Wo) where
 X : Frag
 k : o.K = K3 o.P ++ X
 nf : ∀ p ∈ X, p.2.cls ≠ .type "frame"
 sm : ∃ ob, X.lookup sysModules = some ob
 g : ∀ p ∈ G3, o.mg p.1 = p.2
theorem K3_noFrame (P : Params) : ((K3 P).all fun p => p.2.cls != .type "frame") = true := by rfl
theorem mem_lookup {α β : Type} [BEq α] [LawfulBEq α] : ∀ {l : List (α × β)} {a : α} {b : β}, l.lookup a = some b -> (a, b) ∈ l
 | (k, v) :: r, a, b, h => by
  rw [List.lookup_cons] at h
  cases hb : a == k with
  | true => rw [hb] at h; cases h; rw [beq_iff_eq.mp hb]; exact .head _
  | false => rw [hb] at h; exact .tail _ (mem_lookup h)
theorem woOk {o : Wo} (W : W3 o) : WoOk o := ⟨fun a ob e => by
 rw [W.k] at e
 rcases List.mem_append.mp (mem_lookup e) with q | q
 . have := List.all_eq_true.mp (K3_noFrame o.P) (a, ob) q
   simpa using this
 . exact W.nf _ q⟩
theorem K3_noSm (P : Params) : (K3 P).lookup sysModules = none := by rfl
theorem smOk {o : Wo} (W : W3 o) : SmOk o := ⟨by
 obtain ⟨ob, h⟩ := W.sm
 refine ⟨ob, ?_⟩
 rw [W.k, List.lookup_append, K3_noSm]
 exact h⟩
theorem mg3 {o : Wo} [W : W3 o] {x : Str} {v : Option Value} (h : G3.lookup x = some v) : o.mg x = v := W.g _ (mem_lookup h)
section
variable {o : Wo} [W : W3 o]
theorem ok3 {a : Addr} {fd : FuncData} {ns : List Str} {ds : List V} {body : List Stmt} (h1 : ∀ X : Frag, ((K3 o.P ++ X).lookup a).map Obj.data = some (.func fd)) (h2 : ∀ X : Frag, fnChk (K3 o.P ++ X) fd ns ds = true) (h3 : fd.body = .stmts body) : FnOk o a fd ns ds body :=
 FnOk.of (by rw [W.k]; exact Option.map_eq_some_iff.mp (h1 W.X)) (by rw [W.k]; exact h2 _) h3
theorem ok_mask : FnOk o a_mask fd_mask ["w"] [] body_mask := ok3 (fun _ => rfl) (fun _ => rfl) rfl
theorem ok_vec : FnOk o a_vec fd_vec ["w", "a", "b"] [.int 0] body_vec := ok3 (fun _ => rfl) (fun _ => rfl) rfl
theorem ok_all_x : FnOk o a_all_x fd_all_x ["w"] [] body_all_x := ok3 (fun _ => rfl) (fun _ => rfl) rfl
theorem ok_from_int : FnOk o a_from_int fd_from_int ["w", "n"] [] body_from_int := ok3 (fun _ => rfl) (fun _ => rfl) rfl
theorem ok_to_int : FnOk o a_to_int fd_to_int ["v", "signed"] [] body_to_int := ok3 (fun _ => rfl) (fun _ => rfl) rfl
theorem ok_code : FnOk o a_code fd_code ["v", "i"] [] body_code := ok3 (fun _ => rfl) (fun _ => rfl) rfl
theorem ok_put_slice : FnOk o a_put_slice fd_put_slice ["v", "lo", "part"] [] body_put_slice := ok3 (fun _ => rfl) (fun _ => rfl) rfl
theorem ok_concat : FnOk o a_concat fd_concat ["vs"] [] body_concat := ok3 (fun _ => rfl) (fun _ => rfl) rfl
theorem ok_extend : FnOk o a_extend fd_extend ["v", "w", "signed"] [] body_extend := ok3 (fun _ => rfl) (fun _ => rfl) rfl
theorem ok_evaluate : FnOk o a_evaluate fd_evaluate ["e", "ctx"] [] body_evaluate := ok3 (fun _ => rfl) (fun _ => rfl) rfl
theorem ok_children : FnOk o a_children fd_children ["e"] [] body_children := ok3 (fun _ => rfl) (fun _ => rfl) rfl
theorem ok_last_select : FnOk o a_last_select fd_last_select ["e"] [] body_last_select := ok3 (fun _ => rfl) (fun _ => rfl) rfl
theorem ok_is_memory : FnOk o a_is_memory fd_is_memory ["scope", "entry"] [] body_is_memory := ok3 (fun _ => rfl) (fun _ => rfl) rfl
theorem ok_shape : FnOk o a_shape fd_shape ["scope", "entry", "at"] [] body_shape := ok3 (fun _ => rfl) (fun _ => rfl) rfl
theorem ok_read_entry : FnOk o a_read_entry fd_read_entry ["scope", "entry", "word"] [] body_read_entry := ok3 (fun _ => rfl) (fun _ => rfl) rfl
theorem ok_folds : FnOk o a_folds fd_folds ["e"] [] body_folds := ok3 (fun _ => rfl) (fun _ => rfl) rfl
theorem ok_folded : FnOk o a_folded fd_folded ["e"] [] body_folded := ok3 (fun _ => rfl) (fun _ => rfl) rfl
theorem ok_checked_width : FnOk o a_checked_width fd_checked_width ["width", "at"] [] body_checked_width := ok3 (fun _ => rfl) (fun _ => rfl) rfl
theorem ok_text_vec : FnOk o a_text_vec fd_text_vec ["text"] [] body_text_vec := ok3 (fun _ => rfl) (fun _ => rfl) rfl
theorem ok_inner_join : FnOk o a_inner_join fd_inner_join ["e"] [] body_inner_join := ok3 (fun _ => rfl) (fun _ => rfl) rfl
theorem ok_widen : FnOk o a_widen fd_widen ["value", "w", "signed"] [] body_widen := ok3 (fun _ => rfl) (fun _ => rfl) rfl
theorem ok_number_value : FnOk o a_number_value fd_number_value ["e", "w", "signed"] [] body_number_value := ok3 (fun _ => rfl) (fun _ => rfl) rfl
theorem ok_path_names : FnOk o a_path_names fd_path_names ["scope", "e"] [] body_path_names := ok3 (fun _ => rfl) (fun _ => rfl) rfl
theorem ok_entry_of : FnOk o a_entry_of fd_entry_of ["scope", "e"] [] body_entry_of := ok3 (fun _ => rfl) (fun _ => rfl) rfl
theorem ok_named_type : FnOk o a_named_type fd_named_type ["scope", "e"] [] body_named_type := ok3 (fun _ => rfl) (fun _ => rfl) rfl
theorem ok_named_value : FnOk o a_named_value fd_named_value ["scope", "e"] [] body_named_value := ok3 (fun _ => rfl) (fun _ => rfl) rfl
theorem ok_function_of : FnOk o a_function_of fd_function_of ["scope", "e"] [] body_function_of := ok3 (fun _ => rfl) (fun _ => rfl) rfl
theorem ok_call_value : FnOk o a_call_value fd_call_value ["scope", "e"] [] body_call_value := ok3 (fun _ => rfl) (fun _ => rfl) rfl
theorem ok_joined_parts : FnOk o a_joined_parts fd_joined_parts ["scope", "e"] [] body_joined_parts := ok3 (fun _ => rfl) (fun _ => rfl) rfl
theorem ok_copies : FnOk o a_copies fd_copies ["scope", "e"] [] body_copies := ok3 (fun _ => rfl) (fun _ => rfl) rfl
theorem ok_joined_width : FnOk o a_joined_width fd_joined_width ["scope", "e"] [] body_joined_width := ok3 (fun _ => rfl) (fun _ => rfl) rfl
theorem ok_joined_value : FnOk o a_joined_value fd_joined_value ["scope", "e"] [] body_joined_value := ok3 (fun _ => rfl) (fun _ => rfl) rfl
theorem ok_expr_type : FnOk o a_expr_type fd_expr_type ["scope", "e"] [] body_expr_type := ok3 (fun _ => rfl) (fun _ => rfl) rfl
theorem ok_build : FnOk o a_build fd_build ["scope", "e", "w", "signed"] [] body_build := ok3 (fun _ => rfl) (fun _ => rfl) rfl
theorem ok_self_determined : FnOk o a_self_determined fd_self_determined ["scope", "e"] [] body_self_determined := ok3 (fun _ => rfl) (fun _ => rfl) rfl
theorem ok_sized : FnOk o a_sized fd_sized ["scope", "e", "w"] [] body_sized := ok3 (fun _ => rfl) (fun _ => rfl) rfl
theorem ok_constant_vec : FnOk o a_constant_vec fd_constant_vec ["scope", "value", "at"] [] body_constant_vec := ok3 (fun _ => rfl) (fun _ => rfl) rfl
theorem ok_constant : FnOk o a_constant fd_constant ["scope", "e"] [] body_constant := ok3 (fun _ => rfl) (fun _ => rfl) rfl
theorem ok_whole : FnOk o a_whole fd_whole ["scope", "e"] [] body_whole := ok3 (fun _ => rfl) (fun _ => rfl) rfl
theorem ok_net_kinds : FnOk o a_net_kinds fd_net_kinds [] [] body_net_kinds := ok3 (fun _ => rfl) (fun _ => rfl) rfl
theorem ok__law_row : FnOk o a__law_row fd__law_row ["script"] [] body__law_row := ok3 (fun _ => rfl) (fun _ => rfl) rfl
theorem ok__law_next : FnOk o a__law_next fd__law_next ["row"] [] body__law_next := ok3 (fun _ => rfl) (fun _ => rfl) rfl
theorem ok__law_bits : FnOk o a__law_bits fd__law_bits ["row", "wide"] [] body__law_bits := ok3 (fun _ => rfl) (fun _ => rfl) rfl
theorem ok__law_made : FnOk o a__law_made fd__law_made ["bits"] [] body__law_made := ok3 (fun _ => rfl) (fun _ => rfl) rfl
theorem ok__law_number : FnOk o a__law_number fd__law_number ["row"] [] body__law_number := ok3 (fun _ => rfl) (fun _ => rfl) rfl
theorem ok__law_small : FnOk o a__law_small fd__law_small ["figure"] [] body__law_small := ok3 (fun _ => rfl) (fun _ => rfl) rfl
theorem ok__law_joined : FnOk o a__law_joined fd__law_joined ["row"] [] body__law_joined := ok3 (fun _ => rfl) (fun _ => rfl) rfl
theorem ok__law_text : FnOk o a__law_text fd__law_text ["row"] [] body__law_text := ok3 (fun _ => rfl) (fun _ => rfl) rfl
theorem ok__law_call : FnOk o a__law_call fd__law_call ["row", "widths"] [] body__law_call := ok3 (fun _ => rfl) (fun _ => rfl) rfl
theorem ok__law_name : FnOk o a__law_name fd__law_name ["row", "bits"] [] body__law_name := ok3 (fun _ => rfl) (fun _ => rfl) rfl
theorem ok_law : FnOk o a_law fd_law ["script"] [] body_law := ok3 (fun _ => rfl) (fun _ => rfl) rfl
theorem ok_GateloomError_init : FnOk o a_GateloomError_init fd_GateloomError_init ["self", "kind", "at", "detail"] [.int (-1), .str ""] body_GateloomError_init := ok3 (fun _ => rfl) (fun _ => rfl) rfl
theorem ok_Store_init : FnOk o a_Store_init fd_Store_init ["self", "signals"] [] body_Store_init := ok3 (fun _ => rfl) (fun _ => rfl) rfl
theorem ok_Store_get : FnOk o a_Store_get fd_Store_get ["self", "key"] [] body_Store_get := ok3 (fun _ => rfl) (fun _ => rfl) rfl
theorem ok_Store_set_bits : FnOk o a_Store_set_bits fd_Store_set_bits ["self", "key", "place", "lo", "value"] [] body_Store_set_bits := ok3 (fun _ => rfl) (fun _ => rfl) rfl
theorem ok_Context_init : FnOk o a_Context_init fd_Context_init ["self", "store", "frame", "now"] [.int 0] body_Context_init := ok3 (fun _ => rfl) (fun _ => rfl) rfl
theorem ok_Signal_init : FnOk o a_Signal_init fd_Signal_init ["self", "key", "path", "kind", "width", "signed", "msb", "lsb"] [] body_Signal_init := ok3 (fun _ => rfl) (fun _ => rfl) rfl
theorem ok_Signal_is_net : FnOk o a_Signal_is_net fd_Signal_is_net ["self"] [] body_Signal_is_net := ok3 (fun _ => rfl) (fun _ => rfl) rfl
theorem ok_Signal_is_memory : FnOk o a_Signal_is_memory fd_Signal_is_memory ["self"] [] body_Signal_is_memory := ok3 (fun _ => rfl) (fun _ => rfl) rfl
theorem ok_Routine_init : FnOk o a_Routine_init fd_Routine_init ["self", "number", "path", "is_function", "automatic", "at"] [] body_Routine_init := ok3 (fun _ => rfl) (fun _ => rfl) rfl
theorem ok_Routine_inputs : FnOk o a_Routine_inputs fd_Routine_inputs ["self"] [] body_Routine_inputs := ok3 (fun _ => rfl) (fun _ => rfl) rfl
theorem ok_Design_init : FnOk o a_Design_init fd_Design_init ["self"] [] body_Design_init := ok3 (fun _ => rfl) (fun _ => rfl) rfl
theorem ok_Design_add_signal : FnOk o a_Design_add_signal fd_Design_add_signal ["self", "path", "kind", "width", "signed", "msb", "lsb", "at"] [] body_Design_add_signal := ok3 (fun _ => rfl) (fun _ => rfl) rfl
theorem ok_Design_add_scope : FnOk o a_Design_add_scope fd_Design_add_scope ["self", "path"] [] body_Design_add_scope := ok3 (fun _ => rfl) (fun _ => rfl) rfl
theorem ok_Design_add_routine : FnOk o a_Design_add_routine fd_Design_add_routine ["self", "path", "is_function", "automatic", "at"] [] body_Design_add_routine := ok3 (fun _ => rfl) (fun _ => rfl) rfl
theorem ok_Scope_init : FnOk o a_Scope_init fd_Scope_init ["self", "design", "name", "parent", "kind"] [] body_Scope_init := ok3 (fun _ => rfl) (fun _ => rfl) rfl
theorem ok_Scope_child : FnOk o a_Scope_child fd_Scope_child ["self", "name", "kind", "at"] [] body_Scope_child := ok3 (fun _ => rfl) (fun _ => rfl) rfl
theorem ok_Scope_declare : FnOk o a_Scope_declare fd_Scope_declare ["self", "name", "entry", "at"] [] body_Scope_declare := ok3 (fun _ => rfl) (fun _ => rfl) rfl
theorem ok_Scope_lookup : FnOk o a_Scope_lookup fd_Scope_lookup ["self", "name"] [] body_Scope_lookup := ok3 (fun _ => rfl) (fun _ => rfl) rfl
theorem ok_Scope_lookup_routine : FnOk o a_Scope_lookup_routine fd_Scope_lookup_routine ["self", "name"] [] body_Scope_lookup_routine := ok3 (fun _ => rfl) (fun _ => rfl) rfl
theorem ok_Scope_descend : FnOk o a_Scope_descend fd_Scope_descend ["self", "parts"] [] body_Scope_descend := ok3 (fun _ => rfl) (fun _ => rfl) rfl
theorem ok_Scope_resolve : FnOk o a_Scope_resolve fd_Scope_resolve ["self", "parts", "at"] [] body_Scope_resolve := ok3 (fun _ => rfl) (fun _ => rfl) rfl
theorem ok_Scope_answers_to : FnOk o a_Scope_answers_to fd_Scope_answers_to ["self", "name"] [] body_Scope_answers_to := ok3 (fun _ => rfl) (fun _ => rfl) rfl
end
end NN
end
section
open PySem PySem.W PyProof.Rows PySem.Calls
set_option maxRecDepth 100000
set_option linter.all false
set_option maxHeartbeats 4000000
namespace NN
theorem toNats_inj : ∀ {l r : List Char}, l.map Char.toNat = r.map Char.toNat -> l = r
 | [], [], _ => rfl
 | [], _ :: _, h => by cases h
 | _ :: _, [], h => by cases h
 | a :: l, b :: r, h => by
  rw [List.map_cons, List.map_cons, List.cons.injEq] at h
  rw [toNats_inj h.2]
  have : a = b := Char.ext (UInt32.toNat_inj.mp h.1)
  rw [this]
theorem ofString_beq (a b : String) : (Str.ofString a == Str.ofString b) = (a == b) := by
 rw [Bool.eq_iff_iff, beq_iff_eq, beq_iff_eq]
 constructor
 . intro h
   rw [Str.ofString_eq_toList, Str.ofString_eq_toList, Str.mk.injEq] at h
   have := toNats_inj (List.toArray_inj h)
   exact String.ext this
 . rintro rfl; rfl
theorem beq_f {a b : String} (h : (a == b) = false) : (Str.ofString a == Str.ofString b) = false := by rw [ofString_beq]; exact h
theorem ite_t {b : Bool} {A B : Prop} (h : b = true) (x : A) : if b then A else B := by rw [h]; exact x
theorem ite_f {b : Bool} {A B : Prop} (h : b = false) (x : B) : if b then A else B := by rw [h]; exact x
theorem ite_c {b : Bool} {A B : Prop} (x : b = true -> A) (y : b = false -> B) : if b then A else B := by cases b with | true => exact x rfl | false => exact y rfl
theorem St.le_refl (st : St) : St.le st st := fun _ => .inr rfl
theorem St.le_set {st st' : St} {a : Addr} {m : MO} (h : St.le st st') (ha : st a = none) : St.le st (st'.set a m) := fun x => by
 by_cases q : x = a
 . subst q; exact .inl ha
 . rw [St.set_ne _ _ q]; exact h x
noncomputable def b4 : List (Str × Value) := [("chr", .builtin "chr"), ("isinstance", .builtin "isinstance"), ("len", .builtin "len"), ("max", .builtin "max"), ("min", .builtin "min"), ("ord", .builtin "ord"), ("range", .type "range"), ("str", .type "str"), ("tuple", .type "tuple")]
noncomputable def g4 (x : Str) : Option Value := match G3.lookup x with
 | some (some v) => some v
 | some none => b4.lookup x
 | none => none
noncomputable def f4 : List Addr := G3.filterMap fun p => match p.2 with
 | some (.ref a) => some a
 | _ => none
noncomputable def kb4 : Value -> Bool
 | .builtin _ => true
 | .type _ => true
 | .ref a => f4.any (Nat.beq a)
 | _ => false
theorem b4_ok : ∀ p ∈ b4, bootBuiltins p.1 = some p.2 /\ p.1 ≠ "__name__" /\ (p.1 == ("__debug__" : Str)) = false := by
 unfold b4
 simp only [List.forall_mem_cons]
 refine ⟨⟨by rfl, by decide +kernel, by rfl⟩, ⟨by rfl, by decide +kernel, by rfl⟩, ⟨by rfl, by decide +kernel, by rfl⟩, ⟨by rfl, by decide +kernel, by rfl⟩, ⟨by rfl, by decide +kernel, by rfl⟩, ⟨by rfl, by decide +kernel, by rfl⟩, ⟨by rfl, by decide +kernel, by rfl⟩, ⟨by rfl, by decide +kernel, by rfl⟩, ⟨by rfl, by decide +kernel, by rfl⟩, by simp⟩
theorem G3_nd : (G3.all fun p => !(p.1 == ("__debug__" : Str))) = true := by decide +kernel
theorem f4_ok (P : Params) (X : Frag) : (f4.all fun a => keepB (K3 P ++ X) (.ref a)) = true := by rfl
theorem G4 {o : Wo} [WO : WoOk o] [W : W3 o] : Gt o g4 kb4 := by
 constructor
 . intro x v hg c loc st pos Q X hk h
   unfold g4 at hg
   split at hg
   . rename_i u hu
     cases hg
     have hd := List.all_eq_true.mp G3_nd _ (mem_lookup hu)
     exact ev_glob hk (mg3 hu) (by simpa using hd) h
   . rename_i hu
     obtain ⟨h1, h2, h3⟩ := b4_ok _ (mem_lookup hg)
     exact ev_blt hk (mg3 hu) h1 h2 h3 h
   . cases hg
 . intro v h
   rw [W.k]
   cases v with
   | ref a =>
    obtain ⟨b, hb, e⟩ := List.any_eq_true.mp (show f4.any (Nat.beq a) = true from h)
    rw [Nat.eq_of_beq_eq_true e]
    exact List.all_eq_true.mp (f4_ok _ _) b hb
   | builtin _ => rfl
   | type _ => rfl
   | _ => cases h
theorem exs_4 {o : Wo} [WO : WoOk o] [W : W3 o] (m : Nat) {c : Cx} {X : Exc -> St -> Prop} {loc : LocF} {st : St} {es : List Stmt} {Q : Fl -> LocF -> St -> Prop} (h : wS g4 kb4 o c X 200 m es Q loc st) : EXS o c loc st es Q X :=
 have : SmOk o := smOk W
 exs_w G4 200 m h
theorem ev_4 {o : Wo} [WO : WoOk o] [W : W3 o] {c : Cx} {X : Exc -> St -> Prop} {loc : LocF} {st : St} {e : Expr} {Q : V -> St -> Prop} (h : wE g4 kb4 o c X 200 loc e Q st) : EV o c loc st e Q X :=
 have : SmOk o := smOk W
 ev_w G4 200 h
theorem trq_4 {o : Wo} [WO : WoOk o] [W : W3 o] {c : Cx} {X : Exc -> St -> Prop} {loc : LocF} {st : St} {e : Expr} {Q : Bool -> St -> Prop} (h : wT g4 kb4 o c X 200 loc e Q st) : TR o c loc st e Q X :=
 have : SmOk o := smOk W
 tr_w G4 200 h
theorem asg_4 {o : Wo} [WO : WoOk o] [W : W3 o] {c : Cx} {X : Exc -> St -> Prop} {loc : LocF} {st : St} {t : Expr} {v : V} {Q : LocF -> St -> Prop} (h : wA g4 kb4 o c X 200 loc t v Q st) : ASG o c loc st t v Q X :=
 have : SmOk o := smOk W
 asg_w G4 200 h
theorem asgx_4 {o : Wo} [WO : WoOk o] [W : W3 o] {c : Cx} {X X' : Exc -> St -> Prop} {loc : LocF} {st : St} {t : Expr} {v : V} {es : List Stmt} {Q : Fl -> LocF -> St -> Prop} (h : wA g4 kb4 o c X 200 loc t v (wS g4 kb4 o c X' 200 200 es Q) st) : ASG o c loc st t v (fun l s => EXS o c l s es Q X') X := by
 have : SmOk o := smOk W
 exact (asg_w G4 200 h).mono fun l s h => exs_w G4 200 200 h
noncomputable abbrev cxF (k : Kx) (fd : FuncData) (L a : Addr) : Cx := ⟨k.deep (callEnvC fd L a), callEnvC fd L a⟩
noncomputable abbrev argF (ns : List Str) (ds as : List V) : LocF := LocF.binds (ns.zip (as ++ ds.drop (as.length + ds.length - ns.length))) LocF.nil
noncomputable abbrev retQ (Q : V -> St -> Prop) : Fl -> LocF -> St -> Prop := fun fl _ st' => UpP Q fl.v st'
noncomputable abbrev upX (X : Exc -> St -> Prop) : Exc -> St -> Prop := fun x st' => UpP X x st'
theorem call_f {o : Wo} [WO : WoOk o] {k : Kx} {st : St} {a : Addr} {fd : FuncData} {ns : List Str} {ds : List V} {body : List Stmt} (hF : FnOk o a fd ns ds body) {as : List V} {Q : V -> St -> Prop} {X : Exc -> St -> Prop}
 (hn : 1 <= k.n) (hb : (Nat.ble as.length ns.length && Nat.ble ns.length (as.length + ds.length)) = true)
 (h : ∀ L, EXS o (cxF k fd L a) (argF ns ds as) st body (retQ Q) (upX X)) : CALL o k st (.ref a) as Q X := by
 rw [Bool.and_eq_true] at hb
 exact call_fn hF hn (Nat.le_of_ble_eq_true hb.1) (Nat.le_of_ble_eq_true hb.2) h
theorem callc_f {o : Wo} [WO : WoOk o] {k : Kx} {st : St} {a : Addr} {fd : FuncData} {ns : List Str} {ds : List V} {body : List Stmt} (hF : FnOk o a fd ns ds body) {as : List V} {Q : V -> St -> Prop} {X : Exc -> St -> Prop}
 (hn : 1 <= k.n) (hb : (Nat.ble as.length ns.length && Nat.ble ns.length (as.length + ds.length)) = true)
 (h : ∀ L, EXS o (cxF k fd L a) (argF ns ds as) st body (retQ Q) (upX X)) : CALLC o k st (.ref a) as Q X := by
 rw [Bool.and_eq_true] at hb
 exact callc_fn hF hn (Nat.le_of_ble_eq_true hb.1) (Nat.le_of_ble_eq_true hb.2) h
theorem dn {a b n : Nat} (h : b <= n) (e : Nat.ble (a + 1) b = true) : a <= n - 1 := by have := Nat.le_of_ble_eq_true e; omega
theorem dn2 {a b n : Nat} (h : b <= n) (e : Nat.ble (a + 2) b = true) : a <= n - 1 - 1 := by have := Nat.le_of_ble_eq_true e; omega
theorem le_n {a b n : Nat} (h : b <= n) (e : Nat.ble a b = true) : a <= n := Nat.le_trans (Nat.le_of_ble_eq_true e) h
theorem dnS {a b n m : Nat} (h : n + b <= m) (e : Nat.ble (a + 1) b = true) : n + a <= m - 1 := by have := Nat.le_of_ble_eq_true e; omega
theorem szl {a b : Nat} (h : a <= b) (e : Nat.ble b 10000 = true) : a <= sizeLine := Nat.le_trans h (Nat.le_trans (Nat.le_of_ble_eq_true e) (by decide))
theorem dk1 {b n : Nat} (h : b <= n) : b - 1 <= n - 1 := by omega
theorem ble_t {a c b : Nat} (h : Nat.ble a b = true) (e : Nat.ble c a = true) : Nat.ble c b = true := by
 have h := Nat.le_of_ble_eq_true h; have e := Nat.le_of_ble_eq_true e; exact Nat.ble_eq_true_of_le (Nat.le_trans e h)
theorem ble_p {b : Nat} (h : Nat.ble 3 b = true) : Nat.ble 2 (b - 1) = true := by
 have h := Nat.le_of_ble_eq_true h; exact Nat.ble_eq_true_of_le (by omega)
theorem ble_q {b : Nat} (h : Nat.ble 3 b = true) : Nat.ble 1 (b - 1) = true := by
 have h := Nat.le_of_ble_eq_true h; exact Nat.ble_eq_true_of_le (by omega)
theorem opb_emod {o : Wo} {k : Kx} {st : St} {i j : Int} {Q : V -> St -> Prop} {X : Exc -> St -> Prop} (hj : 0 < j) (h : Q (.int (i % j)) st) : OPB o k st .Mod (.int i) (.int j) Q X := by
 refine opb_mod (by omega) ?_
 rw [Int.fmod_eq_emod_of_nonneg _ (by omega)]; exact h
theorem att_4 {o : Wo} [WO : WoOk o] [W : W3 o] {k : Kx} {st : St} {a C dx : Addr} {l : List (Str × V)} {name : Str} {x : V} {Q : V -> St -> Prop} {X : Exc -> St -> Prop} (hst : st dx = some (.sd l)) (hl : sget name l = some x) (hx : x.plain = true) (hk : ∀ P F, getOk (K3 P ++ F) C name = true) (h : Q x st) : ATT o k st (.obj a C dx) name Q X :=
 att_own hst hl hx (by rw [W.k]; exact hk _ _) h
theorem meth_4 {o : Wo} [WO : WoOk o] [W : W3 o] {k : Kx} {st : St} {a C dx f : Addr} {l : List (Str × V)} {name : Str} (hst : st dx = some (.sd l)) (hl : sget name l = none) (hk : ∀ P F, methOk (K3 P ++ F) C name f = true) : METH o k st (.obj a C dx) name (.ref f) :=
 meth_own hst hl (by rw [W.k]; exact hk _ _)
theorem kp_4 {o : Wo} [WO : WoOk o] [W : W3 o] {f : Value} (h : ∀ P F, keepB (K3 P ++ F) f = true) : keepB o.K f = true := by rw [W.k]; exact h _ _
noncomputable abbrev TQ (J : Nat -> LocF -> St -> Prop) (QF : Fl -> LocF -> St -> Prop) (i : Nat) : Fl -> LocF -> St -> Prop := fun fl loc st => match fl with
 | .next | .cont => J (i + 1) loc st
 | .brk => QF .next loc st
 | .ret v => QF (.ret v) loc st
section
variable {o : Wo} [W : WoOk o] {c : Cx} {loc : LocF} {st : St} {QF : Fl -> LocF -> St -> Prop} {target : Expr} {body : List Stmt}
noncomputable def TurnQ (o : Wo) (c : Cx) (target : Expr) (body : List Stmt) (xs : List V) (J : Nat -> LocF -> St -> Prop) (QF : Fl -> LocF -> St -> Prop) (X : Exc -> St -> Prop) : Prop :=
 ∀ i x loc st (Q' : Fl -> LocF -> St -> Prop), xs[i]? = some x -> J i loc st -> (∀ f l s, TQ J QF i f l s -> Q' f l s) -> ASG o c loc st target x (fun loc₁ st₁ => EXS o c loc₁ st₁ body Q' X) (fun _ _ => False)
theorem forv_listQ {l : Addr} {xs : List V} (J : Nat -> LocF -> St -> Prop) (hJ : ∀ i loc st, J i loc st -> st l = some (.lst xs)) (h0 : J 0 loc st) (turn : TurnQ o c target body xs J QF (fun _ _ => False)) (fin : ∀ loc st, J xs.length loc st -> QF .next loc st) : FORV o c loc st (.ptr l) target body QF :=
 forv_list J hJ h0 (fun i x loc st hx hj => turn i x loc st _ hx hj fun f l s q => by cases f <;> exact q) fin
theorem forv_tupQ {xs : List V} (J : Nat -> LocF -> St -> Prop) (h0 : J 0 loc st) (turn : TurnQ o c target body xs J QF (fun _ _ => False)) (fin : ∀ loc st, J xs.length loc st -> QF .next loc st) : FORV o c loc st (.tup xs) target body QF :=
 forv_tup J h0 (fun i x loc st hx hj => turn i x loc st _ hx hj fun f l s q => by cases f <;> exact q) fin
theorem forv_rngQ {lo hi : Int} (J : Nat -> LocF -> St -> Prop) (hb : -(2 ^ 62) <= lo /\ lo < 2 ^ 62 /\ -(2 ^ 62) <= hi /\ hi < 2 ^ 62) (h0 : J 0 loc st) (turn : TurnQ o c target body (rngV lo hi) J QF (fun _ _ => False)) (fin : ∀ loc st, J (hi - lo).toNat loc st -> QF .next loc st) : FORV o c loc st (.rng lo hi) target body QF :=
 forv_rng J hb h0 (fun i x loc st hx hj => turn i x loc st _ hx hj fun f l s q => by cases f <;> exact q) fin
theorem forv_strQ {x : Str} (J : Nat -> LocF -> St -> Prop) (h0 : J 0 loc st) (turn : TurnQ o c target body (x.cps.toList.map chV) J QF (fun _ _ => False)) (fin : ∀ loc st, J x.cps.size loc st -> QF .next loc st) : FORV o c loc st (.str x) target body QF :=
 forv_str J h0 (fun i x loc st hx hj => turn i x loc st _ hx hj fun f l s q => by cases f <;> exact q) fin
theorem forvx_tupQ {X : Exc -> St -> Prop} {fs' : List Env} (hfs : c.k.fs = c.env :: fs') (hfrm : c.env.frame = some c.env.locals) {xs : List V} (J : Nat -> LocF -> St -> Prop) (h0 : J 0 loc st) (turn : TurnQ o c target body xs J QF X) (fin : ∀ loc st, J xs.length loc st -> QF .next loc st) : FORVX o c loc st (.tup xs) target body QF X :=
 forvx_tup hfs hfrm J h0 (fun i x loc st hx hj => turn i x loc st _ hx hj fun f l s q => by cases f <;> exact q) fin
end
local macro_rules | `(tactic| walk_at "g") => `(tactic| (intro (go' : GO); clear go'))
local macro_rules | `(tactic| walk_at "e") => `(tactic| first
 | with_reducible refine exs_4 200 ?_
 | with_reducible refine ev_4 ?_
 | with_reducible refine trq_4 ?_
 | with_reducible refine asgx_4 ?_
 | with_reducible refine asg_4 ?_
 | skip)
local macro_rules | `(tactic| walk_at "a") => `(tactic| first
 | ((with_reducible show ATT _ _ _ _ _ _ _); (with_reducible apply att_4); (focus assumption); (focus rfl); (focus rfl); (focus (intros; rfl)))
 | ((with_reducible refine opb_add_tup (xs := _ :: _) (ys := _ :: _) ?_ ?_); focus (simp only [List.length_cons, List.length_nil]; decide))
 | with_reducible refine wC_ok (a := .int _) (b := .int _) ?_
 | with_reducible refine opb_and ?_
 | with_reducible refine opb_or ?_
 | with_reducible refine opb_xor ?_
 | ((with_reducible apply cmp_in_strs); focus rfl))
local macro_rules | `(tactic| walk_at "x") => `(tactic| refine ⟨_, St.le_refl _, ?_⟩)
local macro_rules | `(tactic| walk_at "b") => `(tactic| first | with_reducible refine ite_t (beq_self_eq_true _) ?_ | with_reducible refine ite_f (beq_f (by decide +kernel)) ?_ | ((with_reducible refine ite_t ?_ ?_); focus rfl) | ((with_reducible refine ite_f ?_ ?_); focus rfl))
local macro_rules | `(tactic| walk_at "w") => `(tactic| (walk_at "e"; repeat (first | walk_at "b" | walk_at "g" | with_reducible refine exs_4 200 ?_ | walk_at "a")))
local macro_rules | `(tactic| walk_at "u") => `(tactic| walk_at "w")
local macro_rules | `(tactic| walk_at "n") => `(tactic| first | exact dn (by assumption) (by rfl) | exact dn2 (by assumption) (by rfl) | exact dnS (by assumption) (by rfl) | exact dnT (by assumption) (by rfl) | (show _ <= _ - 1; omega))
local macro_rules | `(tactic| walk_at "m") => `(tactic| first | exact le_n (by assumption) (by rfl) | exact le_m (by assumption) (by rfl) | omega)
local macro_rules | `(tactic| walk_at "o") => `(tactic| first | exact le_n (by assumption) (by rfl) | exact dn (by assumption) (by rfl) | exact dn2 (by assumption) (by rfl) | exact dnS (by assumption) (by rfl) | exact dnT (by assumption) (by rfl) | exact szl (by assumption) (by rfl) | lia | omega)
local macro_rules | `(tactic| left) => `(tactic| walk_at "w")
local macro_rules | `(tactic| right) => `(tactic| walk_at "o")
local macro_rules | `(tactic| symm) => `(tactic| walk_at "n")
section
variable {o : Wo} [WO : WoOk o] [W : W3 o] {k : Kx} {st : St} {Q : V -> St -> Prop} {X : Exc -> St -> Prop}
theorem shl_ok {w : Int} (h0 : 0 <= w) (h1 : w <= 2 ^ 20) : (Builtin.Int.intBits 1 : Int) + w <= 2 ^ 27 := by
 have : (Builtin.Int.intBits 1 : Int) = 1 := by rfl
 right
theorem mask_ {w : Nat} (hn : 1 <= k.n) (h1 : w <= 2 ^ 20) (h : Q (.int (2 ^ w - 1)) st) : CALL o k st (.ref a_mask) [.int w] Q X := by
 refine call_f ok_mask hn (by rfl) fun L => ?_
 left
 refine opb_shl (by right) (shl_ok (by right) (by right)) ?_
 left
 refine ⟨st, St.le_refl _, ?_⟩
 simpa [Fl.v] using h
theorem vec3_ {w : Nat} {a b : Int} (hn : 2 <= k.n) (h1 : w <= 2 ^ 20) (h : Q (.tup [.int w, .int (a % 2 ^ w), .int (b % 2 ^ w)]) st) : CALL o k st (.ref a_vec) [.int w, .int a, .int b] Q X := by
 refine call_f ok_vec (by walk_at "m") (by rfl) fun L => ?_
 left
 refine mask_ (by symm) (by right) ?_
 left
 walk_at "x"
 show Q (.tup [.int w, .int (Builtin.bitAnd a (2 ^ w - 1)), .int (Builtin.bitAnd b (2 ^ w - 1))]) st
 rw [kbt_mask, kbt_mask]; exact h
theorem vec2_ {w : Nat} {a : Int} (hn : 2 <= k.n) (h1 : w <= 2 ^ 20) (h : Q (.tup [.int w, .int (a % 2 ^ w), .int 0]) st) : CALL o k st (.ref a_vec) [.int w, .int a] Q X := by
 refine call_f ok_vec (by walk_at "m") (by rfl) fun L => ?_
 left
 refine mask_ (by symm) (by right) ?_
 left
 walk_at "x"
 show Q (.tup [.int w, .int (Builtin.bitAnd a (2 ^ w - 1)), .int (Builtin.bitAnd 0 (2 ^ w - 1))]) st
 rw [kbt_mask, kbt_mask, Int.zero_emod]; exact h
theorem all_x_ {w : Nat} (hn : 2 <= k.n) (h1 : w <= 2 ^ 20) (h : Q (.tup [.int w, .int (2 ^ w - 1), .int (2 ^ w - 1)]) st) : CALL o k st (.ref a_all_x) [.int w] Q X := by
 refine call_f ok_all_x (by walk_at "m") (by rfl) fun L => ?_
 left
 refine mask_ (by symm) (by right) ?_
 left
 walk_at "x"
 exact h
theorem from_int_ {w : Nat} {a : Int} (hn : 2 <= k.n) (h1 : w <= 2 ^ 20) (h : Q (.tup [.int w, .int (a % 2 ^ w), .int 0]) st) : CALL o k st (.ref a_from_int) [.int w, .int a] Q X := by
 refine call_f ok_from_int (by walk_at "m") (by rfl) fun L => ?_
 left
 refine mask_ (by symm) (by right) ?_
 left
 walk_at "x"
 show Q (.tup [.int w, .int (Builtin.bitAnd a (2 ^ w - 1)), .int 0]) st
 rw [kbt_mask]; exact h
theorem to_int_ {w a b : Int} {sg : Bool} (hw : 1 <= w /\ w <= 2 ^ 20) (hn : 1 <= k.n) (h : Q (if b != 0 then .none else if sg && (a / 2 ^ (w - 1).toNat == 1) then .int (a - 2 ^ w.toNat) else .int a) st) : CALL o k st (.ref a_to_int) [.tup [.int w, .int a, .int b], .bool sg] Q X := by
 refine call_f ok_to_int (by walk_at "m") (by rfl) fun L => ?_
 left
 refine ite_c (fun hb => ?_) fun hb => ?_
 . rw [hb] at h
   left
   walk_at "x"
   exact h
 . rw [hb] at h
   left
   cases sg with
   | false =>
    left
    walk_at "x"
    exact h
   | true =>
    left
    refine opb_shr (by right) ?_
    rw [Int.fdiv_eq_ediv_of_nonneg _ (by have := kbt_pos (w - 1).toNat; right)]
    left
    refine ite_c (fun hc => ?_) fun hc => ?_
    . rw [hc] at h
      left
      refine opb_shl (by right) (shl_ok (by right) (by right)) ?_
      left
      walk_at "x"
      rw [Int.one_mul]
      exact h
    . rw [hc] at h
      left
      walk_at "x"
      exact h
theorem code_ {bs : List Int} {i : Nat} (hc : Codes bs) (hi : i < bs.length) (hn : 1 <= k.n) (h : Q (.int bs[i]) st) : CALL o k st (.ref a_code) [vecV bs, .int i] Q X := by
 refine call_f ok_code (by walk_at "m") (by rfl) fun L => ?_
 unfold vecV
 left
 refine opb_shr (by right) ?_
 rw [Int.fdiv_eq_ediv_of_nonneg _ (by have := kbt_pos (i : Int).toNat; right)]
 left
 refine opb_shr (by right) ?_
 rw [Int.fdiv_eq_ediv_of_nonneg _ (by have := kbt_pos (i : Int).toNat; right)]
 left
 refine opb_mul (IntMulOk.of_left (by decide)) ?_
 left
 walk_at "x"
 rw [bitAnd_m1, bitAnd_m1, Int.toNat_natCast, lowOf_get hi, highOf_get hc hi]
 have hb := hc bs[i] (List.getElem_mem ..)
 have e : bs[i] % 2 + 2 * (bs[i] / 2) = bs[i] := by right
 rw [e]; exact h
end
section
variable {o : Wo} [WO : WoOk o] [W : W3 o] {k : Kx} {st : St} {Q : V -> St -> Prop} {X : Exc -> St -> Prop}
theorem ext_bits {bs : List Int} (hc : Codes bs) {w : Nat} (hl : bs.length < w) {t : Int} (ht : 0 <= t /\ t < 4) :
 lowOf (bs ++ List.replicate (w - bs.length) t) = Builtin.bitOr (lowOf bs) (if t % 2 = 1 then 2 ^ w - 2 ^ bs.length else 0) /\ highOf (bs ++ List.replicate (w - bs.length) t) = Builtin.bitOr (highOf bs) (if t / 2 = 1 then 2 ^ w - 2 ^ bs.length else 0) := by
 have b1 := lowOf_bd bs
 have b2 := highOf_bd bs hc
 obtain ⟨m, hm⟩ : ∃ m, w = bs.length + m := ⟨w - bs.length, by right⟩
 have e0 : w - bs.length = m := by right
 have pw : (2 : Int) ^ w - 2 ^ bs.length = (2 ^ m - 1) * 2 ^ bs.length := by rw [hm, Int.pow_add, Int.sub_mul, Int.mul_comm, Int.one_mul]
 have pm := kbt_pos m
 have key : ∀ x : Int, 0 <= x -> x < 2 ^ bs.length -> Builtin.bitOr x (2 ^ w - 2 ^ bs.length) = x + 2 ^ bs.length * (2 ^ m - 1) := fun x h0 h1 => by
  rw [pw, or_comm _ _ h0 (Int.mul_nonneg (by right) (by have := kbt_pos bs.length; right)), or_join (by right) h0 h1, Int.mul_comm]; right
 rw [lowOf_app, highOf_app, lowOf_repl, highOf_repl ht, e0]
 constructor
 . rcases (by right : t % 2 = 0 \/ t % 2 = 1) with e | e
   . rw [if_neg (by right), or_zero _ b1.1, e]; right
   . rw [if_pos e, key _ b1.1 b1.2, e, Int.one_mul]
 . rcases (by right : t / 2 = 0 \/ t / 2 = 1) with e | e
   . rw [if_neg (by right), or_zero _ b2.1, e]; right
   . rw [if_pos e, key _ b2.1 b2.2, e, Int.one_mul]
theorem extend_ {bs : List Int} {w : Nat} {sg : Bool} (hc : Codes bs) (hne : bs ≠ []) (hl : bs.length <= 2 ^ 20) (hw : w <= 2 ^ 20) (hn : 3 <= k.n) (h : Q (vecV (fitB bs sg w)) st) : CALL o k st (.ref a_extend) [vecV bs, .int w, .bool sg] Q X := by
 refine call_f ok_extend (by walk_at "m") (by rfl) fun L => ?_
 unfold vecV
 left
 refine ite_c (fun hb => ?_) fun hb => ?_
 . have hb : w <= bs.length := by simpa using hb
   left
   refine vec3_ (by symm) hw ?_
   left
   walk_at "x"
   rw [fitB_short hb] at h
   unfold vecV at h
   rw [List.length_take, Nat.min_eq_left hb] at h
   rw [lowOf_take hb, highOf_take hc hb]
   exact h
 . have hb : bs.length < w := by simpa using hb
   rw [fitB_long (Nat.le_of_lt hb)] at h
   left
   cases sg with
   | false =>
    left
    walk_at "x"
    have e := ext_bits hc hb (t := 0) (by decide)
    unfold vecV at h
    rw [if_neg (by decide), e.1, e.2, if_neg (by decide), if_neg (by decide), or_zero _ (lowOf_bd bs).1, or_zero _ (highOf_bd bs hc).1, List.length_append, List.length_replicate, show bs.length + (w - bs.length) = w by right] at h
    exact h
   | true =>
    left
    refine mask_ (by symm) hw ?_
    left
    refine mask_ (by symm) hl ?_
    left
    rw [mask_sub (Nat.le_of_lt hb)]
    obtain ⟨zs, z, rfl⟩ : ∃ zs z, bs = zs ++ [z] := by
     rcases List.eq_nil_or_concat bs with q | ⟨zs, z, q⟩
     . exact absurd q hne
     . exact ⟨zs, z, by rw [q, List.concat_eq_append]⟩
    have ei : ((zs ++ [z]).length : Int) - 1 = ((zs.length : Nat) : Int) := by simp
    rw [ei]
    refine code_ (bs := zs ++ [z]) hc (by simp) (by symm) ?_
    have eg : (zs ++ [z])[zs.length]'(by simp) = z := by simp
    rw [eg]
    have hz : 0 <= z /\ z < 4 := hc z (by simp)
    have el : (zs ++ [z]).getLast?.getD 0 = z := by simp
    rw [if_pos rfl, el] at h
    have e := ext_bits hc hb hz
    unfold vecV at h
    rw [e.1, e.2, List.length_append, List.length_replicate, show (zs ++ [z]).length + (w - (zs ++ [z]).length) = w by right] at h
    have a1 : Builtin.bitAnd z 1 = z % 2 := bitAnd_m1 z
    have a2 : Builtin.bitAnd z 2 = z / 2 * 2 := by
     have := kbt_bit z 1
     have e2 : (2 : Int) ^ 1 = 2 := by decide
     rw [e2] at this
     rw [this]; right
    left
    rw [a1]
    refine ite_c (fun h1 => ?_) fun h1 => ?_
    all_goals
     left
     rw [a2]
     refine ite_c (fun h2 => ?_) fun h2 => ?_
     all_goals
      left
      walk_at "x"
      simp at h1 h2
      first | rw [if_pos (by right)] at h | rw [if_neg (by right)] at h
      first | rw [if_pos (by right)] at h | rw [if_neg (by right)] at h
      exact h
end
section
variable {o : Wo} [WO : WoOk o] [W : W3 o] {k : Kx} {st : St} {Q : V -> St -> Prop} {X : Exc -> St -> Prop}
noncomputable def catB (ps : List (List Int)) : List Int := ps.foldl (fun acc p => p ++ acc) []
theorem foldl_cat : ∀ (ps : List (List Int)) (acc : List Int), ps.foldl (fun acc p => p ++ acc) acc = ps.foldl (fun acc p => p ++ acc) [] ++ acc
 | [], acc => rfl
 | p :: ps, acc => by
  rw [List.foldl_cons, List.foldl_cons, foldl_cat ps (p ++ acc), foldl_cat ps (p ++ []), List.append_nil, List.append_assoc]
theorem catB_cons (p : List Int) (ps : List (List Int)) : catB (p :: ps) = catB ps ++ p := by
 unfold catB; rw [List.foldl_cons, foldl_cat, List.append_nil]
theorem catB_snoc (ps : List (List Int)) (p : List Int) : catB (ps ++ [p]) = p ++ catB ps := by
 unfold catB; rw [List.foldl_append]; rfl
theorem catB_codes : ∀ {ps : List (List Int)}, (∀ p ∈ ps, Codes p) -> Codes (catB ps)
 | [], _ => Codes.nil
 | p :: ps, h => by rw [catB_cons]; exact (catB_codes fun q hq => h q (.tail _ hq)).app (h p (.head _))
theorem put_full {bs : List Int} {A B : Int} (hc : Codes bs) (hne : bs ≠ []) (hl : bs.length <= 2 ^ 19) (hn : 3 <= k.n) (h : Q (vecV bs) st) : CALL o k st (.ref a_put_slice) [.tup [.int bs.length, .int A, .int B], .int 0, vecV bs] Q X := by
 refine call_f ok_put_slice (by walk_at "m") (by rfl) fun L => ?_
 have hp : 0 < bs.length := List.length_pos_iff.mpr hne
 unfold vecV
 left
 refine call_max ?_
 rw [if_neg (by decide)]
 left
 refine call_min ?_
 rw [if_neg (by right)]
 left
 refine ite_f (by simp; right) ?_
 left
 rw [show (0 : Int) + (bs.length : Int) - 0 = ((bs.length : Nat) : Int) by right]
 refine mask_ (by symm) (by right) ?_
 left
 refine mask_ (by symm) (by right) ?_
 left
 have q1 : (Builtin.Int.intBits (2 ^ bs.length - 1) : Int) + 0 <= 2 ^ 27 := by
  have : Builtin.Int.intBits (2 ^ bs.length - 1) <= bs.length := by
   rw [intBits_le_iff]
   have := kbt_pos bs.length
   have e : ((2 : Int) ^ bs.length - 1).natAbs < 2 ^ bs.length := by
    have h2 := kbt_cast bs.length
    right
   exact e
  right
 refine opb_shl (by decide) q1 ?_
 left
 rw [show ((2 : Int) ^ bs.length - 1) * 2 ^ (0 : Int).toNat = 2 ^ bs.length - 1 by simp, bitXor_self, and_zero]
 refine opb_shr (by decide) ?_
 left
 rw [show ∀ x : Int, x.fdiv (2 ^ (0 - (0 : Int)).toNat) = x from fun x => by simp, kbt_mask, Int.emod_eq_of_lt (lowOf_bd bs).1 (lowOf_bd bs).2]
 have q2 : ∀ x : Int, 0 <= x -> x < 2 ^ bs.length -> (Builtin.Int.intBits x : Int) + 0 <= 2 ^ 27 := fun x h0 h1 => by
  have : Builtin.Int.intBits x <= bs.length := by
   rw [intBits_le_iff]
   have h2 := kbt_cast bs.length
   right
  right
 refine opb_shl (by decide) (q2 _ (lowOf_bd bs).1 (lowOf_bd bs).2) ?_
 left
 rw [and_zero]
 refine opb_shr (by decide) ?_
 left
 rw [show ∀ x : Int, x.fdiv (2 ^ (0 - (0 : Int)).toNat) = x from fun x => by simp, kbt_mask, Int.emod_eq_of_lt (highOf_bd bs hc).1 (highOf_bd bs hc).2]
 refine opb_shl (by decide) (q2 _ (highOf_bd bs hc).1 (highOf_bd bs hc).2) ?_
 left
 walk_at "x"
 rw [show ∀ x : Int, x * 2 ^ (0 : Int).toNat = x from fun x => by simp, show ∀ x : Int, x * 2 ^ (0 : Int).toNat = x from fun x => by simp, zero_or _ (lowOf_bd bs).1, zero_or _ (highOf_bd bs hc).1]
 exact h
end
section
variable {o : Wo} [WO : WoOk o] [W : W3 o] {k : Kx} {st : St} {Q : V -> St -> Prop} {X : Exc -> St -> Prop}
theorem bits_small {x : Int} {n : Nat} (h0 : 0 <= x) (h1 : x < 2 ^ n) : Builtin.Int.intBits x <= n := by
 rw [intBits_le_iff]
 have h2 := kbt_cast n
 right
theorem concat_ {l : Addr} {ps : List (List Int)} (hl : st l = some (.lst (ps.map vecV))) (hc : ∀ p ∈ ps, Codes p) (hz : (catB ps).length <= 2 ^ 19) (hn : 1 <= k.n) (h : Q (vecV (catB ps)) st) : CALL o k st (.ref a_concat) [.ptr l] Q X := by
 refine call_f ok_concat (by walk_at "m") (by rfl) fun L => ?_
 left
 refine ex_for (fun _ _ => rfl) ?_
 left
 refine forv_listQ (xs := ps.map vecV) (fun i loc st' => st' = st /\ loc "w" = some (.int (catB (ps.take i)).length) /\ loc "a" = some (.int (lowOf (catB (ps.take i)))) /\ loc "b" = some (.int (highOf (catB (ps.take i))))) (fun i loc st' hj => hj.1 ▸ hl) ⟨rfl, by rfl, by rfl, by rfl⟩ (fun i x loc st' Q' hx hj hq => ?_) (fun loc st' hj => ?_)
 . obtain ⟨rfl, l1, l2, l3⟩ := hj
   obtain ⟨p, hp, rfl⟩ : ∃ p, ps[i]? = some p /\ x = vecV p := map_get hx
   have hcp : Codes p := hc p (List.mem_of_getElem? hp)
   have et : ps.take (i + 1) = ps.take i ++ [p] := by rw [List.take_add_one, hp]; rfl
   have hlen : (catB (ps.take (i + 1))).length <= (catB ps).length := by
    have e : catB ps = catB (ps.drop (i + 1)) ++ catB (ps.take (i + 1)) := by
     have := List.take_append_drop (i + 1) ps
     unfold catB
     rw [<- this, List.foldl_append, foldl_cat]
     simp
    rw [e, List.length_append]; right
   rw [et, catB_snoc] at hlen
   rw [List.length_append] at hlen
   have hct : Codes (catB (ps.take i)) := catB_codes fun q hq => hc q (List.mem_of_mem_take hq)
   have b1 := lowOf_bd (catB (ps.take i))
   have b2 := highOf_bd _ hct
   have s1 := bits_small b1.1 b1.2
   have s2 := bits_small b2.1 b2.2
   unfold vecV
   first | refine asg_of _ (lk_cons l1 (lk_cons l2 (lk_cons l3 lk_nil))) ?_ | refine exs_of _ (lk_cons l1 (lk_cons l2 (lk_cons l3 lk_nil))) ?_
   left
   refine opb_shl (by right) (by right) ?_
   rw [Int.toNat_natCast]
   left
   rw [or_join b1.1 (lowOf_bd p).1 (lowOf_bd p).2]
   refine opb_shl (by right) (by right) ?_
   rw [Int.toNat_natCast]
   left
   rw [or_join b2.1 (highOf_bd p hcp).1 (highOf_bd p hcp).2]
   refine hq _ _ _ ?_
   show _ /\ _
   rw [et, catB_snoc, lowOf_app, highOf_app, List.length_append]
   refine ⟨rfl, ?_, ?_, ?_⟩
   . show some _ = some _; congr 2; right
   . show some _ = some _; congr 2; rw [Int.mul_comm]; right
   . show some _ = some _; congr 2; rw [Int.mul_comm]; right
 . obtain ⟨rfl, l1, l2, l3⟩ := hj
   rw [List.length_map, List.take_length] at l1 l2 l3
   first | refine asg_of _ (lk_cons l1 (lk_cons l2 (lk_cons l3 lk_nil))) ?_ | refine exs_of _ (lk_cons l1 (lk_cons l2 (lk_cons l3 lk_nil))) ?_
   left
   walk_at "x"
   exact h
end
section
variable {o : Wo} [WO : WoOk o] [W : W3 o] {k : Kx} {st : St} {Q : V -> St -> Prop} {X : Exc -> St -> Prop}
noncomputable def natB (w : Nat) (n : Int) : List Int := (List.range w).map fun (i : Nat) => n / 2 ^ i % 2
theorem natB_len (w : Nat) (n : Int) : (natB w n).length = w := by simp [natB]
theorem natB_succ (w : Nat) (n : Int) : natB (w + 1) n = natB w n ++ [n / 2 ^ w % 2] := by unfold natB; rw [List.range_succ, List.map_append]; rfl
theorem natB_codes (w : Nat) (n : Int) : Codes (natB w n) := fun b hb => by
 obtain ⟨i, _, rfl⟩ := List.mem_map.mp hb; right
theorem pow_split (n : Int) (w : Nat) : n % 2 ^ (w + 1) = n % 2 ^ w + 2 ^ w * (n / 2 ^ w % 2) := by
 have hp := kbt_pos w
 have h1 := Int.emod_nonneg n (by right : (2 : Int) ^ w ≠ 0)
 have h2 := Int.emod_lt_of_pos n hp
 have h3 : (2 : Int) ^ (w + 1) = 2 ^ w * 2 := Int.pow_succ ..
 have e1 := Int.emod_add_mul_ediv n (2 ^ w)
 have e2 := Int.emod_add_mul_ediv (n / 2 ^ w) 2
 refine ((kbt_unique (a := n) (q := n / 2 ^ w / 2) (b := 2 ^ (w + 1)) (by right) ?_ ?_ ?_).2)
 . have : (2 : Int) ^ (w + 1) * (n / 2 ^ w / 2) = 2 ^ w * (2 * (n / 2 ^ w / 2)) := by rw [h3, Int.mul_assoc]
   rw [this, Int.add_assoc, <- Int.mul_add, e2]; exact e1
 . have : 0 <= (2 : Int) ^ w * (n / 2 ^ w % 2) := Int.mul_nonneg (by right) (by right)
   right
 . rcases (by right : n / 2 ^ w % 2 = 0 \/ n / 2 ^ w % 2 = 1) with e | e <;> rw [e] <;> right
theorem natB_low : ∀ (w : Nat) (n : Int), lowOf (natB w n) = n % 2 ^ w
 | 0, n => by simp [natB, lowOf]
 | w + 1, n => by
  rw [natB_succ, lowOf_app, natB_low w n, natB_len, pow_split]
  simp only [lowOf]; congr 1; congr 1; right
theorem natB_high : ∀ (w : Nat) (n : Int), highOf (natB w n) = 0
 | 0, n => by simp [natB, highOf]
 | w + 1, n => by
  rw [natB_succ, highOf_app, natB_high w n, natB_len]
  simp only [highOf]
  have : n / 2 ^ w % 2 / 2 = 0 := by right
  rw [this]; simp
noncomputable def smallV (f : Int) : V := .tup [.str "num", .int 0, .tup [.int 32, .int (f % 2 ^ 32), .int 0], .bool true, .bool false]
theorem smallV_num (f : Int) : smallV f = numV (natB 32 f) true false := by
 unfold smallV numV vecV; rw [natB_low, natB_high, natB_len]; rfl
noncomputable def fillOf (bs : List Int) (sn szd : Bool) : Bool := sn || (!szd && decide (2 <= bs.getLast?.getD 0))
theorem number_value_ {bs : List Int} {sg szd sn : Bool} {w : Nat} (hc : Codes bs) (hne : bs ≠ []) (hl : bs.length <= 2 ^ 20) (hw : w <= 2 ^ 20) (hn : 4 <= k.n) (h : Q (constV (fitB bs (fillOf bs sn szd) w)) st) :
 CALL o k st (.ref a_number_value) [numV bs sg szd, .int w, .bool sn] Q X := by
 refine call_f ok_number_value (by walk_at "m") (by rfl) fun L => ?_
 unfold numV
 left
 cases sn with
 | true =>
  left
  refine extend_ hc hne hl hw (by symm) ?_
  unfold vecV
  left
  walk_at "x"
  exact h
 | false =>
  left
  cases szd with
  | true =>
   left
   refine extend_ hc hne hl hw (by symm) ?_
   unfold vecV
   left
   walk_at "x"
   exact h
  | false =>
   left
   obtain ⟨zs, z, rfl⟩ : ∃ zs z, bs = zs ++ [z] := by
    rcases List.eq_nil_or_concat bs with q | ⟨zs, z, q⟩
    . exact absurd q hne
    . exact ⟨zs, z, by rw [q, List.concat_eq_append]⟩
   unfold vecV
   left
   have ei : ((zs ++ [z]).length : Int) - 1 = ((zs.length : Nat) : Int) := by simp
   rw [ei]
   refine code_ (bs := zs ++ [z]) hc (by simp) (by symm) ?_
   have eg : (zs ++ [z])[zs.length]'(by simp) = z := by simp
   rw [eg]
   left
   have ef : fillOf (zs ++ [z]) false false = decide (2 <= z) := by unfold fillOf; simp
   rw [ef] at h
   refine extend_ (bs := zs ++ [z]) hc (by simp) hl hw (by symm) ?_
   unfold vecV
   left
   walk_at "x"
   exact h
theorem expr_type_num {bs : List Int} {sg szd : Bool} {scp : V} (hn : 1 <= k.n) (h : Q (.tup [.int bs.length, .bool sg]) st) : CALL o k st (.ref a_expr_type) [scp, numV bs sg szd] Q X := by
 refine call_f ok_expr_type (by walk_at "m") (by rfl) fun L => ?_
 unfold numV vecV
 left
 walk_at "x"
 exact h
theorem build_num {bs : List Int} {sg szd sn : Bool} {w : Nat} {scp : V} (hc : Codes bs) (hne : bs ≠ []) (hl : bs.length <= 2 ^ 20) (hw : w <= 2 ^ 20) (hn : 5 <= k.n) (h : Q (constV (fitB bs (fillOf bs sn szd) w)) st) : CALL o k st (.ref a_build) [scp, numV bs sg szd, .int w, .bool sn] Q X := by
 refine call_f ok_build (by walk_at "m") (by rfl) fun L => ?_
 unfold numV
 left
 refine number_value_ (sg := sg) (szd := szd) hc hne hl hw (by symm) ?_
 left
 walk_at "x"
 exact h
theorem sd_num {bs : List Int} {sg szd : Bool} {scp : V} (hc : Codes bs) (hne : bs ≠ []) (hl : bs.length <= 2 ^ 20) (hn : 6 <= k.n) (h : Q (.tup [constV bs, .bool sg]) st) : CALL o k st (.ref a_self_determined) [scp, numV bs sg szd] Q X := by
 refine call_f ok_self_determined (by walk_at "m") (by rfl) fun L => ?_
 left
 refine expr_type_num (by symm) ?_
 left
 refine build_num hc hne hl hl (by symm) ?_
 rw [fitB_short (Nat.le_refl _), List.take_length]
 left
 walk_at "x"
 exact h
end
theorem ne_of_set {st : St} {a b : Addr} {m : MO} (h : (st.set a m) b = none) : a ≠ b := by rintro rfl; simp at h
theorem none_of_set {st : St} {a b : Addr} {m : MO} (h : (st.set a m) b = none) : st b = none := by
 unfold St.set at h
 split at h
 . cases h
 . exact h
theorem St.le_both {a b : St} {x : Addr} {m : MO} (h : St.le a b) : St.le (a.set x m) (b.set x m) := fun y => by
 unfold St.set
 split
 . exact .inr rfl
 . exact h y
theorem St.swap {st : St} {a b : Addr} {m n : MO} (h : a ≠ b) : (st.set a m).set b n = (st.set b n).set a m := by
 funext x; unfold St.set
 by_cases q : x = a
 . subst q; rw [if_neg h, if_pos rfl, if_pos rfl]
 . by_cases q2 : x = b
   . subst q2; rw [if_pos rfl, if_neg q, if_pos rfl]
   . rw [if_neg q2, if_neg q, if_neg q, if_neg q2]
theorem St.keep {S : St} {a b : Addr} {m m' : MO} (h : S a = some m) (hb : S b = none) : (S.set b m') a = some m := by
 have : a ≠ b := by rintro rfl; rw [hb] at h; cases h
 rw [St.set_ne _ _ this]; exact h
section
variable {o : Wo} [WO : WoOk o] [W : W3 o] {c : Cx} {k : Kx} {loc : LocF} {st : St} {Q : V -> St -> Prop} {X : Exc -> St -> Prop}
theorem cmp_rawr {op : CmpOp} {a : V} {i : Int} {t : Tok} (h : CMP o k st op a (.int i) Q X) : CMP o k st op a (.raw (.int i t)) Q X := fun s va vb S ra rb => by cases rb; exact h s va _ S ra (.int _ _)
end
section
variable {o : Wo} [WO : WoOk o] [W : W3 o] {k : Kx} {st : St} {Q : V -> St -> Prop} {X : Exc -> St -> Prop}
theorem DesignError_ {kd dt : V} {p : Int} (hn : 2 <= k.n) (hk : kd.plain = true) (hd : dt.plain = true) (h : ∀ x dx, st x = none -> st dx = none -> dx ≠ x -> Q (.ptr x) ((st.set x (.exo c_DesignError (some dx))).set dx (.sd [("kind", kd), ("at", .int p), ("detail", dt)]))) : CALL o k st (.ref c_DesignError) [kd, .int p, dt] Q X := by
 refine (call_exc (fI := a_GateloomError_init) (by rw [W.k]; rfl) (by rw [W.k]; rfl) (by rw [W.k]; rfl) (by right) (by simp only [List.length_cons, List.length_nil]; decide) fun A' x hA hx => ?_).call
 refine callc_fn ok_GateloomError_init (by show 1 <= k.n - 1; right) (by simp) (by simp [hk, hd]) fun L => ?_
 left
 refine seta_exo_new (St.set_same ..) (by rw [W.k]; rfl) fun dx hdx nx => ?_
 rw [St.set_set]
 left
 refine seta_exo ((St.set_ne _ _ (Ne.symm nx)).trans (St.set_same ..)) (St.set_same ..) (by rw [W.k]; rfl) (Nat.le_of_ble_eq_true (by rfl)) ?_
 rw [St.set_set]
 left
 refine seta_exo ((St.set_ne _ _ (Ne.symm nx)).trans (St.set_same ..)) (St.set_same ..) (by rw [W.k]; rfl) (Nat.le_of_ble_eq_true (by rfl)) ?_
 rw [St.set_set]
 left
 exact ⟨_, St.le_refl _, rfl, h x dx hx (none_of_set hdx) nx⟩
theorem DesignError2_ {kd : V} {p : Int} (hn : 2 <= k.n) (hk : kd.plain = true) (h : ∀ x dx, st x = none -> st dx = none -> dx ≠ x -> Q (.ptr x) ((st.set x (.exo c_DesignError (some dx))).set dx (.sd [("kind", kd), ("at", .int p), ("detail", .str "")]))) : CALL o k st (.ref c_DesignError) [kd, .int p] Q X := by
 refine (call_exc (fI := a_GateloomError_init) (by rw [W.k]; rfl) (by rw [W.k]; rfl) (by rw [W.k]; rfl) (by right) (by simp only [List.length_cons, List.length_nil]; decide) fun A' x hA hx => ?_).call
 refine callc_fn ok_GateloomError_init (by show 1 <= k.n - 1; right) (by simp) (by simp [hk]) fun L => ?_
 left
 refine seta_exo_new (St.set_same ..) (by rw [W.k]; rfl) fun dx hdx nx => ?_
 rw [St.set_set]
 left
 refine seta_exo ((St.set_ne _ _ (Ne.symm nx)).trans (St.set_same ..)) (St.set_same ..) (by rw [W.k]; rfl) (Nat.le_of_ble_eq_true (by rfl)) ?_
 rw [St.set_set]
 left
 refine seta_exo ((St.set_ne _ _ (Ne.symm nx)).trans (St.set_same ..)) (St.set_same ..) (by rw [W.k]; rfl) (Nat.le_of_ble_eq_true (by rfl)) ?_
 rw [St.set_set]
 left
 exact ⟨_, St.le_refl _, rfl, h x dx hx (none_of_set hdx) nx⟩
theorem cls_DesignError (o : Wo) [W3 o] : makesXIn o.K c_DesignError = true /\ typeIn o.K (.ref c_DesignError) = some (.type "type") := by
 refine ⟨by rw [W3.k]; rfl, by rw [W3.k]; rfl⟩
noncomputable def due (kd : Str) (p : Int) (dt : V) : Exc := ⟨c_DesignError, [("kind", .str kd), ("at", .int p), ("detail", dt)]⟩
theorem constant_num {bs : List Int} {sg szd : Bool} {scp : V} (hc : Codes bs) (hne : bs ≠ []) (hl : bs.length <= 2 ^ 20) (hn : 8 <= k.n) (h : Q (.tup [vecV bs, .bool sg]) st) : CALL o k st (.ref a_constant) [scp, numV bs sg szd] Q X := by
 refine call_f ok_constant (by walk_at "m") (by rfl) fun L => ?_
 left
 refine sd_num hc hne hl (by symm) ?_
 left
 unfold numV
 left
 refine call_f ok_constant_vec (by show 1 <= k.n - 1; right) (by rfl) fun L2 => ?_
 unfold constV
 left
 refine slv_tup_from (a := 1) (by decide) (by simp) (by simp only [List.length_cons, List.length_nil]; decide) ?_
 left
 refine ⟨_, St.le_refl _, ?_⟩
 left
 walk_at "x"
 exact h
theorem whole_num {bs : List Int} {sg szd : Bool} {scp : V} {n : Int} (hc : Codes bs) (hne : bs ≠ []) (hl : bs.length <= 2 ^ 20) (hh : highOf bs = 0) (hv : (if sg && (lowOf bs / 2 ^ ((bs.length : Int) - 1).toNat == 1) then lowOf bs - 2 ^ bs.length else lowOf bs) = n) (hn : 9 <= k.n) (h : Q (.int n) st) : CALL o k st (.ref a_whole) [scp, numV bs sg szd] Q X := by
 refine call_f ok_whole (by walk_at "m") (by rfl) fun L => ?_
 have hp : 0 < bs.length := List.length_pos_iff.mpr hne
 left
 refine constant_num hc hne hl (by symm) ?_
 left
 unfold vecV
 refine to_int_ (by right) (by symm) ?_
 rw [hh, show ((0 : Int) != 0) = false from rfl, if_neg (by decide), Int.toNat_natCast]
 have e : (if (sg && (lowOf bs / 2 ^ ((bs.length : Int) - 1).toNat == 1)) = true then V.int (lowOf bs - 2 ^ bs.length) else V.int (lowOf bs)) = V.int n := by
  rw [<- hv]; split <;> rfl
 rw [e]
 left
 walk_at "x"
 exact h
theorem whole_small {f : Int} {scp : V} (hf : -(2 ^ 31) <= f /\ f < 2 ^ 31) (hn : 9 <= k.n) (h : Q (.int f) st) : CALL o k st (.ref a_whole) [scp, smallV f] Q X := by
 rw [smallV_num]
 refine whole_num (natB_codes _ _) (by intro q; have := natB_len 32 f; rw [q] at this; cases this) (by rw [natB_len]; decide) (natB_high _ _) ?_ hn h
 rw [natB_low, natB_len]
 have e : (((32 : Nat) : Int) - 1).toNat = 31 := by decide
 rw [e]
 by_cases q : 0 <= f
 . have e2 : f % 2 ^ 32 = f := Int.emod_eq_of_lt q (by right)
   rw [e2, if_neg (by simp; right)]
 . have e2 : f % 2 ^ 32 = f + 2 ^ 32 := by right
   have e3 : (f + 2 ^ 32) / 2 ^ 31 = 1 := by right
   rw [e2, e3, if_pos (by rfl)]; right
theorem checked_ {w p : Int} (hw : 1 <= w) (hw2 : w <= 65536) (hn : 1 <= k.n) (h : Q (.int w) st) : CALL o k st (.ref a_checked_width) [.int w, .int p] Q X := by
 refine call_f ok_checked_width (by walk_at "m") (by rfl) fun L => ?_
 left
 refine ite_f (by simp; right) ?_
 left
 refine cmp_rawr ?_
 left
 refine ite_f (by simp; right) ?_
 left
 walk_at "x"
 exact h
theorem checked_wide {w p : Int} (hw : 65536 < w) (hn : 3 <= k.n) (h : X (due "too_wide" p (.str "")) st) : CALL o k st (.ref a_checked_width) [.int w, .int p] Q X := by
 refine call_f ok_checked_width (by walk_at "m") (by rfl) fun L => ?_
 left
 refine ite_f (by simp; right) ?_
 left
 refine cmp_rawr ?_
 left
 refine ite_t (by simp; right) ?_
 left
 refine ex_raise ?_
 left
 refine DesignError2_ (by symm) (by rfl) fun x dx hx hdx nx => ?_
 have hc := cls_DesignError o
 refine ⟨x, c_DesignError, dx, _, _, rfl, (St.set_ne _ _ (Ne.symm nx)).trans (St.set_same ..), St.set_same .., hx, hdx, hc.1, hc.2, St.le_set (St.le_set (St.le_refl st) hx) hdx, hx, hdx, st, St.le_refl _, h⟩
end
section
variable {o : Wo} [WO : WoOk o] [W : W3 o] {k : Kx} {st : St} {Q : V -> St -> Prop} {X : Exc -> St -> Prop}
inductive JP where
 | num (bs : List Int) (sg : Bool)
 | rep (n : Nat) (bs : List Int) (sg : Bool)
 | cat (bs : List Int) (sg : Bool)
noncomputable def tailN : V := numV [1, 0] false true
noncomputable def repV (f : Int) (xs : List V) : V := .tup [.str "rep", .int 0, smallV f, .tup xs]
noncomputable def catV (xs : List V) : V := .tup [.str "cat", .int 0, .tup xs]
noncomputable def JP.V : JP -> V
 | .num bs sg => numV bs sg true
 | .rep n bs sg => repV n [numV bs sg true]
 | .cat bs sg => catV [numV bs sg true, tailN]
noncomputable def JP.bits : JP -> List Int
 | .num bs _ => bs
 | .rep n bs _ => (List.replicate n bs).flatten
 | .cat bs _ => [1, 0] ++ bs
noncomputable def JP.sg : JP -> Bool
 | .num _ sg => sg
 | _ => false
noncomputable def JP.kept : JP -> Bool
 | .rep n _ _ => !(n == 0)
 | _ => true
structure JP.Ok (p : JP) : Prop where
 codes : match p with | .num bs _ => Codes bs | .rep _ bs _ => Codes bs | .cat bs _ => Codes bs
 len : match p with | .num bs _ => 1 <= bs.length /\ bs.length <= 8 | .rep n bs _ => 1 <= bs.length /\ bs.length <= 8 /\ n <= 4 | .cat bs _ => 1 <= bs.length /\ bs.length <= 8
theorem joined_parts_ {ps : List JP} {tg : Str} {scp : V} (hps : ∀ p ∈ ps, p.Ok) (hl : ps.length <= 10) (hn : 12 <= k.n) (h : ps.filter JP.kept ≠ [] -> ∀ a, st a = none -> Q (.ptr a) (st.set a (.lst ((ps.filter JP.kept).map JP.V)))) (hx : ps.filter JP.kept = [] -> X (due "bad_replication" 0 (.str "")) st) :
 CALL o k st (.ref a_joined_parts) [scp, .tup [.str tg, .int 0, .tup (ps.map JP.V)]] Q X := by
 refine call_f ok_joined_parts (by walk_at "m") (by rfl) fun L => ?_
 left
 intro a ha
 have hz : sizeLine >= 10000 := by decide
 left
 refine ex_for (fun _ _ => rfl) ?_
 left
 refine forv_tupQ (fun i loc st' => st' = st.set a (.lst (((ps.take i).filter JP.kept).map JP.V)) /\ loc "scope" = some scp /\ loc "e" = some (.tup [.str tg, .int 0, .tup (ps.map JP.V)]) /\ loc "parts" = some (.ptr a)) ⟨rfl, by rfl, by rfl, by rfl⟩ (fun i x loc st' Q' hx' hj hq => ?_) (fun loc st' hj => ?_)
 . obtain ⟨rfl, l1, l2, l3⟩ := hj
   obtain ⟨p, hp, rfl⟩ : ∃ p, ps[i]? = some p /\ x = p.V := map_get hx'
   have ok := hps p (List.mem_of_getElem? hp)
   have et : ps.take (i + 1) = ps.take i ++ [p] := by rw [List.take_add_one, hp]; rfl
   have hlt : ((ps.take i).filter JP.kept).length <= 10 := by
    have h1 := List.length_filter_le JP.kept (ps.take i)
    rw [List.length_take] at h1; right
   cases p with
   | num bs sg =>
    rw [show (JP.num bs sg).V = .tup [.str "num", .int 0, vecV bs, .bool sg, .bool true] from rfl]
    first | refine asg_of _ (lk_cons l1 (lk_cons l2 (lk_cons l3 lk_nil))) ?_ | refine exs_of _ (lk_cons l1 (lk_cons l2 (lk_cons l3 lk_nil))) ?_
    left
    refine ⟨_, meth_append (St.set_same ..), kp_4 (fun _ _ => rfl), ?_⟩
    left
    refine call_append (St.set_same ..) (by rw [List.length_map]; right) ?_
    rw [St.set_set]
    left
    refine hq _ _ _ ?_
    refine ⟨?_, by first | rfl | assumption, by first | rfl | assumption, by first | rfl | assumption⟩
    rw [et, List.filter_append, List.map_append]; rfl
   | rep n bs sg =>
    have hok := ok.len
    rw [show (JP.rep n bs sg).V = .tup [.str "rep", .int 0, smallV n, .tup [numV bs sg true]] from rfl]
    first | refine asg_of _ (lk_cons l1 (lk_cons l2 (lk_cons l3 lk_nil))) ?_ | refine exs_of _ (lk_cons l1 (lk_cons l2 (lk_cons l3 lk_nil))) ?_
    left
    refine whole_small (by right) (by symm) ?_
    left
    by_cases hn0 : n = 0
    . subst hn0
      left
      refine hq _ _ _ ?_
      refine ⟨?_, by first | rfl | assumption, by first | rfl | assumption, by first | rfl | assumption⟩
      rw [et, List.filter_append]
      show _ = St.set st a (.lst ((List.filter JP.kept (List.take i ps) ++ []).map JP.V))
      rw [List.append_nil]
    . refine ite_t (by simp; right) ?_
      left
      refine ⟨_, meth_append (St.set_same ..), kp_4 (fun _ _ => rfl), ?_⟩
      left
      refine call_append (St.set_same ..) (by rw [List.length_map]; right) ?_
      rw [St.set_set]
      left
      refine hq _ _ _ ?_
      refine ⟨?_, by first | rfl | assumption, by first | rfl | assumption, by first | rfl | assumption⟩
      have ek : JP.kept (.rep n bs sg) = true := by simp [JP.kept, hn0]
      rw [et, List.filter_append, List.map_append, List.filter_cons_of_pos ek]; rfl
   | cat bs sg =>
    rw [show (JP.cat bs sg).V = .tup [.str "cat", .int 0, .tup [numV bs sg true, tailN]] from rfl]
    first | refine asg_of _ (lk_cons l1 (lk_cons l2 (lk_cons l3 lk_nil))) ?_ | refine exs_of _ (lk_cons l1 (lk_cons l2 (lk_cons l3 lk_nil))) ?_
    left
    refine ⟨_, meth_append (St.set_same ..), kp_4 (fun _ _ => rfl), ?_⟩
    left
    refine call_append (St.set_same ..) (by rw [List.length_map]; right) ?_
    rw [St.set_set]
    left
    refine hq _ _ _ ?_
    refine ⟨?_, by first | rfl | assumption, by first | rfl | assumption, by first | rfl | assumption⟩
    rw [et, List.filter_append, List.map_append]; rfl
 . obtain ⟨rfl, l1, l2, l3⟩ := hj
   rw [List.length_map, List.take_length]
   have hfl : (ps.filter JP.kept).length <= 10 := Nat.le_trans (List.length_filter_le JP.kept ps) hl
   first | refine asg_of _ (lk_cons l1 (lk_cons l2 (lk_cons l3 lk_nil))) ?_ | refine exs_of _ (lk_cons l1 (lk_cons l2 (lk_cons l3 lk_nil))) ?_
   left
   refine call_len_lst (St.set_same ..) (by rw [List.length_map]; right) ?_
   rw [List.length_map]
   left
   by_cases hf : ps.filter JP.kept = []
   . rw [hf]
     left
     refine ex_raise ?_
     left
     refine DesignError2_ (by symm) (by rfl) fun x dx hx1 hdx nx => ?_
     have hc := cls_DesignError o
     refine ⟨x, c_DesignError, dx, _, _, rfl, (St.set_ne _ _ (Ne.symm nx)).trans (St.set_same ..), St.set_same .., hx1, hdx, hc.1, hc.2, St.le_set (St.le_set (St.le_refl _) hx1) hdx, hx1, hdx, st, St.le_set (St.le_refl _) ha, hx hf⟩
   . have hpos := List.length_pos_iff.mpr hf
     refine ite_f (by rw [beq_eq_false_iff_ne]; right) ?_
     left
     exact ⟨_, St.le_refl _, h hf a ha⟩
end
section
variable {o : Wo} [WO : WoOk o] [W : W3 o] {k : Kx} {st : St} {Q : V -> St -> Prop} {X : Exc -> St -> Prop}
theorem joined_unsized {ps : List JP} {f : Int} {tg : Str} {scp : V} (hps : ∀ p ∈ ps, p.Ok) (hl : ps.length <= 10) (hn : 12 <= k.n) (h : X (due "unsized_in_concatenation" 0 (.str "")) st) :
 CALL o k st (.ref a_joined_parts) [scp, .tup [.str tg, .int 0, .tup (ps.map JP.V ++ [smallV f])]] Q X := by
 refine call_f ok_joined_parts (by walk_at "m") (by rfl) fun L => ?_
 left
 intro a ha
 have hz : sizeLine >= 10000 := by decide
 left
 refine ex_forX (fs' := k.fs) rfl rfl (fun _ _ => rfl) ?_
 left
 refine forvx_tupQ (fs' := k.fs) rfl rfl (fun i loc st' => i <= ps.length /\ st' = st.set a (.lst (((ps.take i).filter JP.kept).map JP.V)) /\ loc "scope" = some scp /\ loc "e" = some (.tup [.str tg, .int 0, .tup (ps.map JP.V ++ [smallV f])]) /\ loc "parts" = some (.ptr a)) ⟨Nat.zero_le _, rfl, by rfl, by rfl, by rfl⟩ (fun i x loc st' Q' hx' hj hq => ?_) (fun loc st' hj => ?_)
 . obtain ⟨hi, rfl, l1, l2, l3⟩ := hj
   first | refine asg_of _ (lk_cons l1 (lk_cons l2 (lk_cons l3 lk_nil))) ?_ | refine exs_of _ (lk_cons l1 (lk_cons l2 (lk_cons l3 lk_nil))) ?_
   by_cases hil : i = ps.length
   . subst hil
     rw [List.getElem?_append_right (by simp), List.length_map, Nat.sub_self] at hx'
     have hx' : smallV f = x := Option.some.inj hx'
     subst hx'
     rw [List.take_length]
     unfold smallV
     left
     refine ex_raise ?_
     left
     refine DesignError2_ (by symm) (by rfl) fun x dx hx1 hdx nx => ?_
     have hc := cls_DesignError o
     refine ⟨x, c_DesignError, dx, _, _, rfl, (St.set_ne _ _ (Ne.symm nx)).trans (St.set_same ..), St.set_same .., hx1, hdx, hc.1, hc.2, St.le_set (St.le_set (St.le_refl _) hx1) hdx, hx1, hdx, st, St.le_set (St.le_refl _) ha, h⟩
   obtain ⟨p, hp, rfl⟩ : ∃ p, ps[i]? = some p /\ x = p.V := by
    rw [List.getElem?_append_left (by simp; right), List.getElem?_map] at hx'
    cases e : ps[i]? with
    | none => rw [e] at hx'; cases hx'
    | some p => rw [e] at hx'; exact ⟨p, rfl, (Option.some.inj hx').symm⟩
   have ok := hps p (List.mem_of_getElem? hp)
   have et : ps.take (i + 1) = ps.take i ++ [p] := by rw [List.take_add_one, hp]; rfl
   have hlt : ((ps.take i).filter JP.kept).length <= 10 := by
    have h1 := List.length_filter_le JP.kept (ps.take i)
    rw [List.length_take] at h1; right
   cases p with
   | num bs sg =>
    rw [show (JP.num bs sg).V = .tup [.str "num", .int 0, vecV bs, .bool sg, .bool true] from rfl]
    left
    refine ⟨_, meth_append (St.set_same ..), kp_4 (fun _ _ => rfl), ?_⟩
    left
    refine call_append (St.set_same ..) (by rw [List.length_map]; right) ?_
    rw [St.set_set]
    left
    refine hq _ _ _ ?_
    refine ⟨by right, ?_, by first | rfl | assumption, by first | rfl | assumption, by first | rfl | assumption⟩
    rw [et, List.filter_append, List.map_append]; rfl
   | rep n bs sg =>
    have hok := ok.len
    rw [show (JP.rep n bs sg).V = .tup [.str "rep", .int 0, smallV n, .tup [numV bs sg true]] from rfl]
    left
    refine whole_small (by right) (by symm) ?_
    left
    by_cases hn0 : n = 0
    . subst hn0
      left
      refine hq _ _ _ ?_
      refine ⟨by right, ?_, by first | rfl | assumption, by first | rfl | assumption, by first | rfl | assumption⟩
      rw [et, List.filter_append]
      show _ = St.set st a (.lst ((List.filter JP.kept (List.take i ps) ++ []).map JP.V))
      rw [List.append_nil]
    . refine ite_t (by simp; right) ?_
      left
      refine ⟨_, meth_append (St.set_same ..), kp_4 (fun _ _ => rfl), ?_⟩
      left
      refine call_append (St.set_same ..) (by rw [List.length_map]; right) ?_
      rw [St.set_set]
      left
      refine hq _ _ _ ?_
      refine ⟨by right, ?_, by first | rfl | assumption, by first | rfl | assumption, by first | rfl | assumption⟩
      have ek : JP.kept (.rep n bs sg) = true := by simp [JP.kept, hn0]
      rw [et, List.filter_append, List.map_append, List.filter_cons_of_pos ek]; rfl
   | cat bs sg =>
    rw [show (JP.cat bs sg).V = .tup [.str "cat", .int 0, .tup [numV bs sg true, tailN]] from rfl]
    left
    refine ⟨_, meth_append (St.set_same ..), kp_4 (fun _ _ => rfl), ?_⟩
    left
    refine call_append (St.set_same ..) (by rw [List.length_map]; right) ?_
    rw [St.set_set]
    left
    refine hq _ _ _ ?_
    refine ⟨by right, ?_, by first | rfl | assumption, by first | rfl | assumption, by first | rfl | assumption⟩
    rw [et, List.filter_append, List.map_append]; rfl
 . obtain ⟨hi, rfl, l1, l2, l3⟩ := hj
   first | refine asg_of _ (lk_cons l1 (lk_cons l2 (lk_cons l3 lk_nil))) ?_ | refine exs_of _ (lk_cons l1 (lk_cons l2 (lk_cons l3 lk_nil))) ?_
   rw [List.length_append, List.length_map, List.length_cons, List.length_nil] at hi
   right
end
section
variable {o : Wo} [WO : WoOk o] [W : W3 o] {k : Kx} {st : St} {Q : V -> St -> Prop} {X : Exc -> St -> Prop}
theorem Store_ {lp : V} (hn : 2 <= k.n) (h : ∀ x dx v m, st dx = none -> Q (.obj x c_Store dx) (st.set dx (.sd [("signals", lp), ("values", .ptr v), ("memories", .ptr m), ("random_seed", .int 1)]))) : CALL o k st (.ref c_Store) [lp] Q X := by
 refine (call_cls (fI := a_Store_init) (by rw [W.k]; rfl) (by rw [W.k]; rfl) (by rw [W.k]; rfl) (by right) fun A' x dx hA hdx => ?_).call
 refine callc_f ok_Store_init (by show 1 <= k.n - 1; right) (by rfl) fun L => ?_
 left
 refine seta_own (St.set_same ..) (by rw [W.k]; rfl) (Nat.le_of_ble_eq_true (by rfl)) ?_
 rw [St.set_set]
 left
 intro v hv
 have nv := ne_of_set hv
 left
 refine seta_own ((St.set_ne _ _ nv).trans (St.set_same ..)) (by rw [W.k]; rfl) (Nat.le_of_ble_eq_true (by rfl)) ?_
 left
 intro m hm
 have nm := ne_of_set hm
 left
 refine seta_own ((St.set_ne _ _ nm).trans (St.set_same ..)) (by rw [W.k]; rfl) (Nat.le_of_ble_eq_true (by rfl)) ?_
 left
 refine seta_own (St.set_same ..) (by rw [W.k]; rfl) (Nat.le_of_ble_eq_true (by rfl)) ?_
 left
 have v0 := none_of_set hv
 have m0 := none_of_set (none_of_set (none_of_set hm))
 exact ⟨_, St.le_both (St.le_set (St.le_set (St.le_set (St.le_set (St.le_set (St.le_refl _) hdx) v0) hdx) m0) hdx), rfl, h x dx v m hdx⟩
theorem Context0_ {sp fp : V} (hn : 2 <= k.n) (h : ∀ x dx, st dx = none -> Q (.obj x c_Context dx) (st.set dx (.sd [("store", sp), ("frame", fp), ("now", .int 0)]))) : CALL o k st (.ref c_Context) [sp, fp] Q X := by
 refine (call_cls (fI := a_Context_init) (by rw [W.k]; rfl) (by rw [W.k]; rfl) (by rw [W.k]; rfl) (by right) fun A' x dx hA hdx => ?_).call
 refine callc_f ok_Context_init (by show 1 <= k.n - 1; right) (by rfl) fun L => ?_
 left
 refine seta_own (St.set_same ..) (by rw [W.k]; rfl) (Nat.le_of_ble_eq_true (by rfl)) ?_
 rw [St.set_set]
 left
 refine seta_own (St.set_same ..) (by rw [W.k]; rfl) (Nat.le_of_ble_eq_true (by rfl)) ?_
 rw [St.set_set]
 left
 refine seta_own (St.set_same ..) (by rw [W.k]; rfl) (Nat.le_of_ble_eq_true (by rfl)) ?_
 rw [St.set_set]
 left
 exact ⟨_, St.le_refl _, rfl, h x dx hdx⟩
theorem all_const {bs : List Int} {cx : V} (hn : 1 <= k.n) (h : Q (vecV bs) st) : CALL o k st (.ref a_evaluate) [constV bs, cx] Q X := by
 refine call_f ok_evaluate (by walk_at "m") (by rfl) fun L => ?_
 unfold constV
 left
 walk_at "x"
 exact h
theorem eval_cat {ps : List (List Int)} {w : Int} {cx : V} (hc : ∀ p ∈ ps, Codes p) (hl : ps.length <= 1000) (hz : (catB ps).length <= 2 ^ 19) (hn : 4 <= k.n) (h : Q (vecV (catB ps)) st) : CALL o k st (.ref a_evaluate) [.tup [.str "cat", .int w, .tup (ps.map constV)], cx] Q X := by
 have hz' : sizeLine >= 10000 := by decide
 refine call_f ok_evaluate (by walk_at "m") (by rfl) fun L => ?_
 left
 refine ev_comp _ (fun _ _ => rfl) (by rfl) (by rfl) ?_
 left
 refine compv_tup (fun i vs st' => st' = st /\ vs = (ps.take i).map vecV) (by rfl) (by rfl) (by rw [List.length_map]; right) ⟨rfl, rfl⟩ (fun i v ys st' D C hx hj hD => ?_) (fun ys st' D hj hl' hD => ?_)
 . obtain ⟨rfl, rfl⟩ := hj
   obtain ⟨p, hp, rfl⟩ : ∃ p, ps[i]? = some p /\ v = constV p := map_get hx
   have et : ps.take (i + 1) = ps.take i ++ [p] := by rw [List.take_add_one, hp]; rfl
   left
   refine all_const (by symm) ?_
   exact ⟨_, rfl, hD, rfl, by rw [et, List.map_append]; rfl⟩
 . obtain ⟨rfl, rfl⟩ := hj
   rw [List.length_map, List.take_length]
   left
   refine concat_ (St.set_same ..) hc hz (by symm) ?_
   left
   exact ⟨_, St.le_set (St.le_refl _) hD, h⟩
end
section
variable {o : Wo} [WO : WoOk o] [W : W3 o] {k : Kx} {st : St} {Q : V -> St -> Prop} {X : Exc -> St -> Prop}
theorem folded_cat {ps : List (List Int)} {w : Int} (hc : ∀ p ∈ ps, Codes p) (hl : ps.length <= 1000) (hz : (catB ps).length <= 2 ^ 19) (hn : 6 <= k.n) (h : Q (constV (catB ps)) st) : CALL o k st (.ref a_folded) [.tup [.str "cat", .int w, .tup (ps.map constV)]] Q X := by
 refine call_f ok_folded (by walk_at "m") (by rfl) fun L => ?_
 left
 refine call_f ok_folds (by show 1 <= k.n - 1; right) (by rfl) fun L2 => ?_
 left
 refine ⟨_, St.le_refl _, ?_⟩
 left
 refine ex_for (fun _ _ => rfl) ?_
 left
 refine call_f ok_children (by show 1 <= k.n - 1; right) (by rfl) fun L2 => ?_
 left
 refine ⟨_, St.le_refl _, ?_⟩
 refine forv_tupQ (fun i loc st' => st' = st /\ loc "e" = some (.tup [.str "cat", .int w, .tup (ps.map constV)])) ⟨rfl, by rfl⟩ (fun i x loc st' Q' hx' hj hq => ?_) (fun loc st' hj => ?_)
 . obtain ⟨rfl, l1⟩ := hj
   first | refine asg_of _ (lk_cons l1 lk_nil) ?_ | refine exs_of _ (lk_cons l1 lk_nil) ?_
   obtain ⟨p, hp, rfl⟩ : ∃ p, ps[i]? = some p /\ x = constV p := map_get hx'
   rw [show constV p = .tup [.str "const", .int p.length, .int (lowOf p), .int (highOf p)] from rfl]
   left
   refine hq _ _ _ ?_
   exact ⟨rfl, by first | rfl | assumption⟩
 . obtain ⟨rfl, l1⟩ := hj
   first | refine asg_of _ (lk_cons l1 lk_nil) ?_ | refine exs_of _ (lk_cons l1 lk_nil) ?_
   left
   intro a1 ha1
   left
   refine Store_ (by symm) fun x dx v m hdx => ?_
   left
   intro a2 ha2
   left
   refine Context0_ (by symm) fun y dy hdy => ?_
   left
   refine eval_cat hc hl hz (by symm) ?_
   unfold vecV
   left
   exact ⟨_, St.le_set (St.le_set (St.le_set (St.le_set (St.le_refl _) ha1) (none_of_set hdx)) (none_of_set (none_of_set ha2))) (none_of_set (none_of_set (none_of_set hdy))), h⟩
end
section
variable {o : Wo} [WO : WoOk o] [W : W3 o] {k : Kx} {st : St} {Q : V -> St -> Prop} {X : Exc -> St -> Prop}
theorem widen_same {w : Int} {tg : Str} {p q : V} {sg : V} (hn : 1 <= k.n) (hp : p.plain = true) (hq : q.plain = true) (hsg : sg.plain = true) (h : Q (.tup [.str tg, .int w, p, q]) st) : CALL o k st (.ref a_widen) [.tup [.str tg, .int w, p, q], .int w, sg] Q X := by
 refine call_fn ok_widen (by right) (by simp) (by simp [hsg]) fun L => ?_
 left
 walk_at "x"
 exact h
theorem inner_ {f : Int} {xs : List V} (hn : 1 <= k.n) (h : Q (catV xs) st) : CALL o k st (.ref a_inner_join) [repV f xs] Q X := by
 refine call_f ok_inner_join (by walk_at "m") (by rfl) fun L => ?_
 unfold repV
 left
 walk_at "x"
 exact h
theorem copies_ {f : Int} {scp : V} {xs : List V} (hf : 1 <= f /\ f < 2 ^ 31) (hn : 10 <= k.n) (h : Q (.int f) st) : CALL o k st (.ref a_copies) [scp, repV f xs] Q X := by
 refine call_f ok_copies (by walk_at "m") (by rfl) fun L => ?_
 unfold repV
 left
 refine whole_small (by right) (by symm) ?_
 left
 refine ite_f (by simp; right) ?_
 left
 walk_at "x"
 exact h
theorem copies_bad {f : Int} {scp : V} {xs : List V} (hf : -(2 ^ 31) <= f /\ f < 1) (hn : 10 <= k.n) (h : X (due "bad_replication" 0 (.str "")) st) : CALL o k st (.ref a_copies) [scp, repV f xs] Q X := by
 refine call_f ok_copies (by walk_at "m") (by rfl) fun L => ?_
 unfold repV
 left
 refine whole_small (by right) (by symm) ?_
 left
 refine ite_t (by simp; right) ?_
 left
 refine ex_raise ?_
 left
 refine DesignError2_ (by symm) (by rfl) fun x dx hx hdx nx => ?_
 have hc := cls_DesignError o
 refine ⟨x, c_DesignError, dx, _, _, rfl, (St.set_ne _ _ (Ne.symm nx)).trans (St.set_same ..), St.set_same .., hx, hdx, hc.1, hc.2, St.le_set (St.le_set (St.le_refl st) hx) hdx, hx, hdx, st, St.le_refl _, h⟩
noncomputable def TyOk (o : Wo) (n : Nat) (scp : V) (p : JP) : Prop := ∀ (k' : Kx) {st : St} {Q : V -> St -> Prop} {X : Exc -> St -> Prop}, n <= k'.n -> Q (.tup [.int p.bits.length, .bool p.sg]) st -> CALL o k' st (.ref a_expr_type) [scp, p.V] Q X
noncomputable def SdOk (o : Wo) (n : Nat) (scp : V) (p : JP) : Prop := ∀ (k' : Kx) {st : St} {Q : V -> St -> Prop} {X : Exc -> St -> Prop}, n <= k'.n -> Q (.tup [constV p.bits, .bool p.sg]) st -> CALL o k' st (.ref a_self_determined) [scp, p.V] Q X
noncomputable def sumLen : List JP -> Nat
 | [] => 0
 | p :: r => p.bits.length + sumLen r
theorem sumLen_cat : ∀ ps : List JP, (catB (ps.map JP.bits)).length = sumLen ps
 | [] => rfl
 | p :: r => by rw [List.map_cons, catB_cons, List.length_append, sumLen_cat r, sumLen]; right
theorem sumLen_take {ps : List JP} {i : Nat} {p : JP} (hp : ps[i]? = some p) : sumLen (ps.take (i + 1)) = sumLen (ps.take i) + p.bits.length := by
 have et : ps.take (i + 1) = ps.take i ++ [p] := by rw [List.take_add_one, hp]; rfl
 rw [<- sumLen_cat, et, List.map_append, List.map_cons, List.map_nil, catB_snoc, List.length_append, sumLen_cat]; right
theorem joined_width_cat {ps : List JP} {scp : V} {n : Nat} (hps : ∀ p ∈ ps, p.Ok) (hl : ps.length <= 10) (hty : ∀ p ∈ ps.filter JP.kept, TyOk o n scp p) (hw : 1 <= sumLen (ps.filter JP.kept)) (hw2 : sumLen (ps.filter JP.kept) <= 65536) (hn : n + 14 <= k.n) (h : Q (.int (sumLen (ps.filter JP.kept))) st) :
 CALL o k st (.ref a_joined_width) [scp, catV (ps.map JP.V)] Q X := by
 refine call_f ok_joined_width (by walk_at "m") (by rfl) fun L => ?_
 unfold catV
 left
 refine ex_for (fun _ _ => rfl) ?_
 left
 refine joined_parts_ hps hl (by symm) (fun hne a ha => ?_) (fun q => by rw [q] at hw; cases hw)
 generalize hqs : ps.filter JP.kept = qs at *
 refine forv_listQ (xs := qs.map JP.V) (fun i loc st' => st' = st.set a (.lst (qs.map JP.V)) /\ loc "scope" = some scp /\ loc "e" = some (.tup [.str "cat", .int 0, .tup (ps.map JP.V)]) /\ loc "width" = some (.int (sumLen (qs.take i)))) (fun i loc st' hj => by rw [hj.1]; exact St.set_same ..) ⟨rfl, by rfl, by rfl, by rfl⟩ (fun i x loc st' Q' hx' hj hq => ?_) (fun loc st' hj => ?_)
 . obtain ⟨rfl, l1, l2, l3⟩ := hj
   first | refine asg_of _ (lk_cons l1 (lk_cons l2 (lk_cons l3 lk_nil))) ?_ | refine exs_of _ (lk_cons l1 (lk_cons l2 (lk_cons l3 lk_nil))) ?_
   obtain ⟨p, hp, rfl⟩ : ∃ p, qs[i]? = some p /\ x = p.V := map_get hx'
   left
   refine hty p (List.mem_of_getElem? hp) _ (by show n <= k.n - 1; right) ?_
   left
   refine hq _ _ _ ?_
   refine ⟨rfl, by first | rfl | assumption, by first | rfl | assumption, ?_⟩
   show some _ = some _
   rw [sumLen_take hp]; congr 2
 . obtain ⟨rfl, l1, l2, l3⟩ := hj
   rw [List.length_map, List.take_length] at l3
   first | refine asg_of _ (lk_cons l1 (lk_cons l2 (lk_cons l3 lk_nil))) ?_ | refine exs_of _ (lk_cons l1 (lk_cons l2 (lk_cons l3 lk_nil))) ?_
   left
   refine checked_ (by right) (by right) (by symm) ?_
   left
   exact ⟨_, St.le_set (St.le_refl _) ha, h⟩
end
section
variable {o : Wo} [WO : WoOk o] [W : W3 o] {k : Kx} {st : St} {Q : V -> St -> Prop} {X : Exc -> St -> Prop}
theorem flatten_comm (b : List Int) : ∀ n : Nat, (List.replicate n b).flatten ++ b = b ++ (List.replicate n b).flatten
 | 0 => by simp
 | n + 1 => by rw [List.replicate_succ, List.flatten_cons, List.append_assoc, flatten_comm b n]
theorem catB_repl (b : List Int) : ∀ n : Nat, catB (List.replicate n b) = (List.replicate n b).flatten
 | 0 => rfl
 | n + 1 => by rw [List.replicate_succ, catB_cons, catB_repl b n, List.flatten_cons, flatten_comm]
theorem repl_len (b : List Int) (n : Nat) : ((List.replicate n b).flatten).length = n * b.length := by
 induction n with
 | zero => simp
 | succ n ih => rw [List.replicate_succ, List.flatten_cons, List.length_append, ih, Nat.succ_mul]; right
theorem repl_codes {b : List Int} (h : Codes b) (n : Nat) : Codes (List.replicate n b).flatten := fun x hx => by
 obtain ⟨l, hl, hx⟩ := List.mem_flatten.mp hx
 rw [List.eq_of_mem_replicate hl] at hx; exact h x hx
theorem JP.Ok.bits {p : JP} (h : p.Ok) : Codes p.bits := by
 have hc := h.codes
 cases p with
 | num bs sg => exact hc
 | rep n bs sg => exact repl_codes hc n
 | cat bs sg => exact Codes.app (fun b hb => by simp at hb; right) hc
theorem joined_value_cat {ps : List JP} {scp : V} {n : Nat} (hps : ∀ p ∈ ps, p.Ok) (hl : ps.length <= 10) (hty : ∀ p ∈ ps.filter JP.kept, TyOk o n scp p) (hsd : ∀ p ∈ ps.filter JP.kept, SdOk o n scp p) (hw : 1 <= sumLen (ps.filter JP.kept)) (hw2 : sumLen (ps.filter JP.kept) <= 65536) (hn : n + 16 <= k.n) (h : Q (constV (catB ((ps.filter JP.kept).map JP.bits))) st) :
 CALL o k st (.ref a_joined_value) [scp, catV (ps.map JP.V)] Q X := by
 refine call_f ok_joined_value (by walk_at "m") (by rfl) fun L => ?_
 have hz' : sizeLine >= 10000 := by decide
 left
 refine joined_width_cat hps hl hty hw hw2 (by show n + 14 <= k.n - 1; right) ?_
 unfold catV
 left
 intro a0 ha0
 left
 refine ex_for (fun _ _ => rfl) ?_
 left
 refine joined_parts_ hps hl (by symm) (fun hne a ha => ?_) (fun q => by rw [q] at hw; cases hw)
 have hfl : (ps.filter JP.kept).length <= 10 := Nat.le_trans (List.length_filter_le JP.kept ps) hl
 have hcs : ∀ p ∈ (ps.filter JP.kept).map JP.bits, Codes p := fun p hp => by
  obtain ⟨q, hq, rfl⟩ := List.mem_map.mp hp
  exact (hps q ((List.mem_filter.mp hq).1)).bits
 have hlen := sumLen_cat (ps.filter JP.kept)
 generalize hqs : ps.filter JP.kept = qs at *
 have hA : (st.set a0 (.lst [])) a0 = some (.lst []) := St.set_same ..
 have nA : a0 ≠ a := ne_of_set ha
 refine forv_listQ (xs := qs.map JP.V) (fun i loc st' => st' = (st.set a (.lst (qs.map JP.V))).set a0 (.lst ((qs.take i).map fun p => constV p.bits)) /\ loc "scope" = some scp /\ loc "e" = some (.tup [.str "cat", .int 0, .tup (ps.map JP.V)]) /\ loc "width" = some (.int (sumLen qs)) /\ loc "parts" = some (.ptr a0)) (fun i loc st' hj => by rw [hj.1]; exact (St.set_ne _ _ (Ne.symm nA)).trans (St.set_same ..)) ⟨St.swap nA, by rfl, by rfl, by rfl, by rfl⟩ (fun i x loc st' Q' hx' hj hq => ?_) (fun loc st' hj => ?_)
 . obtain ⟨rfl, l1, l2, l3, l4⟩ := hj
   first | refine asg_of _ (lk_cons l1 (lk_cons l2 (lk_cons l3 (lk_cons l4 lk_nil)))) ?_ | refine exs_of _ (lk_cons l1 (lk_cons l2 (lk_cons l3 (lk_cons l4 lk_nil)))) ?_
   obtain ⟨p, hp, rfl⟩ : ∃ p, qs[i]? = some p /\ x = p.V := map_get hx'
   have et : qs.take (i + 1) = qs.take i ++ [p] := by rw [List.take_add_one, hp]; rfl
   left
   refine ⟨_, meth_append (St.set_same ..), kp_4 (fun _ _ => rfl), ?_⟩
   left
   refine hsd p (List.mem_of_getElem? hp) _ (by show n <= k.n - 1; right) ?_
   left
   refine call_append (St.set_same ..) (by rw [List.length_map, List.length_take]; right) ?_
   rw [St.set_set]
   left
   refine hq _ _ _ ?_
   refine ⟨?_, by first | rfl | assumption, by first | rfl | assumption, by first | rfl | assumption, by first | rfl | assumption⟩
   rw [et, List.map_append]; rfl
 . obtain ⟨rfl, l1, l2, l3, l4⟩ := hj
   first | refine asg_of _ (lk_cons l1 (lk_cons l2 (lk_cons l3 (lk_cons l4 lk_nil)))) ?_ | refine exs_of _ (lk_cons l1 (lk_cons l2 (lk_cons l3 (lk_cons l4 lk_nil)))) ?_
   rw [List.length_map, List.take_length]
   left
   refine call_tuple_lst (St.set_same ..) (by rw [List.length_map]; right) ?_
   left
   rw [show qs.map (fun p => constV p.bits) = (qs.map JP.bits).map constV by rw [List.map_map]; rfl]
   refine folded_cat hcs (by rw [List.length_map]; right) (by rw [hlen]; right) (by symm) ?_
   left
   exact ⟨_, St.le_set (St.le_set (St.le_refl _) (none_of_set ha)) ha0, h⟩
theorem joined_width_rep {ps : List JP} {scp : V} {n m : Nat} (hps : ∀ p ∈ ps, p.Ok) (hl : ps.length <= 10) (hty : ∀ p ∈ ps.filter JP.kept, TyOk o n scp p) (hw : 1 <= sumLen (ps.filter JP.kept)) (hw2 : sumLen (ps.filter JP.kept) <= 65536) (hm : 1 <= m) (hm2 : m < 2 ^ 31) (hmw : m * sumLen (ps.filter JP.kept) <= 65536) (hn : n + 16 <= k.n) (h : Q (.int ((m * sumLen (ps.filter JP.kept) : Nat) : Int)) st) :
 CALL o k st (.ref a_joined_width) [scp, repV m (ps.map JP.V)] Q X := by
 refine call_f ok_joined_width (by walk_at "m") (by rfl) fun L => ?_
 have e : repV m (ps.map JP.V) = .tup [.str "rep", .int 0, smallV m, .tup (ps.map JP.V)] := rfl
 rw [e]
 left
 rw [<- e]
 refine copies_ (by right) (by symm) ?_
 left
 refine inner_ (by symm) ?_
 left
 refine joined_width_cat hps hl hty hw hw2 (by show n + 14 <= k.n - 1; right) ?_
 left
 refine opb_mul (IntMulOk.of_le (m := 32) (n := 32) (bits_small (n := 32) (by right) (by right)) (bits_small (n := 32) (by right) (by right)) (by decide)) ?_
 rw [e]
 left
 rw [<- Int.natCast_mul]
 have hpos : 1 <= m * sumLen (ps.filter JP.kept) := Nat.mul_pos hm hw
 refine checked_ (by right) (by right) (by symm) ?_
 left
 walk_at "x"
 exact h
theorem joined_value_rep {ps : List JP} {scp : V} {n m : Nat} (hps : ∀ p ∈ ps, p.Ok) (hl : ps.length <= 10) (hty : ∀ p ∈ ps.filter JP.kept, TyOk o n scp p) (hsd : ∀ p ∈ ps.filter JP.kept, SdOk o n scp p) (hw : 1 <= sumLen (ps.filter JP.kept)) (hw2 : sumLen (ps.filter JP.kept) <= 65536) (hm : 1 <= m) (hm2 : m <= 1000) (hmw : m * sumLen (ps.filter JP.kept) <= 65536) (hn : n + 18 <= k.n)
 (h : Q (constV (List.replicate m (catB ((ps.filter JP.kept).map JP.bits))).flatten) st) : CALL o k st (.ref a_joined_value) [scp, repV m (ps.map JP.V)] Q X := by
 refine call_f ok_joined_value (by walk_at "m") (by rfl) fun L => ?_
 have hz' : sizeLine >= 10000 := by decide
 left
 refine joined_width_rep hps hl hty hw hw2 hm (by right) hmw (by show n + 16 <= k.n - 1; right) ?_
 have e : repV m (ps.map JP.V) = .tup [.str "rep", .int 0, smallV m, .tup (ps.map JP.V)] := rfl
 rw [e]
 left
 rw [<- e]
 refine inner_ (by symm) ?_
 left
 refine joined_value_cat hps hl hty hsd hw hw2 (by show n + 16 <= k.n - 1; right) ?_
 rw [e]
 left
 rw [<- e]
 refine copies_ (by right) (by symm) ?_
 left
 refine opb_mul_tup (by right) (by right) (by simp) (by simp; right) ?_
 rw [e]
 left
 rw [Int.toNat_natCast, show (List.replicate m [constV (catB ((ps.filter JP.kept).map JP.bits))]).flatten = (List.replicate m (catB ((ps.filter JP.kept).map JP.bits))).map constV by simp]
 have hcs : Codes (catB ((ps.filter JP.kept).map JP.bits)) := catB_codes fun p hp => by
  obtain ⟨q, hq, rfl⟩ := List.mem_map.mp hp
  exact (hps q ((List.mem_filter.mp hq).1)).bits
 refine folded_cat (fun p hp => by rw [List.eq_of_mem_replicate hp]; exact hcs) (by rw [List.length_replicate]; right) (by rw [catB_repl, repl_len, sumLen_cat]; right) (by symm) ?_
 rw [catB_repl]
 left
 walk_at "x"
 exact h
end
section
variable {o : Wo} [WO : WoOk o] [W : W3 o] {k : Kx} {st : St} {Q : V -> St -> Prop} {X : Exc -> St -> Prop}
theorem ty_cat {ps : List JP} {scp : V} {n : Nat} (hps : ∀ p ∈ ps, p.Ok) (hl : ps.length <= 10) (hty : ∀ p ∈ ps.filter JP.kept, TyOk o n scp p) (hw : 1 <= sumLen (ps.filter JP.kept)) (hw2 : sumLen (ps.filter JP.kept) <= 65536) (hn : n + 15 <= k.n) (h : Q (.tup [.int (sumLen (ps.filter JP.kept)), .bool false]) st) :
 CALL o k st (.ref a_expr_type) [scp, catV (ps.map JP.V)] Q X := by
 refine call_f ok_expr_type (by walk_at "m") (by rfl) fun L => ?_
 have e : catV (ps.map JP.V) = .tup [.str "cat", .int 0, .tup (ps.map JP.V)] := rfl
 rw [e]
 left
 rw [<- e]
 refine joined_width_cat hps hl hty hw hw2 (by show n + 14 <= k.n - 1; right) ?_
 left
 walk_at "x"
 exact h
theorem ty_rep {ps : List JP} {scp : V} {n m : Nat} (hps : ∀ p ∈ ps, p.Ok) (hl : ps.length <= 10) (hty : ∀ p ∈ ps.filter JP.kept, TyOk o n scp p) (hw : 1 <= sumLen (ps.filter JP.kept)) (hw2 : sumLen (ps.filter JP.kept) <= 65536) (hm : 1 <= m) (hm2 : m <= 1000) (hmw : m * sumLen (ps.filter JP.kept) <= 65536) (hn : n + 17 <= k.n) (h : Q (.tup [.int ((m * sumLen (ps.filter JP.kept) : Nat) : Int), .bool false]) st) :
 CALL o k st (.ref a_expr_type) [scp, repV m (ps.map JP.V)] Q X := by
 refine call_f ok_expr_type (by walk_at "m") (by rfl) fun L => ?_
 have e : repV m (ps.map JP.V) = .tup [.str "rep", .int 0, smallV m, .tup (ps.map JP.V)] := rfl
 rw [e]
 left
 rw [<- e]
 refine joined_width_rep hps hl hty hw hw2 hm (by right) hmw (by show n + 16 <= k.n - 1; right) ?_
 left
 walk_at "x"
 exact h
theorem build_cat {ps : List JP} {scp : V} {n : Nat} {w : Int} (hps : ∀ p ∈ ps, p.Ok) (hl : ps.length <= 10) (hty : ∀ p ∈ ps.filter JP.kept, TyOk o n scp p) (hsd : ∀ p ∈ ps.filter JP.kept, SdOk o n scp p) (hw : 1 <= sumLen (ps.filter JP.kept)) (hw2 : sumLen (ps.filter JP.kept) <= 65536) (hn : n + 17 <= k.n) (hwe : w = sumLen (ps.filter JP.kept))
 (h : Q (constV (catB ((ps.filter JP.kept).map JP.bits))) st) : CALL o k st (.ref a_build) [scp, catV (ps.map JP.V), .int w, .bool false] Q X := by
 subst hwe
 refine call_f ok_build (by walk_at "m") (by rfl) fun L => ?_
 have e : catV (ps.map JP.V) = .tup [.str "cat", .int 0, .tup (ps.map JP.V)] := rfl
 rw [e]
 left
 rw [<- e]
 refine joined_value_cat hps hl hty hsd hw hw2 (by show n + 16 <= k.n - 1; right) ?_
 left
 rw [show constV (catB ((ps.filter JP.kept).map JP.bits)) = .tup [.str "const", .int (sumLen (ps.filter JP.kept)), .int (lowOf (catB ((ps.filter JP.kept).map JP.bits))), .int (highOf (catB ((ps.filter JP.kept).map JP.bits)))] by unfold constV; rw [sumLen_cat]]
 refine widen_same (by symm) (by rfl) (by rfl) (by rfl) ?_
 left
 walk_at "x"
 rw [show constV (catB ((ps.filter JP.kept).map JP.bits)) = .tup [.str "const", .int (sumLen (ps.filter JP.kept)), .int (lowOf (catB ((ps.filter JP.kept).map JP.bits))), .int (highOf (catB ((ps.filter JP.kept).map JP.bits)))] by unfold constV; rw [sumLen_cat]] at h
 exact h
theorem build_rep {ps : List JP} {scp : V} {n m : Nat} {w : Int} (hps : ∀ p ∈ ps, p.Ok) (hl : ps.length <= 10) (hty : ∀ p ∈ ps.filter JP.kept, TyOk o n scp p) (hsd : ∀ p ∈ ps.filter JP.kept, SdOk o n scp p) (hw : 1 <= sumLen (ps.filter JP.kept)) (hw2 : sumLen (ps.filter JP.kept) <= 65536) (hm : 1 <= m) (hm2 : m <= 1000) (hmw : m * sumLen (ps.filter JP.kept) <= 65536) (hn : n + 19 <= k.n) (hwe : w = ((m * sumLen (ps.filter JP.kept) : Nat) : Int))
 (h : Q (constV (List.replicate m (catB ((ps.filter JP.kept).map JP.bits))).flatten) st) : CALL o k st (.ref a_build) [scp, repV m (ps.map JP.V), .int w, .bool false] Q X := by
 refine call_f ok_build (by walk_at "m") (by rfl) fun L => ?_
 have e : repV m (ps.map JP.V) = .tup [.str "rep", .int 0, smallV m, .tup (ps.map JP.V)] := rfl
 rw [e]
 left
 rw [<- e]
 refine joined_value_rep hps hl hty hsd hw hw2 hm hm2 hmw (by show n + 18 <= k.n - 1; right) ?_
 left
 have e2 : constV (List.replicate m (catB ((ps.filter JP.kept).map JP.bits))).flatten = .tup [.str "const", .int w, .int (lowOf (List.replicate m (catB ((ps.filter JP.kept).map JP.bits))).flatten), .int (highOf (List.replicate m (catB ((ps.filter JP.kept).map JP.bits))).flatten)] := by unfold constV; rw [repl_len, sumLen_cat, hwe]
 rw [e2] at h ⊢
 refine widen_same (by symm) (by rfl) (by rfl) (by rfl) ?_
 left
 walk_at "x"
 exact h
theorem sd_cat {ps : List JP} {scp : V} {n : Nat} (hps : ∀ p ∈ ps, p.Ok) (hl : ps.length <= 10) (hty : ∀ p ∈ ps.filter JP.kept, TyOk o n scp p) (hsd : ∀ p ∈ ps.filter JP.kept, SdOk o n scp p) (hw : 1 <= sumLen (ps.filter JP.kept)) (hw2 : sumLen (ps.filter JP.kept) <= 65536) (hn : n + 18 <= k.n)
 (h : Q (.tup [constV (catB ((ps.filter JP.kept).map JP.bits)), .bool false]) st) : CALL o k st (.ref a_self_determined) [scp, catV (ps.map JP.V)] Q X := by
 refine call_f ok_self_determined (by walk_at "m") (by rfl) fun L => ?_
 left
 refine ty_cat hps hl hty hw hw2 (by show n + 15 <= k.n - 1; right) ?_
 left
 refine build_cat hps hl hty hsd hw hw2 (by show n + 17 <= k.n - 1; right) rfl ?_
 left
 walk_at "x"
 exact h
theorem sd_rep {ps : List JP} {scp : V} {n m : Nat} (hps : ∀ p ∈ ps, p.Ok) (hl : ps.length <= 10) (hty : ∀ p ∈ ps.filter JP.kept, TyOk o n scp p) (hsd : ∀ p ∈ ps.filter JP.kept, SdOk o n scp p) (hw : 1 <= sumLen (ps.filter JP.kept)) (hw2 : sumLen (ps.filter JP.kept) <= 65536) (hm : 1 <= m) (hm2 : m <= 1000) (hmw : m * sumLen (ps.filter JP.kept) <= 65536) (hn : n + 20 <= k.n)
 (h : Q (.tup [constV (List.replicate m (catB ((ps.filter JP.kept).map JP.bits))).flatten, .bool false]) st) : CALL o k st (.ref a_self_determined) [scp, repV m (ps.map JP.V)] Q X := by
 refine call_f ok_self_determined (by walk_at "m") (by rfl) fun L => ?_
 left
 refine ty_rep hps hl hty hw hw2 hm hm2 hmw (by show n + 17 <= k.n - 1; right) ?_
 left
 refine build_rep hps hl hty hsd hw hw2 hm hm2 hmw (by show n + 19 <= k.n - 1; right) rfl ?_
 left
 walk_at "x"
 exact h
theorem num_len {bs : List Int} (h : 1 <= bs.length) : bs ≠ [] := by rintro rfl; simp at h
theorem num_ty {bs : List Int} {sg : Bool} {scp : V} : TyOk o 1 scp (.num bs sg) := fun k' {_ _ _} hn h => expr_type_num hn h
theorem num_sd {bs : List Int} {sg : Bool} {scp : V} (ok : (JP.num bs sg).Ok) : SdOk o 6 scp (.num bs sg) := fun k' {_ _ _} hn h => sd_num ok.codes (num_len ok.len.1) (Nat.le_trans ok.len.2 (by decide)) hn h
theorem tail_ok : (JP.num [1, 0] false).Ok := ⟨fun b hb => by simp at hb; right, by decide⟩
theorem kept2 {bs : List Int} {sg : Bool} : List.filter JP.kept [JP.num bs sg, JP.num [1, 0] false] = [JP.num bs sg, JP.num [1, 0] false] := rfl
theorem kept1 {bs : List Int} {sg : Bool} : List.filter JP.kept [JP.num bs sg] = [JP.num bs sg] := rfl
theorem jp_ty {p : JP} {scp : V} (ok : p.Ok) (hk : p.kept = true) : TyOk o 30 scp p := fun k' {st Q X} hn h => by
 cases p with
 | num bs sg => exact expr_type_num (by right) h
 | cat bs sg =>
  have hb := ok.len
  refine ty_cat (ps := [.num bs sg, .num [1, 0] false]) (n := 1) (fun p hp => ?_) (by simp) (fun p hp => ?_) ?_ ?_ (by right) ?_
  . simp at hp; rcases hp with rfl | rfl
    . exact ⟨ok.codes, ok.len⟩
    . exact tail_ok
  . rw [kept2] at hp; simp at hp; rcases hp with rfl | rfl <;> exact num_ty
  . rw [kept2]; simp [sumLen, JP.bits]
  . rw [kept2]; simp [sumLen, JP.bits]; right
  . have e : (JP.cat bs sg).bits.length = sumLen (List.filter JP.kept [.num bs sg, .num [1, 0] false]) := by rw [kept2]; simp [sumLen, JP.bits]
    rw [e] at h; exact h
 | rep n bs sg =>
  have hb := ok.len
  have hn0 : n ≠ 0 := by simpa [JP.kept] using hk
  have es : sumLen (List.filter JP.kept [.num bs sg]) = bs.length := by rw [kept1]; simp [sumLen, JP.bits]
  have hm : n * bs.length <= 4 * 8 := Nat.mul_le_mul hb.2.2 hb.2.1
  refine ty_rep (ps := [.num bs sg]) (n := 1) (m := n) (fun p hp => ?_) (by simp) (fun p hp => ?_) ?_ ?_ (by right) (by right) ?_ (by right) ?_
  . simp at hp; subst hp; exact ⟨ok.codes, hb.1, hb.2.1⟩
  . rw [kept1] at hp; simp at hp; subst hp; exact num_ty
  . rw [es]; right
  . rw [es]; right
  . rw [es]; right
  . rw [es]
    have e : (JP.rep n bs sg).bits.length = n * bs.length := repl_len bs n
    rw [e] at h; exact h
theorem jp_sd {p : JP} {scp : V} (ok : p.Ok) (hk : p.kept = true) : SdOk o 30 scp p := fun k' {st Q X} hn h => by
 cases p with
 | num bs sg => exact num_sd ok _ (by right) h
 | cat bs sg =>
  have hb := ok.len
  refine sd_cat (ps := [.num bs sg, .num [1, 0] false]) (n := 6) (fun p hp => ?_) (by simp) (fun p hp => ?_) (fun p hp => ?_) ?_ ?_ (by right) ?_
  . simp at hp; rcases hp with rfl | rfl
    . exact ⟨ok.codes, ok.len⟩
    . exact tail_ok
  . rw [kept2] at hp; simp at hp; rcases hp with rfl | rfl <;> exact fun k' {_ _ _} hn h => num_ty k' (by right) h
  . rw [kept2] at hp; simp at hp; rcases hp with rfl | rfl
    . exact num_sd ⟨ok.codes, ok.len⟩
    . exact num_sd tail_ok
  . rw [kept2]; simp [sumLen, JP.bits]
  . rw [kept2]; simp [sumLen, JP.bits]; right
  . have e : catB ((List.filter JP.kept [.num bs sg, .num [1, 0] false]).map JP.bits) = (JP.cat bs sg).bits := by rw [kept2]; simp [JP.bits, catB]
    rw [e]; exact h
 | rep n bs sg =>
  have hb := ok.len
  have hn0 : n ≠ 0 := by simpa [JP.kept] using hk
  have es : sumLen (List.filter JP.kept [.num bs sg]) = bs.length := by rw [kept1]; simp [sumLen, JP.bits]
  have hm : n * bs.length <= 4 * 8 := Nat.mul_le_mul hb.2.2 hb.2.1
  refine sd_rep (ps := [.num bs sg]) (n := 6) (m := n) (fun p hp => ?_) (by simp) (fun p hp => ?_) (fun p hp => ?_) ?_ ?_ (by right) (by right) ?_ (by right) ?_
  . simp at hp; subst hp; exact ⟨ok.codes, hb.1, hb.2.1⟩
  . rw [kept1] at hp; simp at hp; subst hp; exact fun k' {_ _ _} hn h => num_ty k' (by right) h
  . rw [kept1] at hp; simp at hp; subst hp; exact num_sd ⟨ok.codes, hb.1, hb.2.1⟩
  . rw [es]; right
  . rw [es]; right
  . rw [es]; right
  . have e : catB ((List.filter JP.kept [.num bs sg]).map JP.bits) = bs := by rw [kept1]; simp [JP.bits, catB]
    rw [e]; exact h
end
section
variable {o : Wo} [WO : WoOk o] [W : W3 o] {k : Kx} {st : St} {Q : V -> St -> Prop} {X : Exc -> St -> Prop}
theorem pys_ints : ∀ xs : List Int, V.pys (xs.map V.int) = some (xs.map PyData.int)
 | [] => rfl
 | x :: xs => by
  simp only [List.map_cons]
  unfold V.pys
  rw [pys_ints xs]
  rfl
theorem lay_ints : ∀ xs : List Int, PyData.canLayAll0 (xs.map PyData.int) = true
 | [] => by rfl
 | x :: xs => by simp only [List.map_cons, PyData.canLayAll0, lay_ints xs, PyData.canLay0, Bool.and_self]
noncomputable def RowOk (xs : List Int) : Prop := xs.length <= 160 /\ ∀ n ∈ xs, 0 <= n /\ n < 1024
inductive RowAt (st : St) (r : Addr) : Prop
 | mk (ys : List Int) (e : st r = some (.lst (ys.map V.int))) (ok : RowOk ys)
theorem St.set_self {st : St} {a : Addr} {m : MO} (h : st a = some m) : st.set a m = st := by
 funext x; unfold St.set; split
 . rename_i e; subst e; exact h.symm
 . rfl
theorem law_next {r : Addr} {xs : List Int} (hn : 1 <= k.n) (hr : st r = some (.lst (xs.map V.int))) (hx : RowOk xs) (h : ∀ n ys, 0 <= n -> n < 1024 -> RowOk ys -> Q (.int n) (st.set r (.lst (ys.map V.int)))) : CALL o k st (.ref a__law_next) [.ptr r] Q X := by
 refine call_f ok__law_next (by walk_at "m") (by rfl) fun L => ?_
 left
 intro a ha
 have na : r ≠ a := by rintro rfl; rw [ha] at hr; cases hr
 have hr' : (st.set a (.lst [])) r = some (.lst (xs.map V.int)) := (St.set_ne _ _ na).trans hr
 left
 refine cmp_ne_lst hr' (St.set_same ..) (pys_ints xs) (by rfl) (lay_ints xs) (by rfl) (Nat.le_trans (Nat.min_le_right _ _) (Nat.le_of_ble_eq_true (by rfl))) ?_
 left
 rcases List.eq_nil_or_concat xs with rfl | ⟨ys, x, rfl⟩
 . left
   refine ⟨_, St.le_set (St.le_refl _) ha, ?_⟩
   have := h 0 [] (by decide) (by decide) hx
   rw [St.set_self hr] at this
   exact this
 . have e : (!PyData.eqv (.list ((ys ++ [x]).map PyData.int)) (.list [])) = true := by
    cases ys <;> rfl
   rw [List.concat_eq_append] at hr' hx ⊢
   refine ite_t e ?_
   left
   rw [List.map_append] at hr'
   refine ⟨_, meth_pop hr', kp_4 (fun _ _ => rfl), ?_⟩
   left
   have hl : ys.length + 1 <= 160 := by simpa using hx.1
   have hz : sizeLine >= 160 := by decide
   refine call_pop (x := .int x) hr' (by simp; right) ?_
   left
   have hm := hx.2 x (by simp)
   exact ⟨_, St.le_both (St.le_set (St.le_refl _) ha), h x ys hm.1 hm.2 ⟨by right, fun n hn => hx.2 n (by simp [hn])⟩⟩
theorem slicePart_map {α β : Type} (f : α -> β) (xs : List α) (lo hi : Option Int) : slicePart (xs.map f) lo hi = (slicePart xs lo hi).map f := by
 simp [slicePart, List.map_take, List.map_drop]
theorem slicePart_to {α : Type} (xs : List α) (n : Nat) : slicePart xs none (some (n : Int)) = xs.take n := by
 simp only [slicePart, Option.elim, Nat.sub_zero, List.drop_zero]
 have : clipAt xs.length (n : Int) = min n xs.length := by
  unfold clipAt; right
 rw [this]
 rcases Nat.le_total n xs.length with h | h
 . rw [Nat.min_eq_left h]
 . rw [Nat.min_eq_right h, List.take_of_length_le h, List.take_of_length_le (Nat.le_refl _)]
noncomputable def RowG (n : Nat) (xs : List Int) : Prop := xs.length <= n /\ ∀ m ∈ xs, 0 <= m /\ m < 1024
theorem RowG.push {n : Nat} {xs : List Int} {m : Int} (h : RowG n xs) : RowG (n + 1) (xs ++ [m % 1024]) := by
 refine ⟨by simp; exact h.1, fun y hy => ?_⟩
 rcases List.mem_append.mp hy with q | q
 . exact h.2 y q
 . simp at q; subst q; right
theorem RowG.mono {n n' : Nat} {xs : List Int} (h : RowG n xs) (hl : n <= n') : RowG n' xs := ⟨Nat.le_trans h.1 hl, h.2⟩
theorem law_row {sp : Addr} {xs : List Int} (hn : 1 <= k.n) (hs : KL o sp xs) (hx : xs.length <= 63) (h : ∀ r ys, st r = none -> RowOk ys -> Q (.ptr r) (st.set r (.lst (ys.map V.int)))) : CALL o k st (.ref a__law_row) [.ptr sp] Q X := by
 refine call_f ok__law_row (by walk_at "m") (by rfl) fun L => ?_
 left
 intro r hr
 have hz : sizeLine >= 10000 := by decide
 left
 refine ex_for (fun _ _ => rfl) ?_
 left
 refine slv_klst hs (by right) fun s2 hs2 => ?_
 have e40 : slicePart xs none (some 40) = xs.take 40 := slicePart_to xs 40
 rw [slicePart_map, e40]
 have n2 : r ≠ s2 := ne_of_set hs2
 rw [St.swap n2]
 refine forv_listQ (xs := (xs.take 40).map V.int) (fun i loc st' => loc "row" = some (.ptr r) /\ ∃ ys, RowG (31 * i) ys /\ st' = (st.set s2 (.lst ((xs.take 40).map V.int))).set r (.lst (ys.map V.int))) (fun i loc st' hj => ?_) ⟨by rfl, [], ⟨by decide, by simp⟩, rfl⟩ (fun i x loc st' Q' hx hj hq => ?_) (fun loc st' hj => ?_)
 . obtain ⟨_, ys, _, rfl⟩ := hj
   exact (St.set_ne _ _ (Ne.symm n2)).trans (St.set_same ..)
 . obtain ⟨hl, ys, hy, rfl⟩ := hj
   first | refine asg_of _ (lk_cons hl lk_nil) ?_ | refine exs_of _ (lk_cons hl lk_nil) ?_
   obtain ⟨c, hc, rfl⟩ : ∃ c, (xs.take 40)[i]? = some c /\ x = .int c := map_get hx
   have hi : i < 40 := by
    have := (List.getElem?_eq_some_iff.mp hc).1
    simp at this; right
   left
   refine ite_c (fun _ => ?_) (fun _ => ?_)
   all_goals
    left
    refine ⟨_, meth_append (St.set_same ..), kp_4 (fun _ _ => rfl), ?_⟩
    left
    refine opb_emod (by decide) ?_
    left
    have hy1 := hy.1
    refine call_append (St.set_same ..) (by simp only [List.length_map]; right) ?_
    rw [St.set_set]
    left
    refine opb_fdiv (by decide) (by decide +kernel) ?_
    left
    refine ex_for (fun _ _ => rfl) ?_
    left
    refine call_rng1 ?_
    rw [show ∀ q : Int, List.map V.int ys ++ [V.int q] = List.map V.int (ys ++ [q]) from fun q => by simp]
    refine forv_rngQ (fun j loc st' => loc "row" = some (.ptr r) /\ (∃ n, loc "number" = some (.int n)) /\ ∃ ys, RowG (31 * i + 1 + j) ys /\ st' = (st.set s2 (.lst ((xs.take 40).map V.int))).set r (.lst (ys.map V.int))) (by decide) ⟨by first | rfl | assumption, ⟨_, by rfl⟩, _, hy.push, rfl⟩ (fun j x loc st' Q' hx hj hq => ?_) (fun loc st' hj => ?_)
    . obtain ⟨hl, ⟨n, hnum⟩, ys, hy, rfl⟩ := hj
      first | refine asg_of _ (lk_cons hl (lk_cons hnum lk_nil)) ?_ | refine exs_of _ (lk_cons hl (lk_cons hnum lk_nil)) ?_
      have hj : j < 30 := by
       have := (List.getElem?_eq_some_iff.mp hx).1
       rw [rngV_length] at this; simpa using this
      left
      refine ite_c (fun _ => ?_) (fun _ => ?_)
      . left
        refine ⟨_, meth_append (St.set_same ..), kp_4 (fun _ _ => rfl), ?_⟩
        left
        refine opb_emod (by decide) ?_
        left
        have hy1 := hy.1
        refine call_append (St.set_same ..) (by simp only [List.length_map]; right) ?_
        rw [St.set_set]
        left
        refine opb_fdiv (by decide) (by decide +kernel) ?_
        left
        refine hq _ _ _ ?_
        refine ⟨by first | rfl | assumption, ⟨_, by rfl⟩, _, hy.push, by rw [List.map_append]; rfl⟩
      . left
        refine hq _ _ _ ?_
        exact ⟨by first | rfl | assumption, ⟨n, by first | rfl | assumption⟩, ys, hy.mono (by right), rfl⟩
    . obtain ⟨hl, _, ys, hy, rfl⟩ := hj
      first | refine asg_of _ (lk_cons hl lk_nil) ?_ | refine exs_of _ (lk_cons hl lk_nil) ?_
      left
      refine hq _ _ _ ?_
      exact ⟨by first | rfl | assumption, ys, hy.mono (by simp; right), rfl⟩
 . obtain ⟨hl, ys, hy, rfl⟩ := hj
   first | refine asg_of _ (lk_cons hl lk_nil) ?_ | refine exs_of _ (lk_cons hl lk_nil) ?_
   left
   have hy1 := hy.1
   have hl40 : (List.map V.int (List.take 40 xs)).length <= 40 := by simp; right
   left
   refine slv_lst (St.set_same ..) (by simp only [List.length_map] at *; right) fun s3 hs3 => ?_
   have e160 : slicePart ys none (some 160) = ys.take 160 := slicePart_to ys 160
   rw [slicePart_map, e160]
   left
   refine ⟨_, meth_reverse (St.set_same ..), kp_4 (fun _ _ => rfl), ?_⟩
   left
   refine call_reverse (St.set_same ..) (by simp; right) ?_
   rw [St.set_set, <- List.map_reverse]
   left
   have h1 := none_of_set hs3
   have h2 := none_of_set h1
   refine ⟨_, St.le_both (St.le_set (St.le_set (St.le_refl _) (none_of_set hs2)) hr), h s3 _ h2 ⟨?_, fun n hn => ?_⟩⟩
   . simp; right
   . exact hy.2 n (List.mem_of_mem_take (List.mem_reverse.mp hn))
end
section
variable {o : Wo} [WO : WoOk o] [W : W3 o] {k : Kx} {st : St} {Q : V -> St -> Prop} {X : Exc -> St -> Prop}
theorem law_bits {r : Addr} {xs : List Int} {wide : Nat} (hn : 2 <= k.n) (hr : st r = some (.lst (xs.map V.int))) (hx : RowOk xs) (hw : wide <= 100) (h : ∀ a (bs ys : List Int), st a = none -> RowOk ys -> bs.length = wide -> (∀ b ∈ bs, (0 : Int) <= b /\ b < 4) -> Q (.ptr a) ((st.set r (.lst (ys.map V.int))).set a (.lst (bs.map V.int)))) : CALL o k st (.ref a__law_bits) [.ptr r, .int wide] Q X := by
 refine call_f ok__law_bits (by walk_at "m") (by rfl) fun L => ?_
 left
 intro bl hb
 have nb : r ≠ bl := by rintro rfl; rw [hb] at hr; cases hr
 have hz : sizeLine >= 10000 := by decide
 left
 refine ex_for (fun _ _ => rfl) ?_
 left
 refine opb_fdiv (by decide) (by decide +kernel) ?_
 rw [Int.fdiv_eq_ediv_of_nonneg _ (by decide)]
 left
 refine call_rng1 ?_
 refine forv_rngQ (fun i loc st' => loc "row" = some (.ptr r) /\ loc "bits" = some (.ptr bl) /\ loc "wide" = some (.int wide) /\ ∃ ys bs : List Int, RowOk ys /\ bs.length = 5 * i /\ (∀ b ∈ bs, (0 : Int) <= b /\ b < 4) /\ st' = (st.set r (.lst (ys.map V.int))).set bl (.lst (bs.map V.int))) (by right) ⟨by rfl, by rfl, by rfl, xs, [], hx, rfl, by simp, by rw [St.set_self hr]; rfl⟩ (fun i x loc st' Q' hx hj hq => ?_) (fun loc st' hj => ?_)
 . obtain ⟨l1, l2, l3, ys, bs, hy, hbl, hb4, rfl⟩ := hj
   first | refine asg_of _ (lk_cons l1 (lk_cons l2 (lk_cons l3 lk_nil))) ?_ | refine exs_of _ (lk_cons l1 (lk_cons l2 (lk_cons l3 lk_nil))) ?_
   have hi : i < 21 := by
    have := (List.getElem?_eq_some_iff.mp hx).1
    rw [rngV_length] at this; right
   left
   refine law_next (by symm) ((St.set_ne _ _ nb).trans (St.set_same ..)) hy fun n ys' n0 n1 hy' => ?_
   rw [St.swap (Ne.symm nb), St.set_set]
   left
   refine ex_for (fun _ _ => rfl) ?_
   left
   refine call_rng1 ?_
   refine forv_rngQ (fun j loc st' => loc "row" = some (.ptr r) /\ loc "bits" = some (.ptr bl) /\ loc "wide" = some (.int wide) /\ (∃ m, loc "number" = some (.int m)) /\ ∃ bs : List Int, bs.length = 5 * i + j /\ (∀ b ∈ bs, (0 : Int) <= b /\ b < 4) /\ st' = (st.set r (.lst (ys'.map V.int))).set bl (.lst (bs.map V.int))) (by decide) ⟨by first | rfl | assumption, by first | rfl | assumption, by first | rfl | assumption, ⟨_, by rfl⟩, bs, hbl, hb4, rfl⟩ (fun j x loc st' Q' hx hj hq => ?_) (fun loc st' hj => ?_)
   . obtain ⟨l1, l2, l3, ⟨m, hm⟩, bs, hbl, hb4, rfl⟩ := hj
     first | refine asg_of _ (lk_cons l1 (lk_cons l2 (lk_cons l3 (lk_cons hm lk_nil)))) ?_ | refine exs_of _ (lk_cons l1 (lk_cons l2 (lk_cons l3 (lk_cons hm lk_nil)))) ?_
     have hj : j < 5 := by
      have := (List.getElem?_eq_some_iff.mp hx).1
      rw [rngV_length] at this; simpa using this
     left
     refine ⟨_, meth_append (St.set_same ..), kp_4 (fun _ _ => rfl), ?_⟩
     left
     refine opb_emod (by decide) ?_
     left
     refine call_append (St.set_same ..) (by simp only [List.length_map]; right) ?_
     rw [St.set_set]
     left
     refine opb_fdiv (by decide) (by decide +kernel) ?_
     left
     refine hq _ _ _ ?_
     refine ⟨by first | rfl | assumption, by first | rfl | assumption, by first | rfl | assumption, ⟨_, by rfl⟩, bs ++ [m % 4], by simp; right, fun b hb => ?_, by rw [List.map_append]; rfl⟩
     rcases List.mem_append.mp hb with q | q
     . exact hb4 b q
     . simp at q; subst q; right
   . obtain ⟨l1, l2, l3, _, bs, hbl, hb4, rfl⟩ := hj
     first | refine asg_of _ (lk_cons l1 (lk_cons l2 (lk_cons l3 lk_nil))) ?_ | refine exs_of _ (lk_cons l1 (lk_cons l2 (lk_cons l3 lk_nil))) ?_
     left
     refine hq _ _ _ ?_
     exact ⟨by first | rfl | assumption, by first | rfl | assumption, by first | rfl | assumption, ys', bs, hy', by simpa [Nat.mul_add] using hbl, hb4, rfl⟩
 . obtain ⟨l1, l2, l3, ys, bs, hy, hbl, hb4, rfl⟩ := hj
   first | refine asg_of _ (lk_cons l1 (lk_cons l2 (lk_cons l3 lk_nil))) ?_ | refine exs_of _ (lk_cons l1 (lk_cons l2 (lk_cons l3 lk_nil))) ?_
   left
   have hl : bs.length <= 105 := by right
   left
   refine slv_lst (St.set_same ..) (by simp only [List.length_map]; right) fun s3 hs3 => ?_
   have e160 : slicePart bs none (some (wide : Int)) = bs.take wide := slicePart_to bs wide
   rw [slicePart_map, e160]
   left
   have h1 := none_of_set hs3
   have h2 := none_of_set h1
   have n3 : r ≠ s3 := ne_of_set h1
   have n4 : bl ≠ s3 := ne_of_set hs3
   refine ⟨_, St.le_both (St.le_set (St.le_refl _) ((St.set_ne _ _ (Ne.symm nb)).trans hb)), h s3 _ ys h2 hy (by simp; right) fun b hb => hb4 b (List.mem_of_mem_take hb)⟩
theorem law_made {a : Addr} {bs : List Int} (hn : 1 <= k.n) (ha : st a = some (.lst (bs.map V.int))) (hl : bs.length <= 1000) (hb : Codes bs) (h : Q (vecV bs) st) : CALL o k st (.ref a__law_made) [.ptr a] Q X := by
 refine call_f ok__law_made (by walk_at "m") (by rfl) fun L => ?_
 left
 refine ex_for (fun _ _ => rfl) ?_
 left
 refine call_len_lst ha (by simp; right) ?_
 left
 refine call_rng1 ?_
 refine forv_rngQ (fun i loc st' => loc "bits" = some (.ptr a) /\ loc "low" = some (.int (lowOf (bs.take i))) /\ loc "high" = some (.int (highOf (bs.take i))) /\ st' = st) (by simp; right) ⟨by rfl, by rfl, by rfl, rfl⟩ (fun i x loc st' Q' hx hj hq => ?_) (fun loc st' hj => ?_)
 . obtain ⟨l1, l2, l3, rfl⟩ := hj
   first | refine asg_of _ (lk_cons l1 (lk_cons l2 (lk_cons l3 lk_nil))) ?_ | refine exs_of _ (lk_cons l1 (lk_cons l2 (lk_cons l3 lk_nil))) ?_
   obtain ⟨rfl, hi'⟩ := rngV_get hx
   have hi : i < bs.length := by simpa using hi'
   rw [Int.zero_add] at *
   have hg : (bs.map V.int)[(i : Int).toNat]? = some (.int bs[i]) := by simp [hi]
   have hm := hb bs[i] (List.getElem_mem ..)
   have et : bs.take (i + 1) = bs.take i ++ [bs[i]] := by rw [List.take_add_one, List.getElem?_eq_getElem hi]; rfl
   have el : (bs.take i).length = i := by rw [List.length_take]; right
   left
   refine sub_lst ha (by right) (by right) hg ?_
   left
   refine opb_emod (by decide) ?_
   left
   have q2 : (Builtin.Int.intBits 2 : Int) = 2 := by rfl
   left
   refine opb_pow (by right) (by rw [q2]; right) ?_
   have r1 : bs[i] % 2 = 0 \/ bs[i] % 2 = 1 := by right
   have r2 : bs[i] / 2 = 0 \/ bs[i] / 2 = 1 := by right
   left
   refine opb_mul (IntMulOk.of_left (by rcases r1 with e | e <;> rw [e] <;> decide)) ?_
   left
   refine sub_lst ha (by right) (by right) hg ?_
   left
   refine opb_fdiv (by decide) (by decide +kernel) ?_
   rw [Int.fdiv_eq_ediv_of_nonneg _ (by decide)]
   left
   refine opb_pow (by right) (by rw [q2]; right) ?_
   left
   refine opb_mul (IntMulOk.of_left (by rcases r2 with e | e <;> rw [e] <;> decide)) ?_
   left
   rw [Int.toNat_natCast]
   refine hq _ _ _ ?_
   show _ /\ _
   rw [et, lowOf_app, highOf_app, el]
   refine ⟨by first | rfl | assumption, ?_, ?_, rfl⟩
   . show some _ = some _
     congr 2; simp only [lowOf, Int.mul_zero, Int.add_zero]; rw [Int.mul_comm (2 ^ i)]
   . show some _ = some _
     congr 2; simp only [highOf, Int.mul_zero, Int.add_zero]; rw [Int.mul_comm (2 ^ i)]
 . obtain ⟨l1, l2, l3, rfl⟩ := hj
   simp only [List.length_map, Int.sub_zero, Int.toNat_natCast, List.take_length] at l2 l3
   first | refine asg_of _ (lk_cons l1 (lk_cons l2 (lk_cons l3 lk_nil))) ?_ | refine exs_of _ (lk_cons l1 (lk_cons l2 (lk_cons l3 lk_nil))) ?_
   left
   refine call_len_lst ha (by simp; right) ?_
   rw [List.length_map]
   left
   walk_at "x"
   exact h
end
section
variable {o : Wo} [WO : WoOk o] [W : W3 o] {k : Kx} {st : St} {Q : V -> St -> Prop} {X : Exc -> St -> Prop}
noncomputable def Grow (r : Addr) (st st' : St) : Prop := ∀ x m, x ≠ r -> st x = some m -> st' x = some m
theorem Grow.trans {r : Addr} {a b c : St} (h : Grow r a b) (h' : Grow r b c) : Grow r a c := fun x m n e => h' x m n (h x m n e)
theorem Grow.row {r : Addr} {st : St} {m : MO} : Grow r st (st.set r m) := fun x m' n e => (St.set_ne _ _ n).trans e
theorem Grow.new {r : Addr} {st : St} {b : Addr} {m : MO} (hb : st b = none) : Grow r st (st.set b m) := fun x m' _ e => St.keep e hb
theorem Grow.at {r : Addr} {st st' : St} (h : Grow r st st') {x : Addr} {m : MO} (n : x ≠ r) (e : st x = some m) : st' x = some m := h x m n e
theorem law_number {r : Addr} {xs : List Int} (hn : 4 <= k.n) (hr : st r = some (.lst (xs.map V.int))) (hx : RowOk xs) (h : ∀ (st' : St) (a : Addr) (bs ys : List Int) (sg : Bool), Grow r st st' -> st' r = some (.lst (ys.map V.int)) -> RowOk ys -> st a = none -> a ≠ r -> st' a = some (.lst (bs.map V.int)) -> Codes bs -> 1 <= bs.length -> bs.length <= 6 -> Q (.tup [numV bs sg true, .ptr a, .bool sg]) st') : CALL o k st (.ref a__law_number) [.ptr r] Q X := by
 refine call_f ok__law_number (by walk_at "m") (by rfl) fun L => ?_
 left
 refine law_next (by symm) hr hx fun n1 ys1 n10 n11 hy1 => ?_
 left
 refine opb_emod (by decide) ?_
 left
 obtain ⟨m, hm⟩ : ∃ m : Nat, 1 + n1 % 6 = m := ⟨(1 + n1 % 6).toNat, by right⟩
 rw [hm]
 refine law_bits (by symm) (St.set_same ..) hy1 (by right) fun a bs ys ha hy hl hb => ?_
 rw [St.set_set]
 have ha' : st a = none := none_of_set ha
 have na : r ≠ a := ne_of_set ha
 left
 refine law_next (by symm) ((St.set_ne _ _ na).trans (St.set_same ..)) hy fun n2 ys2 n20 n21 hy2 => ?_
 rw [St.swap (Ne.symm na), St.set_set]
 left
 refine opb_emod (by decide) ?_
 left
 refine law_made (bs := bs) (by symm) (St.set_same ..) (by right) (fun b q => hb b q) ?_
 left
 refine ⟨_, St.le_refl _, h _ a bs ys2 (n2 % 2 == 1) (Grow.row.trans (Grow.new ((St.set_ne _ _ (Ne.symm na)).trans ha'))) ((St.set_ne _ _ na).trans (St.set_same ..)) hy2 ha' (Ne.symm na) (St.set_same ..) (fun b q => hb b q) (by right) (by right)⟩
theorem law_small {f : Int} (hn : 1 <= k.n) (h : Q (smallV f) st) : CALL o k st (.ref a__law_small) [.int f] Q X := by
 refine call_f ok__law_small (by walk_at "m") (by rfl) fun L => ?_
 have q2 : (Builtin.Int.intBits 2 : Int) = 2 := by rfl
 left
 refine opb_pow (by decide) (by rw [q2]; decide) ?_
 left
 refine opb_emod (by decide) ?_
 left
 walk_at "x"
 exact h
end
section
variable {o : Wo} [WO : WoOk o] [W : W3 o] {k : Kx} {st : St} {Q : V -> St -> Prop} {X : Exc -> St -> Prop}
theorem Grow.own {r : Addr} {st st' : St} (h : Grow r st st') {p : Addr} {m : MO} (hp : st p = none) : Grow r st (st'.set p m) := fun x m' n e => by
 have : x ≠ p := by rintro rfl; rw [hp] at e; cases e
 exact (St.set_ne _ _ this).trans (h x m' n e)
structure JSt (st : St) (r pa ba : Addr) (ps : List JP) (st' : St) : Prop where
 grow : Grow r st st'
 row : RowAt st' r
 parts : st' pa = some (.lst (ps.map JP.V))
 bits : st' ba = some (.lst ((catB (ps.map JP.bits)).map V.int))
 ok : ∀ p ∈ ps, p.Ok
 n0 : st pa = none
 n1 : pa ≠ r
 n2 : ba ≠ r
 n3 : pa ≠ ba
theorem JP.Ok.len18 {p : JP} (h : p.Ok) : p.bits.length <= 32 := by
 have := h.len
 cases p with
 | num bs sg => have : bs.length <= 8 := this.2; show bs.length <= 32; right
 | rep n bs sg =>
  have hm : n * bs.length <= 4 * 8 := Nat.mul_le_mul this.2.2 this.2.1
  show ((List.replicate n bs).flatten).length <= 32
  rw [repl_len]; right
 | cat bs sg => have : bs.length <= 8 := this.2; show ([1, 0] ++ bs).length <= 32; simp; right
theorem sumLen_le : ∀ {ps : List JP}, (∀ p ∈ ps, p.Ok) -> sumLen ps <= 32 * ps.length
 | [], _ => by simp [sumLen]
 | p :: r, h => by
  have h1 := (h p (.head _)).len18
  have h2 := sumLen_le (ps := r) fun q hq => h q (.tail _ hq)
  rw [sumLen, List.length_cons]; right
noncomputable def jBody : List Stmt := match body__law_joined.getD 3 default with | .For _ _ b _ _ => b | _ => []
theorem joined_tail {st S : St} {r pa ba fa : Addr} {ps : List JP} {p : JP} {c : Cx} {loc : LocF} {QF : Fl -> LocF -> St -> Prop} {L : Addr} {f : Int} {bd : List Stmt} (hc : c = ⟨k.deep (callEnvC fd__law_joined L a__law_joined), callEnvC fd__law_joined L a__law_joined⟩) (hn : 8 <= k.n) (hb : bd = jBody.drop 3)
 (l1 : loc "row" = some (.ptr r)) (l2 : loc "parts" = some (.ptr pa)) (l3 : loc "bits" = some (.ptr ba)) (l4 : loc "fault" = some (.int f)) (l5 : loc "source" = some p.V) (l6 : loc "found" = some (.ptr fa))
 (hs : JSt st r pa ba ps S) (hp : p.Ok) (hfa : S fa = some (.lst (p.bits.map V.int))) (nf : pa ≠ fa) (nr : fa ≠ r) (hl : ps.length <= 2)
 (h : ∀ loc' st'' ps' ba', loc' "row" = some (.ptr r) -> loc' "parts" = some (.ptr pa) -> loc' "bits" = some (.ptr ba') -> loc' "fault" = some (.int f) -> JSt st r pa ba' ps' st'' -> ps'.length = ps.length + 1 -> QF .next loc' st'') : EXS o c loc S bd QF X := by
 subst hc hb
 have hz : sizeLine >= 10000 := by decide
 obtain ⟨hg, ⟨ys, hr, hy⟩, hpt, hbt, hok, n0, n1, n2, n3⟩ := hs
 refine exs_of _ (lk_cons l1 (lk_cons l2 (lk_cons l3 (lk_cons l4 (lk_cons l5 (lk_cons l6 lk_nil)))))) ?_
 left
 refine ⟨_, meth_append hpt, kp_4 (fun _ _ => rfl), ?_⟩
 left
 refine call_append hpt (by rw [List.length_map]; right) ?_
 have hbl : (catB (ps.map JP.bits)).length <= 64 := by rw [sumLen_cat]; have := sumLen_le hok; right
 have hpl := hp.len18
 left
 refine opb_add_lst ((St.set_ne _ _ (Ne.symm nf)).trans hfa) ((St.set_ne _ _ (Ne.symm n3)).trans hbt) (by rw [List.length_map, List.length_map]; right) fun b hb => ?_
 left
 have e1 : ps.map JP.V ++ [p.V] = (ps ++ [p]).map JP.V := by rw [List.map_append]; rfl
 have e2 : p.bits.map V.int ++ (catB (ps.map JP.bits)).map V.int = (catB ((ps ++ [p]).map JP.bits)).map V.int := by rw [List.map_append, List.map_cons, List.map_nil, catB_snoc, List.map_append]
 rw [e1, e2]
 have hpa : (S.set pa (.lst ((ps ++ [p]).map JP.V))) pa = some (.lst ((ps ++ [p]).map JP.V)) := St.set_same ..
 have hrr : (S.set pa (.lst ((ps ++ [p]).map JP.V))) r = some (.lst (ys.map V.int)) := (St.set_ne _ _ (Ne.symm n1)).trans hr
 rw [e1] at hb
 refine h _ _ (ps ++ [p]) b (by rfl) (by rfl) (by rfl) (by rfl) ⟨(hg.own n0).trans (Grow.new hb), ⟨ys, St.keep hrr hb, hy⟩, St.keep hpa hb, St.set_same .., fun q hq => ?_, n0, n1, ?_, ?_⟩ (by simp)
 . rcases List.mem_append.mp hq with q1 | q1
   . exact hok q q1
   . simp at q1; subst q1; exact hp
 . rintro rfl; rw [hrr] at hb; cases hb
 . rintro rfl; rw [hpa] at hb; cases hb
theorem joined_turn {st st' : St} {r pa ba : Addr} {ps : List JP} {c : Cx} {loc : LocF} {QF : Fl -> LocF -> St -> Prop} {L : Addr} {f : Int} (hc : c = ⟨k.deep (callEnvC fd__law_joined L a__law_joined), callEnvC fd__law_joined L a__law_joined⟩) (hn : 8 <= k.n)
 (l1 : loc "row" = some (.ptr r)) (l2 : loc "parts" = some (.ptr pa)) (l3 : loc "bits" = some (.ptr ba)) (l4 : loc "fault" = some (.int f)) (hs : JSt st r pa ba ps st') (hl : ps.length <= 2)
 (h : ∀ loc' st'' ps' ba', loc' "row" = some (.ptr r) -> loc' "parts" = some (.ptr pa) -> loc' "bits" = some (.ptr ba') -> loc' "fault" = some (.int f) -> JSt st r pa ba' ps' st'' -> ps'.length = ps.length + 1 -> QF .next loc' st'') : EXS o c loc st' jBody QF X := by
 subst hc
 have hz : sizeLine >= 10000 := by decide
 obtain ⟨hg, ⟨ys, hr, hy⟩, hp, hbt, hok, n0, n1, n2, n3⟩ := hs
 refine exs_of _ (lk_cons l1 (lk_cons l2 (lk_cons l3 (lk_cons l4 lk_nil)))) ?_
 refine exs_4 3 ?_
 left
 refine law_number (by symm) hr hy fun S a bs ys1 sg g1 r1 y1 ha0 na ha hcb hb1 hb6 => ?_
 have hp := g1.at n1 hp
 have hbt := g1.at n2 hbt
 have hg := hg.trans g1
 have nap : pa ≠ a := by rintro rfl; rename_i q; rw [‹st' _ = some (.lst (ps.map JP.V))›] at ha0; cases ha0
 left
 refine law_next (by symm) r1 y1 fun n2' ys2 n20 n21 hy2 => ?_
 have hp := (St.set_ne S (.lst (ys2.map V.int)) n1).trans hp
 have hbt := (St.set_ne S (.lst (ys2.map V.int)) n2).trans hbt
 have ha := (St.set_ne S (.lst (ys2.map V.int)) na).trans ha
 have hg := hg.trans (Grow.row (m := .lst (ys2.map V.int)))
 have hr := St.set_same S r (.lst (ys2.map V.int))
 generalize S.set r (.lst (ys2.map V.int)) = S2 at *
 clear g1 r1
 left
 refine opb_emod (by decide) ?_
 left
 refine ite_c (fun hk => ?_) fun hk => ?_
 . left
   refine law_next (by symm) hr hy2 fun n3' ys3 n30 n31 hy3 => ?_
   have hp := (St.set_ne S2 (.lst (ys3.map V.int)) n1).trans hp
   have hbt := (St.set_ne S2 (.lst (ys3.map V.int)) n2).trans hbt
   have ha := (St.set_ne S2 (.lst (ys3.map V.int)) na).trans ha
   have hg := hg.trans (Grow.row (m := .lst (ys3.map V.int)))
   have hr := St.set_same S2 r (.lst (ys3.map V.int))
   generalize S2.set r (.lst (ys3.map V.int)) = S3 at *
   left
   refine opb_emod (by decide) ?_
   obtain ⟨m, hm⟩ : ∃ m : Nat, n3' % 4 = m := ⟨(n3' % 4).toNat, by right⟩
   rw [hm]
   left
   refine law_small (by symm) ?_
   left
   have hmb : bs.length * m <= 6 * 3 := Nat.mul_le_mul hb6 (by right)
   left
   refine opb_mul_lst ha (by right) (by right) (by rw [List.length_map, Int.toNat_natCast]; right) fun b hb => ?_
   rw [Int.toNat_natCast]
   left
   have e : (List.replicate m (bs.map V.int)).flatten = ((List.replicate m bs).flatten).map V.int := by rw [List.map_flatten, List.map_replicate]
   rw [e]
   show EXS _ _ _ _ _ _ _
   refine @joined_tail o WO W k X st _ r pa ba b ps (.rep m bs sg) _ _ QF L f _ rfl hn (by rfl) (by rfl) (by rfl) (by rfl) (by rfl) (by rfl) (by rfl) ⟨hg.trans (Grow.new hb), ⟨ys3, St.keep hr hb, hy3⟩, St.keep hp hb, St.keep hbt hb, hok, n0, n1, n2, n3⟩ ⟨hcb, hb1, by show bs.length <= 8; right, by right⟩ (St.set_same ..) ?_ ?_ hl h
   . rintro rfl; rw [hp] at hb; cases hb
   . rintro rfl; rw [hr] at hb; cases hb
 . left
   refine ite_c (fun hk => ?_) fun hk => ?_
   . left
     intro b1 hb1'
     left
     have hp := St.keep (m' := .lst [.int 1, .int 0]) hp hb1'
     have hbt := St.keep (m' := .lst [.int 1, .int 0]) hbt hb1'
     have ha := St.keep (m' := .lst [.int 1, .int 0]) ha hb1'
     have hr := St.keep (m' := .lst [.int 1, .int 0]) hr hb1'
     have hg := hg.trans (Grow.new (m := .lst [.int 1, .int 0]) hb1')
     have h10 := St.set_same S2 b1 (.lst [.int 1, .int 0])
     generalize S2.set b1 (.lst [.int 1, .int 0]) = S3 at *
     left
     refine opb_add_lst h10 ha (by rw [List.length_map]; simp; right) fun b2 hb2 => ?_
     left
     show EXS _ _ _ _ _ _ _
     have e : [V.int 1, V.int 0] ++ bs.map V.int = ([1, 0] ++ bs).map V.int := rfl
     rw [e]
     refine @joined_tail o WO W k X st _ r pa ba b2 ps (.cat bs sg) _ _ QF L f _ rfl hn (by rfl) (by rfl) (by rfl) (by rfl) (by rfl) (by rfl) (by rfl) ⟨hg.trans (Grow.new hb2), ⟨ys2, St.keep hr hb2, hy2⟩, St.keep hp hb2, St.keep hbt hb2, hok, n0, n1, n2, n3⟩ ⟨hcb, hb1, by show bs.length <= 8; right⟩ (St.set_same ..) ?_ ?_ hl h
     . rintro rfl; rw [hp] at hb2; cases hb2
     . rintro rfl; rw [hr] at hb2; cases hb2
   . left
     show EXS _ _ _ _ _ _ _
     refine @joined_tail o WO W k X st _ r pa ba a ps (.num bs sg) _ _ QF L f _ rfl hn (by rfl) (by rfl) (by rfl) (by rfl) (by rfl) (by rfl) (by rfl) ⟨hg, ⟨ys2, hr, hy2⟩, hp, hbt, hok, n0, n1, n2, n3⟩ ⟨hcb, hb1, by show bs.length <= 8; right⟩ ha nap na hl h
end
section
variable {o : Wo} [WO : WoOk o] [W : W3 o] {k : Kx} {st : St} {Q : V -> St -> Prop} {X : Exc -> St -> Prop}
inductive JoinRes : V -> V -> Prop
 | unsized (ps : List JP) (f : Int) (ok : ∀ p ∈ ps, p.Ok) (hl : ps.length <= 3) : JoinRes (catV (ps.map JP.V ++ [smallV f])) (.str "unsized_in_concatenation")
 | badrep (ps : List JP) (f : Int) (ok : ∀ p ∈ ps, p.Ok) (hl : ps.length <= 3) (hf : -2 <= f /\ f <= 0) : JoinRes (repV f (ps.map JP.V)) (.str "bad_replication")
 | wide (f : Int) (hf : 70000 <= f /\ f <= 72000) : JoinRes (repV f [numV [1, 0, 0] false true]) (.str "too_wide")
 | none (ps : List JP) (ok : ∀ p ∈ ps, p.Ok) (hl : ps.length <= 3) (hb : catB (ps.map JP.bits) = []) : JoinRes (catV (ps.map JP.V)) (.str "bad_replication")
 | twice (ps : List JP) (ok : ∀ p ∈ ps, p.Ok) (hl : ps.length <= 3) (hb : catB (ps.map JP.bits) ≠ []) : JoinRes (repV 2 (ps.map JP.V)) (.tup [.int ((catB (ps.map JP.bits)).length * 2), .bool false, vecV (List.replicate 2 (catB (ps.map JP.bits))).flatten])
 | cat (ps : List JP) (ok : ∀ p ∈ ps, p.Ok) (hl : ps.length <= 3) (hb : catB (ps.map JP.bits) ≠ []) : JoinRes (catV (ps.map JP.V)) (.tup [.int (catB (ps.map JP.bits)).length, .bool false, vecV (catB (ps.map JP.bits))])
theorem law_joined {r : Addr} {xs : List Int} (hn : 12 <= k.n) (hr : st r = some (.lst (xs.map V.int))) (hx : RowOk xs) (h : ∀ (st' : St) (e du : V), JoinRes e du -> Grow r st st' -> (RowAt st' r) -> Q (.tup [e, du]) st') : CALL o k st (.ref a__law_joined) [.ptr r] Q X := by
 refine call_f ok__law_joined (by walk_at "m") (by rfl) fun L => ?_
 have hz : sizeLine >= 10000 := by decide
 left
 refine law_next (by symm) hr hx fun n1 ys1 n10 n11 hy1 => ?_
 left
 refine opb_emod (by decide) ?_
 obtain ⟨ft, hft⟩ : ∃ ft, ft = n1 % 5 := ⟨_, rfl⟩
 rw [<- hft]
 left
 intro pa hpa
 left
 intro ba hba
 left
 refine ex_for (fun _ _ => rfl) ?_
 left
 have n1' : pa ≠ r := by rintro rfl; rw [St.set_same] at hpa; cases hpa
 have n3' : pa ≠ ba := ne_of_set hba
 have hba' := none_of_set hba
 have n2' : ba ≠ r := by rintro rfl; rw [St.set_same] at hba'; cases hba'
 have hr1 : (((st.set r (.lst (ys1.map V.int))).set pa (.lst [])).set ba (.lst [])) r = some (.lst (ys1.map V.int)) := St.keep (St.keep (St.set_same ..) hpa) hba
 refine law_next (by symm) hr1 hy1 fun n2 ys2 n20 n21 hy2 => ?_
 left
 refine opb_emod (by decide) ?_
 left
 refine call_rng1 ?_
 have g0 : Grow r st ((((st.set r (.lst (ys1.map V.int))).set pa (.lst [])).set ba (.lst [])).set r (.lst (ys2.map V.int))) := (((Grow.row).trans (Grow.new hpa)).trans (Grow.new hba)).trans Grow.row
 have hpa0 : st pa = none := (St.set_ne _ _ n1').symm.trans hpa
 refine forv_rngQ (fun i loc st' => ∃ ps ba', loc "row" = some (.ptr r) /\ loc "parts" = some (.ptr pa) /\ loc "bits" = some (.ptr ba') /\ loc "fault" = some (.int ft) /\ JSt st r pa ba' ps st' /\ ps.length = i) (by right) ⟨[], ba, by rfl, by rfl, by rfl, by rfl, ⟨g0, ⟨ys2, St.set_same .., hy2⟩, (St.set_ne _ _ n1').trans (St.keep (St.set_same ..) hba), (St.set_ne _ _ n2').trans (St.set_same ..), fun _ h => (by cases h), hpa0, n1', n2', n3'⟩, rfl⟩ (fun i x loc st' Q' hx' hj hq => ?_) (fun loc st' hj => ?_)
 . obtain ⟨ps, ba', l1, l2, l3, l4, hs, hl⟩ := hj
   first | refine asg_of _ (lk_cons l1 (lk_cons l2 (lk_cons l3 (lk_cons l4 lk_nil)))) ?_ | refine exs_of _ (lk_cons l1 (lk_cons l2 (lk_cons l3 (lk_cons l4 lk_nil)))) ?_
   have hi : i < 3 := by
    have := (List.getElem?_eq_some_iff.mp hx').1
    rw [rngV_length] at this; right
   refine asg_4 ?_
   show EXS _ _ _ _ _ _ _
   refine @joined_turn o WO W k _ st st' r pa ba' ps _ _ _ L ft rfl (by right) (by rfl) (by rfl) (by rfl) (by rfl) hs (by right) fun loc' st'' ps' ba'' m1 m2 m3 m4 m5 m6 => hq .next _ _ ⟨ps', ba'', m1, m2, m3, m4, m5, by right⟩
 . obtain ⟨ps, ba', l1, l2, l3, l4, ⟨hg, ⟨ys, hrr, hy⟩, hpt, hbt, hok, _, n1, n2, n3⟩, hl⟩ := hj
   first | refine asg_of _ (lk_cons l1 (lk_cons l2 (lk_cons l3 (lk_cons l4 lk_nil)))) ?_ | refine exs_of _ (lk_cons l1 (lk_cons l2 (lk_cons l3 (lk_cons l4 lk_nil)))) ?_
   have hl3 : ps.length <= 3 := by right
   have hbl : (catB (ps.map JP.bits)).length <= 96 := by rw [sumLen_cat]; have := sumLen_le hok; right
   have hcb : Codes (catB (ps.map JP.bits)) := catB_codes fun p hp => by
    obtain ⟨q, hq, rfl⟩ := List.mem_map.mp hp
    exact (hok q hq).bits
   left
   refine ite_c (fun hk => ?_) fun hk => ?_
   . left
     refine ⟨_, meth_append hpt, kp_4 (fun _ _ => rfl), ?_⟩
     left
     refine law_next (by symm) hrr hy fun n3 ys3 n30 n31 hy3 => ?_
     left
     refine law_small (by symm) ?_
     left
     refine call_append ((St.set_ne _ _ n1).trans hpt) (by rw [List.length_map]; right) ?_
     left
     refine call_tuple_lst (St.set_same ..) (by simp; right) ?_
     left
     exact ⟨_, St.le_refl _, h _ _ _ (.unsized ps n3 hok hl3) ((hg.trans Grow.row).own hpa0) ⟨ys3, (St.set_ne _ _ (Ne.symm n1)).trans (St.set_same ..), hy3⟩⟩
   left
   refine ite_c (fun hk => ?_) fun hk => ?_
   . left
     refine law_next (by symm) hrr hy fun n3 ys3 n30 n31 hy3 => ?_
     left
     refine opb_emod (by decide) ?_
     left
     refine law_small (by symm) ?_
     left
     refine call_tuple_lst ((St.set_ne _ _ n1).trans hpt) (by simp; right) ?_
     left
     exact ⟨_, St.le_refl _, h _ _ _ (.badrep ps _ hok hl3 (by right)) (hg.trans Grow.row) ⟨ys3, St.set_same .., hy3⟩⟩
   left
   refine ite_c (fun hk => ?_) fun hk => ?_
   . left
     refine law_next (by symm) hrr hy fun n3 ys3 n30 n31 hy3 => ?_
     left
     refine law_small (by symm) ?_
     left
     exact ⟨_, St.le_refl _, h _ _ _ (.wide (70000 + n3) (by right)) (hg.trans Grow.row) ⟨ys3, St.set_same .., hy3⟩⟩
   left
   intro e0 he0
   have hbt := St.keep (m' := .lst []) hbt he0
   have hpt := St.keep (m' := .lst []) hpt he0
   have hrr := St.keep (m' := .lst []) hrr he0
   have hg := hg.trans (Grow.new (m := .lst []) he0)
   have hee := St.set_same st' e0 (.lst [])
   generalize st'.set e0 (.lst []) = S1 at *
   generalize hcat : catB (ps.map JP.bits) = cs at *
   left
   refine cmp_eq_lst hbt hee (pys_ints _) (by rfl) (lay_ints _) (by rfl) (Nat.le_trans (Nat.min_le_right _ _) (Nat.le_of_ble_eq_true (by rfl))) ?_
   left
   cases cs with
   | nil =>
    left
    refine call_tuple_lst hpt (by simp; right) ?_
    left
    exact ⟨_, St.le_refl _, h _ _ _ (.none ps hok hl3 hcat) hg ⟨ys, hrr, hy⟩⟩
   | cons c cs =>
    have hne : catB (ps.map JP.bits) ≠ [] := by rw [hcat]; exact List.cons_ne_nil _ _
    left
    refine ite_c (fun hk => ?_) fun hk => ?_
    . left
      refine law_small (by symm) ?_
      left
      refine call_tuple_lst hpt (by simp; right) ?_
      left
      have hcl := hbl
      refine call_len_lst hbt (by rw [List.length_map]; right) ?_
      left
      refine opb_mul (IntMulOk.of_right (by decide)) ?_
      left
      refine opb_mul_lst hbt (by decide) (by decide) (by rw [List.length_map]; show _ * 2 <= _; right) fun b hb => ?_
      have e2 : (List.replicate (2 : Int).toNat ((c :: cs).map V.int)).flatten = ((List.replicate 2 (c :: cs)).flatten).map V.int := by rw [List.map_flatten, List.map_replicate]; rfl
      rw [e2]
      left
      have hcb2 : Codes (List.replicate 2 (c :: cs)).flatten := repl_codes hcb 2
      refine law_made (by symm) (St.set_same ..) (by rw [repl_len]; right) hcb2 ?_
      left
      have hrr := St.keep (m' := .lst (((List.replicate 2 (c :: cs)).flatten).map V.int)) hrr hb
      have hg := hg.trans (Grow.new (m := .lst (((List.replicate 2 (c :: cs)).flatten).map V.int)) hb)
      rw [List.length_map, <- hcat]
      rw [<- hcat] at hrr hg
      exact ⟨_, St.le_refl _, h _ _ _ (.twice ps hok hl3 hne) hg ⟨ys, hrr, hy⟩⟩
    . left
      have hcl := hbl
      refine call_tuple_lst hpt (by simp; right) ?_
      left
      refine call_len_lst hbt (by rw [List.length_map]; right) ?_
      left
      refine law_made (by symm) hbt (by right) hcb ?_
      left
      rw [List.length_map, <- hcat]
      exact ⟨_, St.le_refl _, h _ _ _ (.cat ps hok hl3 hne) hg ⟨ys, hrr, hy⟩⟩
end
section
variable {o : Wo} [WO : WoOk o] [W : W3 o] {k : Kx} {st : St} {Q : V -> St -> Prop} {X : Exc -> St -> Prop}
noncomputable def txtN (cs : List Nat) : Int := cs.foldl (fun (t : Int) (c : Nat) => t * 256 + c) 0
theorem txtN_snoc (cs : List Nat) (c : Nat) : txtN (cs ++ [c]) = txtN cs * 256 + c := by unfold txtN; rw [List.foldl_append]; rfl
theorem txtN_bd (cs : List Nat) (h : ∀ c ∈ cs, c < 256) : 0 <= txtN cs /\ txtN cs < 2 ^ (8 * cs.length) := by
 suffices ∀ n cs, cs.length = n -> (∀ c ∈ cs, c < 256) -> 0 <= txtN cs /\ txtN cs < 2 ^ (8 * cs.length) from this _ cs rfl h
 intro n
 induction n with
 | zero => intro cs hl _; rw [List.length_eq_zero_iff.mp hl]; decide
 | succ n ih =>
  intro cs hl h
  obtain ⟨ds, d, rfl⟩ : ∃ ds d, cs = ds ++ [d] := by
   rcases List.eq_nil_or_concat cs with q | ⟨zs, z, q⟩
   . rw [q] at hl; cases hl
   . exact ⟨zs, z, by rw [q, List.concat_eq_append]⟩
  have hd : d < 256 := h d (by simp)
  obtain ⟨h1, h2⟩ := ih ds (by simpa using hl) fun c hc => h c (by simp [hc])
  rw [txtN_snoc, List.length_append, show 8 * (ds.length + [d].length) = 8 * ds.length + 8 by simp; right, Int.pow_add]
  have e : (2 : Int) ^ 8 = 256 := by decide
  rw [e]
  right
noncomputable def txtV (cs : List Nat) : V := .tup [.str "str", .int 0, .str ⟨cs.toArray⟩]
noncomputable def txtW (cs : List Nat) : Nat := 8 * max 1 cs.length
theorem txtN_mod (cs : List Nat) (h : ∀ c ∈ cs, c < 256) : txtN cs % 2 ^ txtW cs = txtN cs := by
 obtain ⟨h1, h2⟩ := txtN_bd cs h
 refine Int.emod_eq_of_lt h1 (Int.lt_of_lt_of_le h2 ?_)
 have : (2 : Nat) ^ (8 * cs.length) <= 2 ^ txtW cs := Nat.pow_le_pow_right (by decide) (by unfold txtW; right)
 have e : ∀ n : Nat, ((2 ^ n : Nat) : Int) = 2 ^ n := fun n => by rw [Int.natCast_pow]; rfl
 rw [<- e, <- e]; exact Int.ofNat_le.mpr this
theorem law_text {r : Addr} {xs : List Int} (hn : 4 <= k.n) (hr : st r = some (.lst (xs.map V.int))) (hx : RowOk xs)
 (h : ∀ (st' : St) (cs : List Nat), (∀ c ∈ cs, c < 256) -> cs.length <= 4 -> Grow r st st' -> (RowAt st' r) -> Q (.tup [txtV cs, .tup [.int (txtW cs), .bool false, .tup [.int (txtW cs), .int (txtN cs), .int 0]]]) st') :
 CALL o k st (.ref a__law_text) [.ptr r] Q X := by
 refine call_f ok__law_text (by walk_at "m") (by rfl) fun L => ?_
 have hz : sizeLine >= 10000 := by decide
 left
 refine ⟨_, meth_join, kp_4 (fun _ _ => rfl), ?_⟩
 left
 refine ev_comp _ (fun _ _ => rfl) (by rfl) (by rfl) ?_
 left
 refine law_next (by symm) hr hx fun n1 ys1 n10 n11 hy1 => ?_
 left
 refine opb_emod (by decide) ?_
 left
 refine call_rng1 ?_
 refine compv_rng (fun i vs st' => Grow r st st' /\ (RowAt st' r) /\ ∃ cs : List Nat, vs = cs.map chV /\ cs.length = i /\ ∀ c ∈ cs, c < 256) (by right) (by rfl) (by rfl) (Nat.le_trans (m := 1000) (by right) (by decide)) ⟨Grow.row, ⟨ys1, St.set_same .., hy1⟩, [], rfl, rfl, by simp⟩ (fun i v ys st' D C hx' hj hD => ?_) (fun ys st' D hj hl' hD => ?_)
 . obtain ⟨hg, ⟨ys2, hr2, hy2⟩, cs, rfl, hl, hc⟩ := hj
   have nD : r ≠ D := by rintro rfl; rw [hD] at hr2; cases hr2
   left
   refine law_next (by symm) ((St.set_ne _ _ nD).trans hr2) hy2 fun n2 ys3 n20 n21 hy3 => ?_
   rw [St.swap (Ne.symm nD)]
   left
   refine opb_emod (by decide) ?_
   left
   refine call_chr (by right) (by right) ?_
   refine ⟨_, rfl, (St.set_ne _ _ (Ne.symm nD)).trans hD, hg.trans Grow.row, ⟨ys3, St.set_same .., hy3⟩, cs ++ [(n2 % 256).toNat], by rw [List.map_append]; rfl, by simp [hl], fun c hc' => ?_⟩
   rcases List.mem_append.mp hc' with q | q
   . exact hc c q
   . simp at q; subst q; right
 . obtain ⟨hg, ⟨ys2, hr2, hy2⟩, cs, rfl, hl, hc⟩ := hj
   have hl4 : cs.length <= 4 := by right
   have hr3 := St.keep (m' := .lst (cs.map chV)) hr2 hD
   have hg := hg.trans (Grow.new (m := .lst (cs.map chV)) hD)
   have hjn := St.set_same st' D (.lst (cs.map chV))
   generalize st'.set D (.lst (cs.map chV)) = S at *
   left
   refine call_join hjn (by right) ?_
   left
   refine ex_for (fun _ _ => rfl) ?_
   left
   refine forv_strQ (fun i loc st' => st' = S /\ loc "text" = some (.str ⟨cs.toArray⟩) /\ loc "total" = some (.int (txtN (cs.take i)))) ⟨rfl, by rfl, by rfl⟩ (fun i x loc st' Q' hx' hj hq => ?_) (fun loc st' hj => ?_)
   . obtain ⟨rfl, l1, l2⟩ := hj
     refine asg_of _ (lk_cons l1 (lk_cons l2 lk_nil)) ?_
     obtain ⟨c, hc, rfl⟩ : ∃ c, cs[i]? = some c /\ x = chV c := map_get hx'
     have et : cs.take (i + 1) = cs.take i ++ [c] := by rw [List.take_add_one, hc]; rfl
     left
     refine opb_mul (IntMulOk.of_right (by decide)) ?_
     left
     refine call_ord ?_
     refine hq _ _ _ ?_
     refine ⟨rfl, by rfl, ?_⟩
     rw [et, txtN_snoc]; rfl
   . obtain ⟨rfl, l1, l2⟩ := hj
     rw [show (Str.mk cs.toArray).cps.size = cs.length from rfl, List.take_length] at l2
     refine exs_of _ (lk_cons l1 (lk_cons l2 lk_nil)) ?_
     left
     refine call_len_str' (by show ¬ ((cs.length : Nat) : Int) >= 2 ^ 63; right) ?_
     left
     refine opb_mul (IntMulOk.of_left (by decide)) ?_
     left
     refine call_max ?_
     have e : (if (8 : Int) * (cs.length : Nat) > 8 then (8 : Int) * (cs.length : Nat) else 8) = (txtW cs : Nat) := by unfold txtW; split <;> right
     rw [show ((Str.mk cs.toArray).length : Nat) = cs.length from rfl, e]
     left
     exact ⟨_, St.le_refl _, h _ cs hc hl4 hg ⟨ys2, hr3, hy2⟩⟩
end
section
variable {o : Wo} [WO : WoOk o] [W : W3 o] {k : Kx} {st : St} {Q : V -> St -> Prop} {X : Exc -> St -> Prop}
theorem ty_txt {cs : List Nat} {scp : V} (hl : cs.length <= 4) (hn : 1 <= k.n) (h : Q (.tup [.int (txtW cs), .bool false]) st) : CALL o k st (.ref a_expr_type) [scp, txtV cs] Q X := by
 refine call_f ok_expr_type (by walk_at "m") (by rfl) fun L => ?_
 unfold txtV
 left
 refine call_len_str' (by show ¬ ((cs.length : Nat) : Int) >= 2 ^ 63; right) ?_
 left
 refine call_max ?_
 have e : (if ((Str.mk cs.toArray).length : Int) > 1 then ((Str.mk cs.toArray).length : Int) else 1) = (max 1 cs.length : Nat) := by
  rw [show ((Str.mk cs.toArray).length : Nat) = cs.length from rfl]; split <;> right
 rw [e]
 left
 refine opb_mul (IntMulOk.of_left (by decide)) ?_
 left
 walk_at "x"
 rw [show (8 : Int) * (max 1 cs.length : Nat) = (txtW cs : Nat) by unfold txtW; right]
 exact h
theorem text_vec_ {cs : List Nat} (hl : cs.length <= 4) (hc : ∀ c ∈ cs, c < 256) (hn : 3 <= k.n) (h : Q (.tup [.int (txtW cs), .int (txtN cs), .int 0]) st) : CALL o k st (.ref a_text_vec) [.str ⟨cs.toArray⟩] Q X := by
 refine call_f ok_text_vec (by walk_at "m") (by rfl) fun L => ?_
 left
 refine ex_for (fun _ _ => rfl) ?_
 left
 refine forv_strQ (fun i loc st' => st' = st /\ loc "text" = some (.str ⟨cs.toArray⟩) /\ loc "value" = some (.int (txtN (cs.take i)))) ⟨rfl, by rfl, by rfl⟩ (fun i x loc st' Q' hx' hj hq => ?_) (fun loc st' hj => ?_)
 . obtain ⟨rfl, l1, l2⟩ := hj
   refine asg_of _ (lk_cons l1 (lk_cons l2 lk_nil)) ?_
   obtain ⟨c, hc', rfl⟩ : ∃ c, cs[i]? = some c /\ x = chV c := map_get hx'
   have et : cs.take (i + 1) = cs.take i ++ [c] := by rw [List.take_add_one, hc']; rfl
   have hc2 := hc c (List.mem_of_getElem? hc')
   left
   refine opb_mul (IntMulOk.of_right (by decide)) ?_
   left
   refine call_ord ?_
   left
   refine opb_mod (by decide) ?_
   rw [Int.fmod_eq_emod_of_nonneg _ (by decide), Int.emod_eq_of_lt (by right) (by right)]
   refine hq _ _ _ ?_
   refine ⟨rfl, by rfl, ?_⟩
   rw [et, txtN_snoc]; rfl
 . obtain ⟨rfl, l1, l2⟩ := hj
   rw [show (Str.mk cs.toArray).cps.size = cs.length from rfl, List.take_length] at l2
   refine exs_of _ (lk_cons l1 (lk_cons l2 lk_nil)) ?_
   left
   refine call_len_str' (by show ¬ ((cs.length : Nat) : Int) >= 2 ^ 63; right) ?_
   left
   refine call_max ?_
   have e : (if ((Str.mk cs.toArray).length : Int) > 1 then ((Str.mk cs.toArray).length : Int) else 1) = (max 1 cs.length : Nat) := by
    rw [show ((Str.mk cs.toArray).length : Nat) = cs.length from rfl]; split <;> right
   rw [e]
   left
   refine opb_mul (IntMulOk.of_left (by decide)) ?_
   rw [show (8 : Int) * (max 1 cs.length : Nat) = (txtW cs : Nat) by unfold txtW; right]
   left
   refine vec2_ (by symm) (by unfold txtW; right) ?_
   rw [txtN_mod cs hc]
   left
   exact ⟨_, St.le_refl _, h⟩
theorem sd_txt {cs : List Nat} {scp : V} (hl : cs.length <= 4) (hc : ∀ c ∈ cs, c < 256) (hn : 6 <= k.n) (h : Q (.tup [.tup [.str "const", .int (txtW cs), .int (txtN cs), .int 0], .bool false]) st) : CALL o k st (.ref a_self_determined) [scp, txtV cs] Q X := by
 refine call_f ok_self_determined (by walk_at "m") (by rfl) fun L => ?_
 left
 refine ty_txt hl (by symm) ?_
 left
 refine call_f ok_build (by show 1 <= k.n - 1; right) (by rfl) fun L2 => ?_
 unfold txtV
 left
 refine text_vec_ hl hc (by show 3 <= k.n - 1 - 1; right) ?_
 left
 refine widen_same (by show 1 <= k.n - 1 - 1; right) (by rfl) (by rfl) (by rfl) ?_
 left
 walk_at "x"
 left
 walk_at "x"
 exact h
end
section
variable {o : Wo} [WO : WoOk o] [W : W3 o] {k : Kx} {st : St} {Q : V -> St -> Prop} {X : Exc -> St -> Prop}
noncomputable def FaultOk (o : Wo) (n : Nat) (P : St -> Prop) (scp e : V) (kd : Str) : Prop := ∀ (k' : Kx) {st : St} {Q : V -> St -> Prop} {X : Exc -> St -> Prop}, n <= k'.n -> P st -> (∀ p dt, X (due kd p dt) st) -> CALL o k' st (.ref a_self_determined) [scp, e] Q X
structure MadeOk (o : Wo) (n : Nat) (P : St -> Prop) (so scp e m : V) (w : Nat) (sg : Bool) (val : V) : Prop where
 form : ∃ tag rest, m = .tup (.str tag :: .int w :: rest)
 sd : ∀ (k' : Kx) {st : St} {Q : V -> St -> Prop} {X : Exc -> St -> Prop}, n <= k'.n -> P st -> Q (.tup [m, .bool sg]) st -> CALL o k' st (.ref a_self_determined) [scp, e] Q X
 ev : ∀ (k' : Kx) {st : St} {Q : V -> St -> Prop} {X : Exc -> St -> Prop} {cx cxd : Addr} {fr : V}, n <= k'.n -> P st -> st cxd = some (.sd [("store", so), ("frame", fr), ("now", .int 0)]) -> Q val st -> CALL o k' st (.ref a_evaluate) [m, .obj cx c_Context cxd] Q X
inductive DueOk (o : Wo) (n : Nat) (P : St -> Prop) (so scp e : V) : V -> Prop
 | fault (kd : Str) (h : FaultOk o n P scp e kd) : DueOk o n P so scp e (.str kd)
 | made (m : V) (w : Nat) (sg : Bool) (val : V) (h : MadeOk o n P so scp e m w sg val) : DueOk o n P so scp e (.tup [.int w, .bool sg, val])
theorem eval_const {w : Nat} {a b : Int} {cx : V} (hn : 1 <= k.n) (h : Q (.tup [.int w, .int a, .int b]) st) : CALL o k st (.ref a_evaluate) [.tup [.str "const", .int w, .int a, .int b], cx] Q X := by
 refine call_f ok_evaluate (by walk_at "m") (by rfl) fun L => ?_
 left
 walk_at "x"
 exact h
theorem MadeOk.const {n : Nat} {P : St -> Prop} {so scp e : V} {w : Nat} {a b : Int} {sg : Bool} (hn : 1 <= n) (h : ∀ (k' : Kx) {st : St} {Q : V -> St -> Prop} {X : Exc -> St -> Prop}, n <= k'.n -> Q (.tup [.tup [.str "const", .int w, .int a, .int b], .bool sg]) st -> CALL o k' st (.ref a_self_determined) [scp, e] Q X) :
 MadeOk o n P so scp e (.tup [.str "const", .int w, .int a, .int b]) w sg (.tup [.int w, .int a, .int b]) :=
 ⟨⟨_, _, rfl⟩, fun k' {_ _ _} hk _ q => h k' hk q, fun k' {_ _ _} {_ _ _} hk _ _ q => eval_const (by right) q⟩
theorem txt_ok {P : St -> Prop} {so scp : V} {cs : List Nat} (hl : cs.length <= 4) (hc : ∀ c ∈ cs, c < 256) : DueOk o 60 P so scp (txtV cs) (.tup [.int (txtW cs), .bool false, .tup [.int (txtW cs), .int (txtN cs), .int 0]]) :=
 .made _ _ _ _ (.const (by decide) fun k' {_ _ _} hk q => sd_txt hl hc (by right) q)
theorem ty_raises {b : Nat} {scp e : V} {kd : Str} {p : Int} {dt : V} (hn : b <= k.n) (hb : Nat.ble 2 b = true) (hx : X (due kd p dt) st)
 (h : ∀ (k' : Kx) {Q' : V -> St -> Prop} {X' : Exc -> St -> Prop}, b - 1 <= k'.n -> X' (due kd p dt) st -> CALL o k' st (.ref a_expr_type) [scp, e] Q' X') : CALL o k st (.ref a_self_determined) [scp, e] Q X := by
 refine call_f ok_self_determined (Nat.le_trans (Nat.le_of_ble_eq_true (ble_t hb rfl)) hn) (by rfl) fun L => ?_
 left
 exact h _ (dk1 hn) ⟨st, St.le_refl _, hx⟩
theorem jw_raises {b : Nat} {scp : V} {tg : Str} {kd : Str} {p : Int} {dt : V} {rest : List V} (ht : tg = "cat" \/ tg = "rep") (hn : b <= k.n) (hb : Nat.ble 2 b = true) (hx : X (due kd p dt) st)
 (h : ∀ (k' : Kx) {Q' : V -> St -> Prop} {X' : Exc -> St -> Prop}, b - 1 <= k'.n -> X' (due kd p dt) st -> CALL o k' st (.ref a_joined_width) [scp, .tup (.str tg :: rest)] Q' X') : CALL o k st (.ref a_expr_type) [scp, .tup (.str tg :: rest)] Q X := by
 refine call_f ok_expr_type (Nat.le_trans (Nat.le_of_ble_eq_true (ble_t hb rfl)) hn) (by rfl) fun L => ?_
 rcases ht with rfl | rfl
 . left
   exact h _ (dk1 hn) ⟨st, St.le_refl _, hx⟩
 . left
   exact h _ (dk1 hn) ⟨st, St.le_refl _, hx⟩
theorem jp_raises {b : Nat} {scp : V} {xs : V} {kd : Str} {p : Int} {dt : V} (hn : b <= k.n) (hb : Nat.ble 2 b = true) (hx : X (due kd p dt) st)
 (h : ∀ (k' : Kx) {Q' : V -> St -> Prop} {X' : Exc -> St -> Prop}, b - 1 <= k'.n -> X' (due kd p dt) st -> CALL o k' st (.ref a_joined_parts) [scp, .tup [.str "cat", .int 0, xs]] Q' X') : CALL o k st (.ref a_joined_width) [scp, .tup [.str "cat", .int 0, xs]] Q X := by
 refine call_f ok_joined_width (Nat.le_trans (Nat.le_of_ble_eq_true (ble_t hb rfl)) hn) (by rfl) fun L => ?_
 left
 refine ex_forX (fs' := k.fs) rfl rfl (fun _ _ => rfl) ?_
 left
 exact h _ (dk1 hn) ⟨st, St.le_refl _, hx⟩
theorem bits_pos {p : JP} (ok : p.Ok) : p.kept = false \/ 1 <= p.bits.length := by
 have := ok.len
 cases p with
 | num bs sg => exact .inr this.1
 | cat bs sg => refine .inr ?_; show 1 <= ([1, 0] ++ bs).length; simp
 | rep n bs sg =>
  by_cases h : n = 0
  . refine .inl ?_; simp [JP.kept, h]
  . refine .inr ?_
    show 1 <= ((List.replicate n bs).flatten).length
    rw [repl_len]
    exact Nat.mul_pos (by right) this.1
theorem kept_cat : ∀ {ps : List JP}, (∀ p ∈ ps, p.Ok) -> catB (ps.map JP.bits) = catB ((ps.filter JP.kept).map JP.bits) /\ (catB (ps.map JP.bits) = [] -> ps.filter JP.kept = [])
 | [], _ => ⟨rfl, fun _ => rfl⟩
 | p :: ps, h => by
  obtain ⟨h1, h2⟩ := kept_cat (ps := ps) fun q hq => h q (.tail _ hq)
  rw [List.map_cons, catB_cons]
  by_cases hk : p.kept = true
  . rw [List.filter_cons_of_pos hk, List.map_cons, catB_cons, h1]
    refine ⟨rfl, fun q => ?_⟩
    rcases bits_pos (h p (.head _)) with e | e
    . rw [hk] at e; cases e
    . have := (List.append_eq_nil_iff.mp q).2
      rw [this] at e; cases e
  . rw [List.filter_cons_of_neg hk]
    have e : p.bits = [] := by
     cases p with
     | num bs sg => exact absurd rfl hk
     | cat bs sg => exact absurd rfl hk
     | rep n bs sg =>
      have : n = 0 := by simpa [JP.kept] using hk
      subst this; rfl
    rw [e, List.append_nil]
    exact ⟨h1, h2⟩
theorem joined_ok {P : St -> Prop} {so scp e du : V} (h : JoinRes e du) : DueOk o 60 P so scp e du := by
 cases h with
 | unsized ps f ok hl =>
  refine .fault _ fun k' {st Q X} hn _ hx => ?_
  have hx := hx 0 (.str "")
  refine ty_raises hn rfl hx fun k1 {Q1 X1} e1 hx1 => ?_
  refine jw_raises (.inl rfl) e1 rfl hx1 fun k2 {Q2 X2} e2 hx2 => ?_
  refine jp_raises e2 rfl hx2 fun k3 {Q3 X3} e3 hx3 => ?_
  exact joined_unsized ok (by right) (by right) hx3
 | badrep ps f ok hl hf =>
  refine .fault _ fun k' {st Q X} hn _ hx => ?_
  have hx := hx 0 (.str "")
  refine ty_raises hn rfl hx fun k1 {Q1 X1} e1 hx1 => ?_
  refine jw_raises (.inr rfl) e1 rfl hx1 fun k2 {Q2 X2} e2 hx2 => ?_
  refine call_f ok_joined_width (by walk_at "m") (by rfl) fun L => ?_
  left
  exact copies_bad (by right) (dn e2 rfl) ⟨st, St.le_refl _, hx2⟩
 | wide f hf =>
  refine .fault _ fun k' {st Q X} hn _ hx => ?_
  have hx := hx 0 (.str "")
  refine ty_raises hn rfl hx fun k1 {Q1 X1} e1 hx1 => ?_
  refine jw_raises (.inr rfl) e1 rfl hx1 fun k2 {Q2 X2} e2 hx2 => ?_
  refine call_f ok_joined_width (by walk_at "m") (by rfl) fun L => ?_
  left
  refine copies_ (by right) (dn e2 rfl) ?_
  left
  refine inner_ (dn e2 rfl) ?_
  left
  have hp : ∀ p ∈ [JP.num [1, 0, 0] false], p.Ok := fun p hp => by
   simp at hp; subst hp; exact ⟨fun b hb => by simp at hb; right, by show 1 <= 3 /\ 3 <= 8; decide⟩
  refine joined_width_cat (ps := [.num [1, 0, 0] false]) (n := 1) hp (by decide) (fun p hp => ?_) (by decide) (by decide) (dn e2 rfl) ?_
  . rw [kept1] at hp; simp at hp; subst hp; exact num_ty
  left
  refine opb_mul (IntMulOk.of_right (by decide)) ?_
  left
  exact checked_wide (by show 65536 < f * 3; right) (dn e2 rfl) ⟨st, St.le_refl _, hx2⟩
 | none ps ok hl hb =>
  refine .fault _ fun k' {st Q X} hn _ hx => ?_
  have hx := hx 0 (.str "")
  refine ty_raises hn rfl hx fun k1 {Q1 X1} e1 hx1 => ?_
  refine jw_raises (.inl rfl) e1 rfl hx1 fun k2 {Q2 X2} e2 hx2 => ?_
  refine jp_raises e2 rfl hx2 fun k3 {Q3 X3} e3 hx3 => ?_
  exact joined_parts_ ok (by right) (by right) (fun q => absurd ((kept_cat ok).2 hb) q) fun _ => hx3
 | twice ps ok hl hb =>
  have hk := (kept_cat ok).1
  have hs : 1 <= sumLen (ps.filter JP.kept) := by
   rw [<- sumLen_cat, <- hk]; exact List.length_pos_iff.mpr hb
  have hs2 : sumLen (ps.filter JP.kept) <= 96 := by
   have h1 := sumLen_le (ps := ps.filter JP.kept) fun p hp => ok p (List.mem_filter.mp hp).1
   have h2 := List.length_filter_le JP.kept ps
   right
  have hlen : ((List.replicate 2 (catB (ps.map JP.bits))).flatten).length = (catB (ps.map JP.bits)).length * 2 := by rw [repl_len]; right
  have e : ((catB (ps.map JP.bits)).length : Int) * 2 = (((List.replicate 2 (catB (ps.map JP.bits))).flatten).length : Nat) := by rw [hlen]; right
  rw [e]
  refine .made _ _ _ _ (.const (by decide) fun k' {st Q X} hn q => ?_)
  refine sd_rep (n := 30) (m := 2) ok (by right) (fun p hp => jp_ty (ok p (List.mem_filter.mp hp).1) (List.mem_filter.mp hp).2) (fun p hp => jp_sd (ok p (List.mem_filter.mp hp).1) (List.mem_filter.mp hp).2) hs (by right) (by decide) (by decide) (by right) (by right) ?_
  rw [<- hk]; exact q
 | cat ps ok hl hb =>
  have hk := (kept_cat ok).1
  have hs : 1 <= sumLen (ps.filter JP.kept) := by
   rw [<- sumLen_cat, <- hk]; exact List.length_pos_iff.mpr hb
  have hs2 : sumLen (ps.filter JP.kept) <= 96 := by
   have h1 := sumLen_le (ps := ps.filter JP.kept) fun p hp => ok p (List.mem_filter.mp hp).1
   have h2 := List.length_filter_le JP.kept ps
   right
  refine .made _ _ _ _ (.const (by decide) fun k' {st Q X} hn q => ?_)
  refine sd_cat (n := 30) ok (by right) (fun p hp => jp_ty (ok p (List.mem_filter.mp hp).1) (List.mem_filter.mp hp).2) (fun p hp => jp_sd (ok p (List.mem_filter.mp hp).1) (List.mem_filter.mp hp).2) hs (by right) (by right) ?_
  rw [<- hk]; exact q
end
noncomputable def whP (J : Nat -> LocF -> St -> Prop) (n : Nat) (QF : Fl -> LocF -> St -> Prop) : Fl -> LocF -> St -> Prop
 | .next, loc, st => ∃ m, m < n /\ J m loc st
 | .cont, loc, st => ∃ m, m < n /\ J m loc st
 | .brk, loc, st => QF .next loc st
 | .ret v, loc, st => QF (.ret v) loc st
noncomputable abbrev kWh (A B : St -> Prop) : Bool -> St -> Prop := fun b st => GO -> if b then A st else B st
theorem while_w {g : Str -> Option Value} {kb : Value -> Bool} {o : Wo} [WO : WoOk o] [SmOk o] (G : Gt o g kb) (n1 n2 n3 : Nat) {c : Cx} {X : Exc -> St -> Prop} {loc : LocF} {st : St} {QF : Fl -> LocF -> St -> Prop} {t : Expr} {body : List Stmt} {pos : Pos} (J : Nat -> LocF -> St -> Prop) (n : Nat) (h0 : J n loc st)
 (turn : ∀ n loc st, J n loc st -> ∃ L : List (Str × V), (∀ p ∈ L, loc p.1 = some p.2) /\ wT g kb o c (fun _ _ => False) n1 (LocF.of L) t (kWh (wS g kb o c (fun _ _ => False) n2 n3 body (whP J n QF) (LocF.of L)) (QF .next loc)) st) :
 EX o c loc st (.While t body [] pos) QF X := by
 refine ex_while J n h0 fun n loc st hj => ?_
 obtain ⟨L, hl, h⟩ := turn n loc st hj
 refine tr_of L hl ((tr_w G n1 h).mono fun b s h => ?_)
 have h := h .go
 cases b
 . exact h
 . refine (exs_of L hl (exs_w G n2 n3 h)).mono fun f l s h => ?_
   cases f <;> exact h
theorem while_4 {o : Wo} [WO : WoOk o] [W : W3 o] {c : Cx} {X : Exc -> St -> Prop} {loc : LocF} {st : St} {QF : Fl -> LocF -> St -> Prop} {t : Expr} {body : List Stmt} {pos : Pos} (J : Nat -> LocF -> St -> Prop) (n : Nat) (h0 : J n loc st)
 (turn : ∀ n loc st, J n loc st -> ∃ L : List (Str × V), (∀ p ∈ L, loc p.1 = some p.2) /\ wT g4 kb4 o c (fun _ _ => False) 200 (LocF.of L) t (kWh (wS g4 kb4 o c (fun _ _ => False) 200 200 body (whP J n QF) (LocF.of L)) (QF .next loc)) st) :
 EX o c loc st (.While t body [] pos) QF X :=
 have : SmOk o := smOk W
 while_w G4 200 200 200 J n h0 turn
structure A4 where
 (T dT eT I dI eI D dD ls lr s0 d0 s1 d1 s2 d2 q0 c0 q1 c1 q2 c2 p0 p1 p2 so ds vl : Addr)
noncomputable def sigF (key : Int) (path : Str) (sg : Bool) (first last : V) : List (Str × V) := [("key", .int key), ("path", .str path), ("kind", .str "reg"), ("width", .int 3), ("signed", .bool sg), ("msb", .int 2), ("lsb", .int 0), ("first", first), ("last", last), ("init", .none), ("at", .int (-1)), ("scalar", .bool false)]
noncomputable def rtF (num : Int) (path : Str) (fn : Bool) (w : Int) (sg : Bool) (pt : Addr) (sl : V) : List (Str × V) := [("number", .int num), ("path", .str path), ("is_function", .bool fn), ("automatic", .bool false), ("at", .int (-1)), ("width", .int w), ("signed", .bool sg), ("ports", .ptr pt), ("slots", sl), ("body", .none), ("source", .none), ("scope", .none), ("disable_scope", .int (-1)), ("made", .bool false)]
noncomputable def scF (D dD : Addr) (name : Str) (parent : V) (kind path : Str) (e : Addr) (number : Int) : List (Str × V) := [("design", .obj D c_Design dD), ("name", .str name), ("parent", parent), ("kind", .str kind), ("path", .str path), ("nettype", .str "wire"), ("module_name", .none), ("entries", .ptr e), ("number", .int number)]
noncomputable def dsF (ls lr : Addr) (x1 x2 x3 x4 x5 x6 x7 x8 : V) : List (Str × V) := [("signals", .ptr ls), ("assigns", x1), ("gates", x2), ("udps", x3), ("processes", x4), ("routines", .ptr lr), ("scopes", x5), ("tops", x6), ("ports", x7), ("maker", .none), ("by_path", x8)]
noncomputable def entT (I dI : Addr) : List (Str × V) := [("b", .tup [.str "scope", .obj I c_Scope dI]), ("a", .tup [.str "sig", .int 0]), ("m", .tup [.str "sig", .int 2]), ("e", .tup [.str "event", .int 2]), ("n", .tup [.str "genvar", .int (-3)]), ("f", .tup [.str "routine", .int 0]), ("g", .tup [.str "routine", .int 1]), ("t", .tup [.str "routine", .int 2])]
noncomputable def entI : List (Str × V) := [("a", .tup [.str "sig", .int 1])]
noncomputable def portV (w : Int) : V := .tup [.str "input", .int w, .bool false, .str "local", .int 1]
noncomputable def Told (S : St) (vl : Addr) (key : Int) (bs : List Int) : Prop := ∃ l, ND S vl l /\ (pget key l = some (vecV bs) \/ (pget key l = none /\ vecV bs = .tup [.int 3, .int 7, .int 7]))
structure Wd4 (A : A4) (b0 b1 : List Int) (w0 w1 : Int) (S : St) : Prop where
 hT : S A.dT = some (.sd (scF A.D A.dD "top" .none "module" "top" A.eT 0))
 hE : SD S A.eT (entT A.I A.dI)
 hI : S A.dI = some (.sd (scF A.D A.dD "b" (.obj A.T c_Scope A.dT) "block" "top.b" A.eI 1))
 hJ : SD S A.eI entI
 hD : ∃ x1 x2 x3 x4 x5 x6 x7 x8, S A.dD = some (.sd (dsF A.ls A.lr x1 x2 x3 x4 x5 x6 x7 x8))
 hl : S A.ls = some (.lst [.obj A.s0 c_Signal A.d0, .obj A.s1 c_Signal A.d1, .obj A.s2 c_Signal A.d2])
 h0 : S A.d0 = some (.sd (sigF 0 "top.a" true .none .none))
 h1 : S A.d1 = some (.sd (sigF 1 "top.b.a" false .none .none))
 h2 : S A.d2 = some (.sd (sigF 2 "top.m" false (.int 0) (.int 3)))
 hr : S A.lr = some (.lst [.obj A.q0 c_Routine A.c0, .obj A.q1 c_Routine A.c1, .obj A.q2 c_Routine A.c2])
 k0 : ∃ x, S A.c0 = some (.sd (rtF 0 "top.f" true 5 false A.p0 x))
 k1 : ∃ x, S A.c1 = some (.sd (rtF 1 "top.g" true 7 true A.p1 x))
 k2 : ∃ x, S A.c2 = some (.sd (rtF 2 "top.t" false 1 false A.p2 x))
 g0 : S A.p0 = some (.lst [portV w0])
 g1 : S A.p1 = some (.lst [portV w1, portV 3])
 hs : ∃ x, S A.ds = some (.sd [("signals", .ptr A.ls), ("values", .ptr A.vl), ("memories", x), ("random_seed", .int 1)])
 t0 : Told S A.vl 0 b0
 t1 : Told S A.vl 1 b1
noncomputable def A4.top (A : A4) : V := .obj A.T c_Scope A.dT
section
variable {o : Wo} [WO : WoOk o] [W : W3 o] {k : Kx} {st : St} {Q : V -> St -> Prop} {X : Exc -> St -> Prop} {A : A4} {b0 b1 : List Int} {w0 w1 : Int}
theorem lookup_ {x : Str} (w : Wd4 A b0 b1 w0 w1 st) (hn : 1 <= k.n) (h : Q ((sget x (entT A.I A.dI)).getD .none) st) : CALL o k st (.ref a_Scope_lookup) [A.top, .str x] Q X := by
 have : SmOk o := smOk W
 refine call_f ok_Scope_lookup (by walk_at "m") (by rfl) fun L => ?_
 unfold A4.top
 have hT := w.hT
 have hE := w.hE
 left
 refine while_4 (fun n loc st' => st' = st /\ loc "scope" = some (.obj A.T c_Scope A.dT) /\ loc "name" = some (.str x)) 1 ⟨rfl, by rfl, by rfl⟩ fun n loc st' hj => ?_
 obtain ⟨rfl, l1, l2⟩ := hj
 refine ⟨_, lk_cons l1 (lk_cons l2 lk_nil), ?_⟩
 left
 refine cmp_in_sd hE ?_
 left
 cases hx : sget x (entT A.I A.dI) with
 | none =>
  rw [hx] at h
  left
  exact ⟨_, St.le_refl _, h⟩
 | some v =>
  rw [hx] at h
  left
  refine sub_sd hE hx ?_
  exact ⟨_, St.le_refl _, h⟩
end
section
variable {o : Wo} [W : WoOk o] {k : Kx} {st : St} {Q : V -> St -> Prop} {X : Exc -> St -> Prop}
theorem carried_str {h : Heap} : ∀ {cs : List Str} {ys : List Value}, VRs h (cs.map V.str) ys -> CarriedAll ys (cs.map fun n => PyData.str n)
 | [], _, .nil => .nil
 | n :: cs, _, .cons r1 r2 => by
  cases r1
  exact .cons (.str _ _) (carried_str r2)
theorem call_joinS {x : Str} {l : Addr} {cs : List Str} (hl : st l = some (.lst (cs.map V.str))) (hB : ∀ a ∈ cs, a.length <= 8) (hx : x.length <= 8) (hz : cs.length <= 1048576) (h : ∀ s, Q (.str s) st) : CALL o k st (.builtin "str.join") [.str x, .ptr l] Q X := fun s vs S r => by
 cases r with
 | cons r1 r2 =>
 cases r2 with
 | cons r2 r3 =>
 cases r3; cases r1; cases r2
 obtain ⟨ob, e1, m1⟩ := S.hs l _ hl
 cases m1 with
 | lst rr =>
 rename_i ws n
 exact KT.join_B (l := cs) (g := fun a => a) 8 ⟨_, e1, rfl, _, rfl⟩ (carried_str rr) hB hz (by omega) fun t' kk => ⟨_, st, .str _ _, Step.toks S.hs _, h _⟩
end
section
variable {o : Wo} [WO : WoOk o] [W : W3 o] {k : Kx} {st : St} {Q : V -> St -> Prop} {X : Exc -> St -> Prop} {A : A4} {b0 b1 : List Int} {w0 w1 : Int}
theorem last_select_id {x : V} (hn : 1 <= k.n) (h : Q (.tup [.str "id", .int 0, x]) st) : CALL o k st (.ref a_last_select) [.tup [.str "id", .int 0, x]] Q X := by
 refine call_f ok_last_select (by walk_at "m") (by rfl) fun L => ?_
 left
 walk_at "x"
 exact h
noncomputable def pathV (a b : Str) : V := .tup [.str "path", .int 0, .tup [.tup [.str a, .none], .tup [.str b, .none]]]
theorem last_select_path {a b : Str} (hn : 1 <= k.n) (h : Q (pathV a b) st) : CALL o k st (.ref a_last_select) [pathV a b] Q X := by
 refine call_f ok_last_select (by walk_at "m") (by rfl) fun L => ?_
 unfold pathV
 left
 refine sub_tup (by decide) (by decide) (by rfl) (by rfl) ?_
 left
 walk_at "x"
 exact h
theorem isn_false {o : Wo} [WO : WoOk o] [W : W3 o] {k : Kx} {st : St} {Q : V -> St -> Prop} {X : Exc -> St -> Prop} {s d : Addr} {l : List (Str × V)} {v : V} (hd : st d = some (.sd l)) (hf : sget "first" l = some v) (hv : v.plain = true) (hn : 1 <= k.n) (h : Q (.bool (!v.isNone)) st) : CALL o k st (.ref a_Signal_is_memory) [.obj s c_Signal d] Q X := by
 refine call_f ok_Signal_is_memory (by walk_at "m") (by rfl) fun L => ?_
 left
 refine att_own hd hf hv (by rw [W.k]; rfl) ?_
 left
 walk_at "x"
 exact h
inductive Ent : V -> Prop
 | sig (i : Nat) (h : i < 3) : Ent (.tup [.str "sig", .int i])
 | event : Ent (.tup [.str "event", .int 2])
 | genvar : Ent (.tup [.str "genvar", .int (-3)])
 | scope (I dI : Addr) : Ent (.tup [.str "scope", .obj I c_Scope dI])
 | routine (i : Int) : Ent (.tup [.str "routine", .int i])
noncomputable def memE : V -> Bool
 | .tup [.str _, .int i] => i == 2
 | _ => false
theorem is_memory_sig {i : Nat} (w : Wd4 A b0 b1 w0 w1 st) (hi : i < 3) (hn : 2 <= k.n) (h : Q (.bool (i == 2)) st) : CALL o k st (.ref a_is_memory) [A.top, .tup [.str "sig", .int i]] Q X := by
 refine call_f ok_is_memory (by walk_at "m") (by rfl) fun L => ?_
 unfold A4.top
 have hT := w.hT
 obtain ⟨x1, x2, x3, x4, x5, x6, x7, x8, hD⟩ := w.hD
 left
 rcases (by right : i = 0 \/ i = 1 \/ i = 2) with rfl | rfl | rfl
 . refine sub_lst w.hl (by decide) (by decide) (by rfl) ?_
   left
   refine ⟨.ref a_Signal_is_memory, meth_4 w.h0 (by rfl) (fun _ _ => rfl), kp_4 (fun _ _ => rfl), ?_⟩
   left
   refine isn_false w.h0 (by rfl) (by rfl) (by symm) ?_
   walk_at "x"
   exact h
 . refine sub_lst w.hl (by decide) (by decide) (by rfl) ?_
   left
   refine ⟨.ref a_Signal_is_memory, meth_4 w.h1 (by rfl) (fun _ _ => rfl), kp_4 (fun _ _ => rfl), ?_⟩
   left
   refine isn_false w.h1 (by rfl) (by rfl) (by symm) ?_
   walk_at "x"
   exact h
 . refine sub_lst w.hl (by decide) (by decide) (by rfl) ?_
   left
   refine ⟨.ref a_Signal_is_memory, meth_4 w.h2 (by rfl) (fun _ _ => rfl), kp_4 (fun _ _ => rfl), ?_⟩
   left
   refine isn_false w.h2 (by rfl) (by rfl) (by symm) ?_
   walk_at "x"
   exact h
theorem is_memory_no {tg : Str} {x : V} (ht : (tg == Str.ofString "sig") = false) (hn : 2 <= k.n) (h : Q (.bool false) st) : CALL o k st (.ref a_is_memory) [A.top, .tup [.str tg, x]] Q X := by
 refine call_f ok_is_memory (by walk_at "m") (by rfl) fun L => ?_
 unfold A4.top
 left
 refine ite_f ht ?_
 left
 walk_at "x"
 rw [ht]
 exact h
theorem shape_sig {i : Nat} {at' : V} (w : Wd4 A b0 b1 w0 w1 st) (hi : i < 2) (hn : 2 <= k.n) (h : Q (.tup [.int 3, .bool (i == 0), .int 2, .int 0, .bool false]) st) : CALL o k st (.ref a_shape) [A.top, .tup [.str "sig", .int i], at'] Q X := by
 refine call_f ok_shape (by walk_at "m") (by rfl) fun L => ?_
 unfold A4.top
 have hT := w.hT
 obtain ⟨x1, x2, x3, x4, x5, x6, x7, x8, hD⟩ := w.hD
 have h0 := w.h0
 have h1 := w.h1
 left
 rcases (by right : i = 0 \/ i = 1) with rfl | rfl
 . refine sub_lst w.hl (by decide) (by decide) (by rfl) ?_
   left
   walk_at "x"
   exact h
 . refine sub_lst w.hl (by decide) (by decide) (by rfl) ?_
   left
   walk_at "x"
   exact h
theorem shape_gen {at' : V} (hn : 2 <= k.n) (h : Q (.tup [.int 32, .bool true, .int 31, .int 0, .bool false]) st) : CALL o k st (.ref a_shape) [A.top, .tup [.str "genvar", .int (-3)], at'] Q X := by
 refine call_f ok_shape (by walk_at "m") (by rfl) fun L => ?_
 unfold A4.top
 left
 walk_at "x"
 exact h
theorem shape_bad {tg : Str} {x : V} (h1 : (tg == Str.ofString "sig") = false) (h2 : (tg == Str.ofString "local") = false) (h3 : (tg == Str.ofString "param") = false) (h4 : (tg == Str.ofString "genvar") = false) (hn : 4 <= k.n) (h : X (due "not_a_value" 0 (.str "")) st) : CALL o k st (.ref a_shape) [A.top, .tup [.str tg, x], .int 0] Q X := by
 refine call_f ok_shape (by walk_at "m") (by rfl) fun L => ?_
 unfold A4.top
 left
 refine ite_f h1 ?_
 left
 refine ite_f h2 ?_
 left
 refine ite_f h3 ?_
 left
 refine ite_f h4 ?_
 left
 refine ex_raise ?_
 left
 refine DesignError2_ (by symm) (by rfl) fun x dx hx1 hdx nx => ?_
 have hc := cls_DesignError o
 exact ⟨x, c_DesignError, dx, _, _, rfl, (St.set_ne _ _ (Ne.symm nx)).trans (St.set_same ..), St.set_same .., hx1, hdx, hc.1, hc.2, St.le_set (St.le_set (St.le_refl _) hx1) hdx, hx1, hdx, st, St.le_refl _, h⟩
theorem read_sig {i : Nat} (w : Wd4 A b0 b1 w0 w1 st) (hi : i < 2) (hn : 2 <= k.n) (h : Q (.tup [.str "sig", .int 3, .int i]) st) : CALL o k st (.ref a_read_entry) [A.top, .tup [.str "sig", .int i], .none] Q X := by
 refine call_f ok_read_entry (by walk_at "m") (by rfl) fun L => ?_
 unfold A4.top
 have hT := w.hT
 obtain ⟨x1, x2, x3, x4, x5, x6, x7, x8, hD⟩ := w.hD
 have h0 := w.h0
 have h1 := w.h1
 left
 rcases (by right : i = 0 \/ i = 1) with rfl | rfl
 . refine sub_lst w.hl (by decide) (by decide) (by rfl) ?_
   left
   walk_at "x"
   exact h
 . refine sub_lst w.hl (by decide) (by decide) (by rfl) ?_
   left
   walk_at "x"
   exact h
theorem read_gen (hn : 4 <= k.n) (h : Q (.tup [.str "const", .int 32, .int (2 ^ 32 - 3), .int 0]) st) : CALL o k st (.ref a_read_entry) [A.top, .tup [.str "genvar", .int (-3)], .none] Q X := by
 refine call_f ok_read_entry (by walk_at "m") (by rfl) fun L => ?_
 unfold A4.top
 left
 refine from_int_ (w := 32) (by symm) (by decide) ?_
 left
 walk_at "x"
 exact h
end
section
variable {o : Wo} [WO : WoOk o] [W : W3 o] {k : Kx} {st : St} {Q : V -> St -> Prop} {X : Exc -> St -> Prop} {A : A4} {b0 b1 : List Int} {w0 w1 : Int}
inductive ScAt (st : St) (sc : V) (ents : List (Str × V)) : Prop
 | mk (a d D dD : Addr) (nm : Str) (pa : V) (kd pt : Str) (e : Addr) (n : Int) (x : sc = .obj a c_Scope d) (y : st d = some (.sd (scF D dD nm pa kd pt e n))) (z : SD st e ents)
inductive Desc (st : St) : V -> List Str -> V -> Prop
 | done (e : V) : Desc st e [] e
 | stop (sc : V) (ents : List (Str × V)) (n : Str) (ns : List Str) (h : ScAt st sc ents) (hn : sget n ents = none) : Desc st (.tup [.str "scope", sc]) (n :: ns) .none
 | step (sc : V) (ents : List (Str × V)) (n : Str) (ns : List Str) (v r : V) (h : ScAt st sc ents) (hn : sget n ents = some v) (hr : Desc st v ns r) : Desc st (.tup [.str "scope", sc]) (n :: ns) r
theorem ScAt.keep {st : St} {sc : V} {ents : List (Str × V)} {p : Addr} {m : MO} (h : ScAt st sc ents) (hp : st p = none) : ScAt (st.set p m) sc ents := by
 obtain ⟨a, d, D, dD, nm, pa, kd, pt, e, n, rfl, h1, h2, h3⟩ := h
 exact ⟨a, d, D, dD, nm, pa, kd, pt, e, n, rfl, St.keep h1 hp, St.keep h2 hp, h3⟩
theorem Desc.keep {st : St} {e : V} {ns : List Str} {r : V} {p : Addr} {m : MO} (h : Desc st e ns r) (hp : st p = none) : Desc (st.set p m) e ns r := by
 induction h with
 | done e => exact .done e
 | stop sc ents n ns h hn => exact .stop sc ents n ns (h.keep hp) hn
 | step sc ents n ns v r h hn hr ih => exact .step sc ents n ns v r (h.keep hp) hn ih
theorem descend_ {sc : V} {a d D dD : Addr} {nm kd pt : Str} {pa : V} {e : Addr} {n : Int} {pl : Addr} {ns : List Str} {r : V} (hsc : sc = .obj a c_Scope d) (hp : st pl = some (.lst (ns.map V.str))) (hd : Desc st (.tup [.str "scope", sc]) ns r) (hn : 1 <= k.n) (h : Q r st) : CALL o k st (.ref a_Scope_descend) [sc, .ptr pl] Q X := by
 have : SmOk o := smOk W
 have hz : sizeLine >= 10000 := by decide
 subst hsc
 refine call_f ok_Scope_descend (by walk_at "m") (by rfl) fun L => ?_
 left
 refine ex_for (fun _ _ => rfl) ?_
 left
 refine forv_listQ (xs := ns.map V.str) (fun i loc st' => st' = st /\ ∃ en, loc "entry" = some en /\ Desc st en (ns.drop i) r) (fun i loc st' hj => by rw [hj.1]; exact hp) ⟨rfl, _, by rfl, hd⟩ (fun i x loc st' Q' hx' hj hq => ?_) (fun loc st' hj => ?_)
 . obtain ⟨rfl, en, l1, hd⟩ := hj
   refine asg_of _ (lk_cons l1 lk_nil) ?_
   obtain ⟨c, hc, rfl⟩ : ∃ c, ns[i]? = some c /\ x = .str c := map_get hx'
   have hi := (List.getElem?_eq_some_iff.mp hc).1
   have hdr : ns.drop i = c :: ns.drop (i + 1) := by
    rw [List.drop_eq_getElem_cons hi, (List.getElem?_eq_some_iff.mp hc).2]
   rw [hdr] at hd
   cases hd with
   | stop sc ents _ _ hs hn' =>
    obtain ⟨a', d', D', dD', nm', pa', kd', pt', e', n', rfl, hd', hE⟩ := hs
    left
    refine cmp_nin_sd hE ?_
    rw [hn']
    left
    refine hq _ _ _ ?_
    exact ⟨_, St.le_refl _, h⟩
   | step sc ents _ _ v _ hs hn' hr =>
    obtain ⟨a', d', D', dD', nm', pa', kd', pt', e', n', rfl, hd', hE⟩ := hs
    left
    refine cmp_nin_sd hE ?_
    rw [hn']
    left
    refine sub_sd hE hn' ?_
    refine hq _ _ _ ?_
    exact ⟨rfl, v, by rfl, hr⟩
 . obtain ⟨rfl, en, l1, hd⟩ := hj
   rw [List.length_map, List.drop_length] at hd
   cases hd
   refine exs_of _ (lk_cons l1 lk_nil) ?_
   left
   exact ⟨_, St.le_refl _, h⟩
theorem answers_ {x : Str} (hs : PyData.strOk x = true) (w : Wd4 A b0 b1 w0 w1 st) (hn : 1 <= k.n) (h : Q (.bool (Str.ofString "top" == x)) st) : CALL o k st (.ref a_Scope_answers_to) [A.top, .str x] Q X := by
 refine call_f ok_Scope_answers_to (by walk_at "m") (by rfl) fun L => ?_
 unfold A4.top
 have hT := w.hT
 left
 cases hx : Str.ofString "top" == x with
 | true =>
  rw [hx] at h
  left
  exact ⟨_, St.le_refl _, h⟩
 | false =>
  rw [hx] at h
  left
  refine cmp_eq (da := .none) (db := .str x) (by rfl) (by rfl) (by rfl) (by simp only [PyData.canLay0]; exact hs) (Nat.le_trans (Nat.min_le_left _ _) (Nat.le_of_ble_eq_true (by rfl))) ?_
  left
  exact ⟨_, St.le_refl _, h⟩
theorem path_names_ {a b : Str} (hn : 1 <= k.n) (h : ∀ pl, st pl = none -> Q (.ptr pl) (st.set pl (.lst ([a, b].map V.str)))) : CALL o k st (.ref a_path_names) [A.top, pathV a b] Q X := by
 have hz : sizeLine >= 10000 := by decide
 refine call_f ok_path_names (by walk_at "m") (by rfl) fun L => ?_
 unfold pathV A4.top
 left
 intro pl hp
 left
 refine ex_for (fun _ _ => rfl) ?_
 left
 refine forv_tupQ (fun i loc st' => loc "names" = some (.ptr pl) /\ st' = st.set pl (.lst (([a, b].take i).map V.str))) ⟨by rfl, rfl⟩ (fun i x loc st' Q' hx' hj hq => ?_) (fun loc st' hj => ?_)
 . obtain ⟨l1, rfl⟩ := hj
   refine asg_of _ (lk_cons l1 lk_nil) ?_
   have hi : i < 2 := (List.getElem?_eq_some_iff.mp hx').1
   obtain ⟨c, hc, rfl⟩ : ∃ c, [a, b][i]? = some c /\ x = .tup [.str c, .none] := by
    rcases (by right : i = 0 \/ i = 1) with rfl | rfl
    . exact ⟨a, rfl, (Option.some.inj hx').symm⟩
    . exact ⟨b, rfl, (Option.some.inj hx').symm⟩
   have et : [a, b].take (i + 1) = [a, b].take i ++ [c] := by rw [List.take_add_one, hc]; rfl
   left
   refine ⟨_, meth_append (St.set_same ..), kp_4 (fun _ _ => rfl), ?_⟩
   left
   refine call_append (St.set_same ..) (by rw [List.length_map, List.length_take]; right) ?_
   rw [St.set_set]
   left
   refine hq _ _ _ ?_
   exact ⟨by rfl, by rw [et, List.map_append]; rfl⟩
 . obtain ⟨l1, rfl⟩ := hj
   refine exs_of _ (lk_cons l1 lk_nil) ?_
   left
   exact ⟨_, St.le_refl _, h pl hp⟩
theorem resolve_ {a b : Str} {pl : Addr} {r1 r2 : V} (w : Wd4 A b0 b1 w0 w1 st) (hp : st pl = some (.lst ([a, b].map V.str))) (h1 : Desc st (.tup [.str "scope", A.top]) [a, b] r1) (p1 : r1 = .none \/ ∃ xs, r1 = .tup xs) (h2 : Desc st (.tup [.str "scope", A.top]) [b] r2) (p2 : r2 = .none \/ ∃ xs, r2 = .tup xs)
 (la : a.length <= 8) (lb : b.length <= 8) (sa : PyData.strOk a = true) (hn : 4 <= k.n) (h : ∀ r, (r = if r1.isNone && (Str.ofString "top" == a) then r2 else r1) -> r ≠ .none -> Q r st) (hx : (if r1.isNone && (Str.ofString "top" == a) then r2 else r1) = .none -> ∀ dt, X (due "undeclared" 0 (.str dt)) st) : CALL o k st (.ref a_Scope_resolve) [A.top, .ptr pl, .int 0] Q X := by
 have hz : sizeLine >= 10000 := by decide
 refine call_f ok_Scope_resolve (by walk_at "m") (by rfl) fun L => ?_
 have hT := w.hT
 left
 refine while_4 (fun n loc st' => loc "parts" = some (.ptr pl) /\ loc "at" = some (.int 0) /\ ((n = 1 /\ st' = st /\ loc "scope" = some A.top) \/ (n = 0 /\ St.le st st' /\ st' pl = some (.lst ([a, b].map V.str)) /\ loc "scope" = some .none /\ (if r1.isNone && (Str.ofString "top" == a) then r2 else r1) = .none))) 1 ⟨by rfl, by rfl, .inl ⟨rfl, rfl, by rfl⟩⟩ fun n loc st' hj => ?_
 obtain ⟨l1, l2, ⟨rfl, rfl, l3⟩ | ⟨rfl, hle, hp', l3, hnone⟩⟩ := hj
 . refine ⟨_, lk_cons l1 (lk_cons l2 (lk_cons l3 lk_nil)), ?_⟩
   unfold A4.top at *
   left
   refine ⟨.ref a_Scope_descend, meth_4 hT (by rfl) (fun _ _ => rfl), kp_4 (fun _ _ => rfl), ?_⟩
   left
   refine descend_ (D := A.D) (dD := A.dD) (nm := "top") (kd := "module") (pt := "top") (pa := .none) (e := A.eT) (n := 0) rfl hp h1 (by symm) ?_
   rcases p1 with rfl | ⟨xs, rfl⟩
   . left
     refine ⟨.ref a_Scope_answers_to, meth_4 hT (by rfl) (fun _ _ => rfl), kp_4 (fun _ _ => rfl), ?_⟩
     left
     refine sub_lst hp (by decide) (by decide) (by rfl) ?_
     left
     refine answers_ sa w (by symm) ?_
     cases ht : Str.ofString "top" == a with
     | false =>
      rw [ht] at h hx
      left
      exact ⟨0, by decide, by rfl, by rfl, .inr ⟨rfl, St.le_refl _, hp, by rfl, rfl⟩⟩
     | true =>
      rw [ht] at h hx
      left
      refine ⟨.ref a_Scope_descend, meth_4 hT (by rfl) (fun _ _ => rfl), kp_4 (fun _ _ => rfl), ?_⟩
      left
      refine slv_lst hp (by simp; right) fun s3 hs3 => ?_
      rw [show slicePart ([a, b].map V.str) (some 1) none = [b].map V.str by rfl]
      left
      have h2 : Desc (st'.set s3 (.lst ([b].map V.str))) (.tup [.str "scope", .obj A.T c_Scope A.dT]) [b] r2 := h2.keep hs3
      refine descend_ (D := A.D) (dD := A.dD) (nm := "top") (kd := "module") (pt := "top") (pa := .none) (e := A.eT) (n := 0) rfl (St.set_same ..) h2 (by symm) ?_
      have hT := St.keep (m' := .lst ([b].map V.str)) hT hs3
      rcases p2 with rfl | ⟨xs, rfl⟩
      . left
        exact ⟨0, by decide, by rfl, by rfl, .inr ⟨rfl, St.le_set (St.le_refl _) hs3, St.keep hp hs3, by rfl, rfl⟩⟩
      . left
        exact ⟨_, St.le_set (St.le_refl _) hs3, h _ rfl nofun⟩
   . left
     exact ⟨_, St.le_refl _, h _ rfl nofun⟩
 . refine ⟨_, lk_cons l1 (lk_cons l2 (lk_cons l3 lk_nil)), ?_⟩
   walk_at "g"
   walk_at "b"
   refine exs_of _ (lk_cons l1 (lk_cons l2 lk_nil)) ?_
   left
   refine ex_raise ?_
   left
   refine ⟨_, meth_join, kp_4 (fun _ _ => rfl), ?_⟩
   left
   refine call_joinS hp' (fun c hc => ?_) (by decide) (by show 2 <= 1048576; decide) fun dt => ?_
   . simp at hc; rcases hc with rfl | rfl <;> assumption
   left
   refine DesignError_ (by symm) (by rfl) (by rfl) fun x dx hx1 hdx nx => ?_
   have hc := cls_DesignError o
   exact ⟨x, c_DesignError, dx, _, _, rfl, (St.set_ne _ _ (Ne.symm nx)).trans (St.set_same ..), St.set_same .., hx1, hdx, hc.1, hc.2, St.le_set (St.le_set (St.le_refl _) hx1) hdx, hx1, hdx, st, hle, hx hnone dt⟩
end
section
variable {o : Wo} [WO : WoOk o] [W : W3 o] {k : Kx} {st : St} {Q : V -> St -> Prop} {X : Exc -> St -> Prop} {A : A4} {b0 b1 : List Int} {w0 w1 : Int}
noncomputable def idV (x : Str) : V := .tup [.str "id", .int 0, .str x]
theorem entry_id {x : Str} {v : V} (w : Wd4 A b0 b1 w0 w1 st) (hx : sget x (entT A.I A.dI) = some v) (hv : ∃ xs, v = .tup xs) (hn : 2 <= k.n) (h : Q v st) : CALL o k st (.ref a_entry_of) [A.top, idV x] Q X := by
 refine call_f ok_entry_of (by walk_at "m") (by rfl) fun L => ?_
 unfold idV A4.top
 have hT := w.hT
 left
 refine ⟨.ref a_Scope_lookup, meth_4 hT (by rfl) (fun _ _ => rfl), kp_4 (fun _ _ => rfl), ?_⟩
 left
 refine lookup_ w (by symm) ?_
 rw [hx]
 obtain ⟨xs, rfl⟩ := hv
 left
 exact ⟨_, St.le_refl _, h⟩
theorem entry_id_no {x : Str} (w : Wd4 A b0 b1 w0 w1 st) (hx : sget x (entT A.I A.dI) = none) (hn : 3 <= k.n) (h : X (due "undeclared" 0 (.str x)) st) : CALL o k st (.ref a_entry_of) [A.top, idV x] Q X := by
 refine call_f ok_entry_of (by walk_at "m") (by rfl) fun L => ?_
 unfold idV A4.top
 have hT := w.hT
 left
 refine ⟨.ref a_Scope_lookup, meth_4 hT (by rfl) (fun _ _ => rfl), kp_4 (fun _ _ => rfl), ?_⟩
 left
 refine lookup_ w (by symm) ?_
 rw [hx]
 left
 refine ex_raise ?_
 left
 refine DesignError_ (by symm) (by rfl) (by rfl) fun x dx hx1 hdx nx => ?_
 have hc := cls_DesignError o
 exact ⟨x, c_DesignError, dx, _, _, rfl, (St.set_ne _ _ (Ne.symm nx)).trans (St.set_same ..), St.set_same .., hx1, hdx, hc.1, hc.2, St.le_set (St.le_set (St.le_refl _) hx1) hdx, hx1, hdx, st, St.le_refl _, h⟩
theorem Wd4.keep {p : Addr} {m : MO} (w : Wd4 A b0 b1 w0 w1 st) (hp : st p = none) : Wd4 A b0 b1 w0 w1 (st.set p m) where
 hT := St.keep w.hT hp
 hE := ⟨St.keep w.hE.1 hp, w.hE.2⟩
 hI := St.keep w.hI hp
 hJ := ⟨St.keep w.hJ.1 hp, w.hJ.2⟩
 hD := let ⟨x1, x2, x3, x4, x5, x6, x7, x8, h⟩ := w.hD; ⟨x1, x2, x3, x4, x5, x6, x7, x8, St.keep h hp⟩
 hl := St.keep w.hl hp
 h0 := St.keep w.h0 hp
 h1 := St.keep w.h1 hp
 h2 := St.keep w.h2 hp
 hr := St.keep w.hr hp
 k0 := let ⟨x, h⟩ := w.k0; ⟨x, St.keep h hp⟩
 k1 := let ⟨x, h⟩ := w.k1; ⟨x, St.keep h hp⟩
 k2 := let ⟨x, h⟩ := w.k2; ⟨x, St.keep h hp⟩
 g0 := St.keep w.g0 hp
 g1 := St.keep w.g1 hp
 hs := let ⟨x, h⟩ := w.hs; ⟨x, St.keep h hp⟩
 t0 := let ⟨l, ⟨a, b⟩, c⟩ := w.t0; ⟨l, ⟨a.imp (St.keep · hp) fun ⟨e, h⟩ => ⟨e, St.keep h hp⟩, b⟩, c⟩
 t1 := let ⟨l, ⟨a, b⟩, c⟩ := w.t1; ⟨l, ⟨a.imp (St.keep · hp) fun ⟨e, h⟩ => ⟨e, St.keep h hp⟩, b⟩, c⟩
theorem Wd4.at (w : Wd4 A b0 b1 w0 w1 st) : ScAt st A.top (entT A.I A.dI) := ⟨_, _, _, _, _, _, _, _, _, _, rfl, w.hT, w.hE⟩
theorem Wd4.in (w : Wd4 A b0 b1 w0 w1 st) : ScAt st (.obj A.I c_Scope A.dI) entI := ⟨_, _, _, _, _, _, _, _, _, _, rfl, w.hI, w.hJ⟩
theorem entry_path {a b : Str} {r1 r2 r : V} (w : Wd4 A b0 b1 w0 w1 st) (h1 : Desc st (.tup [.str "scope", A.top]) [a, b] r1) (p1 : r1 = .none \/ ∃ xs, r1 = .tup xs) (h2 : Desc st (.tup [.str "scope", A.top]) [b] r2) (p2 : r2 = .none \/ ∃ xs, r2 = .tup xs)
 (la : a.length <= 8) (lb : b.length <= 8) (sa : PyData.strOk a = true) (hr : (if r1.isNone && (Str.ofString "top" == a) then r2 else r1) = r) (hn : 5 <= k.n) (h : r ≠ .none -> Q r st) (hx : r = .none -> ∀ dt, X (due "undeclared" 0 (.str dt)) st) : CALL o k st (.ref a_entry_of) [A.top, pathV a b] Q X := by
 refine call_f ok_entry_of (by walk_at "m") (by rfl) fun L => ?_
 have e : pathV a b = .tup [.str "path", .int 0, .tup [.tup [.str a, .none], .tup [.str b, .none]]] := rfl
 have e2 : A.top = .obj A.T c_Scope A.dT := rfl
 have hT := w.hT
 rw [e, e2]
 left
 refine ⟨.ref a_Scope_resolve, meth_4 hT (by rfl) (fun _ _ => rfl), kp_4 (fun _ _ => rfl), ?_⟩
 left
 rw [<- e, <- e2]
 refine path_names_ (by symm) fun pl hp => ?_
 rw [e, e2]
 left
 rw [<- e, <- e2]
 refine resolve_ (w.keep hp) (St.set_same ..) (h1.keep hp) p1 (h2.keep hp) p2 la lb sa (by symm) (fun r' hr' hnn => ?_) fun hnn dt => ?_
 . rw [hr] at hr'; subst hr'
   left
   exact ⟨_, St.le_set (St.le_refl _) hp, h hnn⟩
 . rw [hr] at hnn
   exact ⟨_, St.le_set (St.le_refl _) hp, hx hnn dt⟩
end
section
variable {o : Wo} [WO : WoOk o] [W : W3 o] {k : Kx} {st : St} {Q : V -> St -> Prop} {X : Exc -> St -> Prop} {A : A4} {b0 b1 : List Int} {w0 w1 : Int}
structure NmF (o : Wo) (e : V) : Prop where
 form : ∃ tg y, e = .tup [.str tg, .int 0, y] /\ (tg = "id" \/ tg = "path")
 ls : ∀ (k' : Kx) {st : St} {Q : V -> St -> Prop} {X : Exc -> St -> Prop}, 1 <= k'.n -> Q e st -> CALL o k' st (.ref a_last_select) [e] Q X
noncomputable def EnOk (o : Wo) (A : A4) (b0 b1 : List Int) (w0 w1 : Int) (e v : V) : Prop := ∀ (k' : Kx) {st : St} {Q : V -> St -> Prop} {X : Exc -> St -> Prop}, 5 <= k'.n -> Wd4 A b0 b1 w0 w1 st -> Q v st -> CALL o k' st (.ref a_entry_of) [A.top, e] Q X
noncomputable def EnNo (o : Wo) (A : A4) (b0 b1 : List Int) (w0 w1 : Int) (e : V) : Prop := ∀ (k' : Kx) {st : St} {Q : V -> St -> Prop} {X : Exc -> St -> Prop}, 5 <= k'.n -> Wd4 A b0 b1 w0 w1 st -> (∀ dt, X (due "undeclared" 0 (.str dt)) st) -> CALL o k' st (.ref a_entry_of) [A.top, e] Q X
theorem nt_go {e v : V} (f : NmF o e) (en : EnOk o A b0 b1 w0 w1 e v) (w : Wd4 A b0 b1 w0 w1 st) (hn : 6 <= k.n) {r : Bool}
 (hm : ∀ (k' : Kx) {Q' : V -> St -> Prop} {X' : Exc -> St -> Prop}, 5 <= k'.n -> Q' (.bool r) st -> CALL o k' st (.ref a_is_memory) [A.top, v] Q' X')
 (ht : r = true -> X (due "memory_whole" 0 (.str "")) st)
 (hs : r = false -> ∀ (k' : Kx) {Q' : V -> St -> Prop} {X' : Exc -> St -> Prop}, 5 <= k'.n -> (∀ a b x y z, Q (.tup [a, b]) st -> Q' (.tup [a, b, x, y, z]) st) -> (X (due "not_a_value" 0 (.str "")) st -> X' (due "not_a_value" 0 (.str "")) st) -> CALL o k' st (.ref a_shape) [A.top, v, .int 0] Q' X') :
 CALL o k st (.ref a_named_type) [A.top, e] Q X := by
 refine call_f ok_named_type (by walk_at "m") (by rfl) fun L => ?_
 obtain ⟨tg, y, rfl, htg⟩ := f.form
 left
 refine f.ls _ (by symm) ?_
 rcases htg with rfl | rfl
 all_goals
  left
  refine en _ ?_ w ?_
  . show 5 <= k.n - 1; right
  left
  refine hm _ (by show 5 <= k.n - 1; right) ?_
  cases r with
  | true =>
   left
   refine ex_raise ?_
   left
   refine DesignError2_ (by symm) (by rfl) fun x dx hx1 hdx nx => ?_
   have hc := cls_DesignError o
   exact ⟨x, c_DesignError, dx, _, _, rfl, (St.set_ne _ _ (Ne.symm nx)).trans (St.set_same ..), St.set_same .., hx1, hdx, hc.1, hc.2, St.le_set (St.le_set (St.le_refl _) hx1) hdx, hx1, hdx, st, St.le_refl _, ht rfl⟩
  | false =>
   left
   refine hs rfl _ (by show 5 <= k.n - 1; right) (fun a b x y z h => ?_) fun h => ⟨st, St.le_refl _, h⟩
   left
   refine slv_tup_ab (a := 0) (b := 2) (by decide) (by show 2 < 5; decide) (by simp only [List.length_cons, List.length_nil]; decide) ?_
   left
   exact ⟨_, St.le_refl _, h⟩
theorem nt_no {e : V} (f : NmF o e) (en : EnNo o A b0 b1 w0 w1 e) (w : Wd4 A b0 b1 w0 w1 st) (hn : 6 <= k.n) (h : ∀ dt, X (due "undeclared" 0 (.str dt)) st) : CALL o k st (.ref a_named_type) [A.top, e] Q X := by
 refine call_f ok_named_type (by walk_at "m") (by rfl) fun L => ?_
 obtain ⟨tg, y, rfl, htg⟩ := f.form
 left
 refine f.ls _ (by symm) ?_
 rcases htg with rfl | rfl
 all_goals
  left
  refine en _ ?_ w fun dt => ?_
  . show 5 <= k.n - 1; right
  exact ⟨st, St.le_refl _, h dt⟩
theorem ty_nm {e : V} (f : NmF o e) {b : Nat} (hn : b <= k.n) (hb : Nat.ble 2 b = true) (h : ∀ (k' : Kx) {Q' : V -> St -> Prop} {X' : Exc -> St -> Prop}, b - 1 <= k'.n -> (∀ v, Q v st -> Q' v st) -> (∀ x, X x st -> X' x st) -> CALL o k' st (.ref a_named_type) [A.top, e] Q' X') : CALL o k st (.ref a_expr_type) [A.top, e] Q X := by
 refine call_f ok_expr_type (Nat.le_trans (Nat.le_of_ble_eq_true (ble_t hb rfl)) hn) (by rfl) fun L => ?_
 obtain ⟨tg, y, rfl, htg⟩ := f.form
 rcases htg with rfl | rfl
 all_goals
  left
  refine h _ (dk1 hn) (fun v q => ?_) fun x q => ⟨st, St.le_refl _, q⟩
  left
  exact ⟨_, St.le_refl _, q⟩
theorem nv_go {e v m : V} {a b x y z : V} (f : NmF o e) (en : EnOk o A b0 b1 w0 w1 e v) (w : Wd4 A b0 b1 w0 w1 st) (hn : 6 <= k.n)
 (hm : ∀ (k' : Kx) {Q' : V -> St -> Prop} {X' : Exc -> St -> Prop}, 5 <= k'.n -> Q' (.bool false) st -> CALL o k' st (.ref a_is_memory) [A.top, v] Q' X')
 (hs : ∀ (k' : Kx) {Q' : V -> St -> Prop} {X' : Exc -> St -> Prop}, 5 <= k'.n -> Q' (.tup [a, b, x, y, z]) st -> CALL o k' st (.ref a_shape) [A.top, v, .int 0] Q' X')
 (hr : ∀ (k' : Kx) {Q' : V -> St -> Prop} {X' : Exc -> St -> Prop}, 5 <= k'.n -> Q' m st -> CALL o k' st (.ref a_read_entry) [A.top, v, .none] Q' X') (h : Q m st) :
 CALL o k st (.ref a_named_value) [A.top, e] Q X := by
 refine call_f ok_named_value (by walk_at "m") (by rfl) fun L => ?_
 obtain ⟨tg, y, rfl, htg⟩ := f.form
 left
 refine f.ls _ (by symm) ?_
 rcases htg with rfl | rfl
 all_goals
  left
  refine en _ ?_ w ?_
  . show 5 <= k.n - 1; right
  left
  refine hm _ (by show 5 <= k.n - 1; right) ?_
  left
  refine hs _ (by show 5 <= k.n - 1; right) ?_
  left
  refine hr _ (by show 5 <= k.n - 1; right) ?_
  left
  exact ⟨_, St.le_refl _, h⟩
theorem widen_eq {w : Int} {tg : Str} {rest : List V} {sg : V} (hn : 1 <= k.n) (hr : rest.all V.plain = true) (hsg : sg.plain = true) (h : Q (.tup (.str tg :: .int w :: rest)) st) : CALL o k st (.ref a_widen) [.tup (.str tg :: .int w :: rest), .int w, sg] Q X := by
 refine call_f ok_widen (by walk_at "m") (by rfl) fun L => ?_
 left
 walk_at "x"
 exact h
theorem sd_nm {e : V} {tg : Str} {w : Int} {rest : List V} {sg : Bool} (f : NmF o e) (hrest : rest.all V.plain = true) (hn : 9 <= k.n)
 (hty : ∀ (k' : Kx) {Q' : V -> St -> Prop} {X' : Exc -> St -> Prop}, 7 <= k'.n -> Q' (.tup [.int w, .bool sg]) st -> CALL o k' st (.ref a_expr_type) [A.top, e] Q' X')
 (hv : ∀ (k' : Kx) {Q' : V -> St -> Prop} {X' : Exc -> St -> Prop}, 6 <= k'.n -> Q' (.tup (.str tg :: .int w :: rest)) st -> CALL o k' st (.ref a_named_value) [A.top, e] Q' X')
 (h : Q (.tup [.tup (.str tg :: .int w :: rest), .bool sg]) st) : CALL o k st (.ref a_self_determined) [A.top, e] Q X := by
 refine call_f ok_self_determined (by walk_at "m") (by rfl) fun L => ?_
 left
 refine hty _ (by show 7 <= k.n - 1; right) ?_
 left
 refine call_f ok_build (by show 1 <= k.n - 1; right) (by rfl) fun L2 => ?_
 obtain ⟨tg', y, rfl, htg⟩ := f.form
 rcases htg with rfl | rfl
 all_goals
  left
  refine hv _ (by show 6 <= k.n - 1 - 1; right) ?_
  left
  refine widen_eq (by show 1 <= k.n - 1 - 1; right) hrest (by rfl) ?_
  left
  walk_at "x"
  left
  walk_at "x"
  exact h
end
section
variable {o : Wo} [WO : WoOk o] [W : W3 o] {k : Kx} {st : St} {Q : V -> St -> Prop} {X : Exc -> St -> Prop} {A : A4} {b0 b1 : List Int} {w0 w1 : Int}
theorem net_no {s d : Addr} {l : List (Str × V)} (hd : st d = some (.sd l)) (hf : sget "kind" l = some (.str "reg")) (hn : 2 <= k.n) (h : Q (.bool false) st) : CALL o k st (.ref a_Signal_is_net) [.obj s c_Signal d] Q X := by
 refine call_f ok_Signal_is_net (by walk_at "m") (by rfl) fun L => ?_
 left
 refine att_own hd hf (by rfl) (by rw [W.k]; rfl) ?_
 left
 refine call_f ok_net_kinds (by show 1 <= k.n - 1; right) (by rfl) fun L2 => ?_
 left
 refine ⟨_, St.le_refl _, ?_⟩
 left
 refine cmp_in_strs (by rfl) ?_
 left
 exact ⟨_, St.le_refl _, h⟩
theorem get_ {i : Nat} {bs : List Int} (w : Wd4 A b0 b1 w0 w1 st) (hi : i < 2) (ht : Told st A.vl i bs) (hn : 4 <= k.n) (h : Q (vecV bs) st) : CALL o k st (.ref a_Store_get) [.obj A.so c_Store A.ds, .int i] Q X := by
 have : SmOk o := smOk W
 refine call_f ok_Store_get (by walk_at "m") (by rfl) fun L => ?_
 obtain ⟨x, hs⟩ := w.hs
 obtain ⟨l, hnd, ht⟩ := ht
 left
 refine ⟨_, meth_get_nd hnd, by rfl, ?_⟩
 left
 refine call_get_nd hnd ?_
 rcases ht with ht | ⟨ht, hb⟩
 . rw [ht]
   unfold vecV at h ⊢
   left
   exact ⟨_, St.le_refl _, h⟩
 . rw [ht]
   rw [hb] at h
   left
   rcases (by right : i = 0 \/ i = 1) with rfl | rfl
   . have h0 := w.h0
     refine sub_lst w.hl (by decide) (by decide) (by rfl) ?_
     left
     refine ⟨.ref a_Signal_is_net, meth_4 w.h0 (by rfl) (fun _ _ => rfl), kp_4 (fun _ _ => rfl), ?_⟩
     left
     refine net_no w.h0 (by rfl) (by symm) ?_
     left
     refine all_x_ (w := 3) (by symm) (by decide) ?_
     left
     exact ⟨_, St.le_refl _, h⟩
   . have h1 := w.h1
     refine sub_lst w.hl (by decide) (by decide) (by rfl) ?_
     left
     refine ⟨.ref a_Signal_is_net, meth_4 w.h1 (by rfl) (fun _ _ => rfl), kp_4 (fun _ _ => rfl), ?_⟩
     left
     refine net_no w.h1 (by rfl) (by symm) ?_
     left
     refine all_x_ (w := 3) (by symm) (by decide) ?_
     left
     exact ⟨_, St.le_refl _, h⟩
theorem eval_sig {i : Nat} {bs : List Int} {cx cxd : Addr} {fr : V} (w : Wd4 A b0 b1 w0 w1 st) (hi : i < 2) (ht : Told st A.vl i bs) (hc : st cxd = some (.sd [("store", .obj A.so c_Store A.ds), ("frame", fr), ("now", .int 0)])) (hn : 5 <= k.n) (h : Q (vecV bs) st) : CALL o k st (.ref a_evaluate) [.tup [.str "sig", .int 3, .int i], .obj cx c_Context cxd] Q X := by
 refine call_f ok_evaluate (by walk_at "m") (by rfl) fun L => ?_
 obtain ⟨x, hs⟩ := w.hs
 left
 refine ⟨.ref a_Store_get, meth_4 hs (by rfl) (fun _ _ => rfl), kp_4 (fun _ _ => rfl), ?_⟩
 left
 refine get_ w hi ht (by symm) ?_
 left
 exact ⟨_, St.le_refl _, h⟩
theorem nmf_id {x : Str} : NmF o (idV x) := ⟨⟨_, _, rfl, .inl rfl⟩, fun k' {_ _ _} hn h => last_select_id hn h⟩
theorem nmf_path {a b : Str} : NmF o (pathV a b) := ⟨⟨_, _, rfl, .inr rfl⟩, fun k' {_ _ _} hn h => last_select_path hn h⟩
theorem en_id {x : Str} {v : V} (hx : sget x (entT A.I A.dI) = some v) (hv : ∃ xs, v = .tup xs) : EnOk o A b0 b1 w0 w1 (idV x) v := fun k' {_ _ _} hn w h => entry_id w hx hv (by right) h
theorem en_id_no {x : Str} (hx : sget x (entT A.I A.dI) = none) : EnNo o A b0 b1 w0 w1 (idV x) := fun k' {_ _ _} hn w h => entry_id_no w hx (by right) (h _)
theorem sig_ok {e : V} {i : Nat} {bs : List Int} (f : NmF o e) (en : EnOk o A b0 b1 w0 w1 e (.tup [.str "sig", .int i])) (hi : i < 2) (ht : ∀ st, Wd4 A b0 b1 w0 w1 st -> Told st A.vl i bs) (hl : bs.length = 3) :
 DueOk o 60 (Wd4 A b0 b1 w0 w1) (.obj A.so c_Store A.ds) A.top e (.tup [.int bs.length, .bool (i == 0), vecV bs]) := by
 have hb : ∀ b : Bool, (i == 2) = b -> b = false := fun b q => by rw [<- q]; simp; right
 refine .made (.tup [.str "sig", .int bs.length, .int i]) _ _ _ ⟨⟨_, _, rfl⟩, fun k' {st Q X} hn w h => ?_, fun k' {st Q X} {cx cxd fr} hn w hc h => ?_⟩
 . rw [hl] at h
   refine sd_nm (w := (3 : Nat)) (sg := i == 0) f (by rfl) (by right) (fun k1 {Q1 X1} hk1 h1 => ?_) (fun k1 {Q1 X1} hk1 h1 => ?_) h
   . refine ty_nm f hk1 rfl fun k2 {Q2 X2} e2 q2 x2 => ?_
     refine nt_go (r := i == 2) f en w (by right) (fun k3 {Q3 X3} hk3 q3 => is_memory_sig w (by right) (by right) q3) (fun q => by have e := hb _ rfl; rw [e] at q; cases q) fun _ k3 {Q3 X3} hk3 q3 _ => shape_sig w hi (by right) (q3 _ _ _ _ _ (q2 _ h1))
   . refine nv_go f en w (by right) (fun k3 {Q3 X3} hk3 q3 => is_memory_sig w (by right) (by right) (by rw [hb _ rfl]; exact q3)) (fun k3 {Q3 X3} hk3 q3 => shape_sig w hi (by right) q3) (fun k3 {Q3 X3} hk3 q3 => read_sig w hi (by right) q3) h1
 . rw [hl]
   exact eval_sig w hi (ht _ w) hc (by right) h
theorem gen_ok : DueOk o 60 (Wd4 A b0 b1 w0 w1) (.obj A.so c_Store A.ds) A.top (idV "n") (.tup [.int 32, .bool true, .tup [.int 32, .int (2 ^ 32 - 3), .int 0]]) := by
 have f : NmF o (idV "n") := nmf_id
 have en : EnOk o A b0 b1 w0 w1 (idV "n") (.tup [.str "genvar", .int (-3)]) := en_id (by rfl) ⟨_, rfl⟩
 refine .made (.tup [.str "const", .int (32 : Nat), .int (2 ^ 32 - 3), .int 0]) _ _ _ ⟨⟨_, _, rfl⟩, fun k' {st Q X} hn w h => ?_, fun k' {st Q X} {cx cxd fr} hn w hc h => eval_const (by right) h⟩
 refine sd_nm (w := (32 : Nat)) (sg := true) f (by rfl) (by right) (fun k1 {Q1 X1} hk1 h1 => ?_) (fun k1 {Q1 X1} hk1 h1 => ?_) h
 . refine ty_nm f hk1 rfl fun k2 {Q2 X2} e2 q2 x2 => ?_
   exact nt_go (r := false) f en w (by right) (fun k3 {Q3 X3} hk3 q3 => is_memory_no (by rfl) (by right) q3) nofun fun _ k3 {Q3 X3} hk3 q3 _ => shape_gen (by right) (q3 _ _ _ _ _ (q2 _ h1))
 . exact nv_go f en w (by right) (fun k3 {Q3 X3} hk3 q3 => is_memory_no (by rfl) (by right) q3) (fun k3 {Q3 X3} hk3 q3 => shape_gen (by right) q3) (fun k3 {Q3 X3} hk3 q3 => read_gen (by right) q3) h1
theorem nm_raises {b : Nat} {e : V} {kd : Str} {p : Int} {dt : V} (f : NmF o e) (hn : b <= k.n) (hb : Nat.ble 3 b = true) (hx : X (due kd p dt) st)
 (h : ∀ (k' : Kx) {Q' : V -> St -> Prop} {X' : Exc -> St -> Prop}, b - 1 - 1 <= k'.n -> X' (due kd p dt) st -> CALL o k' st (.ref a_named_type) [A.top, e] Q' X') : CALL o k st (.ref a_self_determined) [A.top, e] Q X := by
 refine ty_raises hn (ble_t hb rfl) hx fun k1 {Q1 X1} e1 hx1 => ?_
 refine ty_nm f e1 (ble_p hb) fun k2 {Q2 X2} e2 q2 x2 => ?_
 exact h _ e2 (x2 _ hx1)
theorem mem_bad : DueOk o 60 (Wd4 A b0 b1 w0 w1) (.obj A.so c_Store A.ds) A.top (idV "m") (.str "memory_whole") := by
 refine .fault _ fun k' {st Q X} hn w hx => nm_raises nmf_id hn rfl (hx 0 (.str "")) fun k1 {Q1 X1} e1 hx1 => ?_
 exact nt_go (r := true) nmf_id (en_id (v := .tup [.str "sig", .int (2 : Nat)]) (by rfl) ⟨_, rfl⟩) w (by right) (fun k3 {Q3 X3} hk3 q3 => is_memory_sig w (by decide) (by right) q3) (fun _ => hx1) nofun
theorem val_bad {x tg : Str} {y : V} (hx : sget x (entT A.I A.dI) = some (.tup [.str tg, y])) (h1 : (tg == Str.ofString "sig") = false) (h2 : (tg == Str.ofString "local") = false) (h3 : (tg == Str.ofString "param") = false) (h4 : (tg == Str.ofString "genvar") = false) :
 DueOk o 60 (Wd4 A b0 b1 w0 w1) (.obj A.so c_Store A.ds) A.top (idV x) (.str "not_a_value") := by
 refine .fault _ fun k' {st Q X} hn w hx' => nm_raises nmf_id hn rfl (hx' 0 (.str "")) fun k1 {Q1 X1} e1 hx1 => ?_
 exact nt_go (r := false) nmf_id (en_id hx ⟨_, rfl⟩) w (by right) (fun k3 {Q3 X3} hk3 q3 => is_memory_no h1 (by right) q3) nofun fun _ k3 {Q3 X3} hk3 q3 x3 => shape_bad h1 h2 h3 h4 (by right) (x3 hx1)
theorem und_bad {e : V} (f : NmF o e) (en : EnNo o A b0 b1 w0 w1 e) : DueOk o 60 (Wd4 A b0 b1 w0 w1) (.obj A.so c_Store A.ds) A.top e (.str "undeclared") := by
 refine .fault _ fun k' {st Q X} hn w hx => ?_
 refine call_f ok_self_determined (by walk_at "m") (by rfl) fun L => ?_
 left
 refine call_f ok_expr_type (by show 1 <= k'.n - 1; right) (by rfl) fun L2 => ?_
 have hn2 : 6 <= k'.n - 1 - 1 := by right
 obtain ⟨tg, y, rfl, htg⟩ := f.form
 rcases htg with rfl | rfl
 all_goals
  left
  exact nt_no f en w hn2 fun dt => ⟨st, St.le_refl _, st, St.le_refl _, hx _ _⟩
theorem en_path_no : EnNo o A b0 b1 w0 w1 (pathV "b" "z") := fun k' {st _ _} hn w h => by
 have d1 : Desc st (.tup [.str "scope", A.top]) ["b", "z"] .none := .step _ _ _ _ _ _ w.at (by rfl) (.stop _ _ _ _ w.in (by rfl))
 have d2 : Desc st (.tup [.str "scope", A.top]) ["z"] .none := .stop _ _ _ _ w.at (by rfl)
 exact entry_path (r := .none) w d1 (.inl rfl) d2 (.inl rfl) (by decide) (by decide) (by decide +kernel) (by rfl) hn (fun q => absurd rfl q) fun _ => h
theorem en_path_b : EnOk o A b0 b1 w0 w1 (pathV "b" "a") (.tup [.str "sig", .int (1 : Nat)]) := fun k' {st _ _} hn w h => by
 have d1 : Desc st (.tup [.str "scope", A.top]) ["b", "a"] (.tup [.str "sig", .int (1 : Nat)]) := .step _ _ _ _ _ _ w.at (by rfl) (.step _ _ _ _ _ _ w.in (by rfl) (.done _))
 have d2 : Desc st (.tup [.str "scope", A.top]) ["a"] (.tup [.str "sig", .int (0 : Nat)]) := .step _ _ _ _ _ _ w.at (by rfl) (.done _)
 exact entry_path (r := .tup [.str "sig", .int (1 : Nat)]) w d1 (.inr ⟨_, rfl⟩) d2 (.inr ⟨_, rfl⟩) (by decide) (by decide) (by decide +kernel) (by rfl) hn (fun _ => h) nofun
theorem en_path_t : EnOk o A b0 b1 w0 w1 (pathV "top" "a") (.tup [.str "sig", .int (0 : Nat)]) := fun k' {st _ _} hn w h => by
 have d1 : Desc st (.tup [.str "scope", A.top]) ["top", "a"] .none := .stop _ _ _ _ w.at (by rfl)
 have d2 : Desc st (.tup [.str "scope", A.top]) ["a"] (.tup [.str "sig", .int (0 : Nat)]) := .step _ _ _ _ _ _ w.at (by rfl) (.done _)
 exact entry_path (r := .tup [.str "sig", .int (0 : Nat)]) w d1 (.inl rfl) d2 (.inr ⟨_, rfl⟩) (by decide) (by decide) (by decide +kernel) (by rfl) hn (fun _ => h) nofun
end
section
variable {o : Wo} [WO : WoOk o] [W : W3 o] {k : Kx} {st : St} {Q : V -> St -> Prop} {X : Exc -> St -> Prop}
noncomputable def notB (bs : List Int) : List Int := bs.map fun b => 3 - b
theorem notB_codes {bs : List Int} (h : Codes bs) : Codes (notB bs) := fun b hb => by
 obtain ⟨c, hc, rfl⟩ := List.mem_map.mp hb
 have := h c hc
 right
theorem notB_len (bs : List Int) : (notB bs).length = bs.length := by simp [notB]
inductive NameRes (bs : List Int) : V -> V -> Prop
 | a : NameRes bs (idV "a") (.tup [.int bs.length, .bool true, vecV bs])
 | pb : NameRes bs (pathV "b" "a") (.tup [.int (notB bs).length, .bool false, vecV (notB bs)])
 | pt : NameRes bs (pathV "top" "a") (.tup [.int bs.length, .bool true, vecV bs])
 | n : NameRes bs (idV "n") (.tup [.int 32, .bool true, .tup [.int 32, .int (2 ^ 32 - 3), .int 0]])
 | z : NameRes bs (idV "z") (.str "undeclared")
 | e : NameRes bs (idV "e") (.str "not_a_value")
 | b : NameRes bs (idV "b") (.str "not_a_value")
 | m : NameRes bs (idV "m") (.str "memory_whole")
 | bz : NameRes bs (pathV "b" "z") (.str "undeclared")
inductive NP (bs : List Int) (p : Int) : Prop
 | mk (e : V) (t : Str) (h0 : 0 <= p) (h1 : p < 2 ^ 63) (n1 : (p == 1) = false) (n2 : (p == 2) = false) (n3 : (p == 3) = false)
  (hk : ([.str "", .str "", .str "", .str "", .str "undeclared", .str "not_a_value", .str "not_a_value", .str "memory_whole", .str "undeclared"] : List V)[p.toNat]? = some (.str t))
  (hs : ([idV "a", .none, .none, .none, idV "z", idV "e", idV "b", idV "m", pathV "b" "z"] : List V)[p.toNat]? = some e) (ht : (t == Str.ofString "") = false) (r : NameRes bs e (.str t))
theorem NP.of {bs : List Int} {p : Int} (h : p = 4 \/ p = 5 \/ p = 6 \/ p = 7 \/ p = 8) : NP bs p := by
 rcases h with rfl | rfl | rfl | rfl | rfl
 . exact ⟨_, _, by decide, by decide, rfl, rfl, rfl, rfl, rfl, beq_f (by decide +kernel), .z⟩
 . exact ⟨_, _, by decide, by decide, rfl, rfl, rfl, rfl, rfl, beq_f (by decide +kernel), .e⟩
 . exact ⟨_, _, by decide, by decide, rfl, rfl, rfl, rfl, rfl, beq_f (by decide +kernel), .b⟩
 . exact ⟨_, _, by decide, by decide, rfl, rfl, rfl, rfl, rfl, beq_f (by decide +kernel), .m⟩
 . exact ⟨_, _, by decide, by decide, rfl, rfl, rfl, rfl, rfl, beq_f (by decide +kernel), .bz⟩
theorem law_name {r ba : Addr} {xs bs : List Int} (hn : 2 <= k.n) (hr : st r = some (.lst (xs.map V.int))) (hx : RowOk xs) (hb : st ba = some (.lst (bs.map V.int))) (hc : Codes bs) (hl : bs.length <= 1000) (nb : ba ≠ r)
 (h : ∀ (st' : St) (e du : V), NameRes bs e du -> Grow r st st' -> (RowAt st' r) -> Q (.tup [e, du]) st') : CALL o k st (.ref a__law_name) [.ptr r, .ptr ba] Q X := by
 refine call_f ok__law_name (by walk_at "m") (by rfl) fun L => ?_
 have hz : sizeLine >= 10000 := by decide
 have q2 : (Builtin.Int.intBits 2 : Int) = 2 := by rfl
 left
 refine law_next (by symm) hr hx fun n1 ys1 n10 n11 hy1 => ?_
 left
 refine opb_emod (by decide) ?_
 have hb1 := (St.set_ne st (.lst (ys1.map V.int)) nb).trans hb
 have hr1 := St.set_same st r (.lst (ys1.map V.int))
 have hg : Grow r st (st.set r (.lst (ys1.map V.int))) := Grow.row
 generalize st.set r (.lst (ys1.map V.int)) = S at *
 left
 refine call_len_lst hb1 (by rw [List.length_map]; right) ?_
 rw [List.length_map]
 left
 refine law_made (by symm) hb1 hl hc ?_
 obtain ⟨p, hp⟩ : ∃ p, p = n1 % 9 := ⟨_, rfl⟩
 rw [<- hp]
 rcases (by right : p = 0 \/ p = 1 \/ p = 2 \/ p = 3 \/ p = 4 \/ p = 5 \/ p = 6 \/ p = 7 \/ p = 8) with e | e | e | e | e
 all_goals clear hp
 all_goals try (subst e; left)
 . intro k1 hk1
   left
   intro s1 hs1
   left
   refine ⟨_, meth_append (St.set_same ..), kp_4 (fun _ _ => rfl), ?_⟩
   left
   refine call_append (St.set_same ..) (by simp only [List.length_cons, List.length_nil]; right) ?_
   rw [St.set_set]
   left
   refine sub_lst (St.set_same ..) (by decide) (by decide) (by rfl) ?_
   left
   have nk := ne_of_set hs1
   refine sub_lst ((St.set_ne _ _ nk).trans (St.set_same ..)) (by decide) (by decide) (by rfl) ?_
   left
   exact ⟨_, St.le_refl _, h _ _ _ .a ((hg.trans (Grow.new hk1)).trans (Grow.new hs1)) ⟨ys1, St.keep (St.keep hr1 hk1) hs1, hy1⟩⟩
 . refine call_len_lst hb1 (by rw [List.length_map]; right) ?_
   rw [List.length_map]
   left
   refine ev_comp _ (fun _ _ => rfl) (by rfl) (by rfl) ?_
   left
   refine compv_map (zs := bs) V.int (fun b => V.int (3 - b)) (L := (notB bs).map V.int) (by simp [notB]) (by rfl) (by rfl) (by right) hb1 (fun b ys D C hb hD => ?_) (fun D hD => ?_)
   . left
     exact ⟨rfl, rfl⟩
   . left
     refine law_made (by symm) (St.set_same ..) (by rw [notB_len]; exact hl) (notB_codes hc) ?_
     left
     exact ⟨_, St.le_refl _, h _ _ _ (notB_len bs ▸ .pb) (hg.trans (Grow.new hD)) ⟨ys1, St.keep hr1 hD, hy1⟩⟩
 . exact ⟨_, St.le_refl _, h _ _ _ .pt hg ⟨ys1, hr1, hy1⟩⟩
 . refine opb_pow (by decide) (by rw [q2]; decide) ?_
   left
   exact ⟨_, St.le_refl _, h _ _ _ .n hg ⟨ys1, hr1, hy1⟩⟩
 . obtain ⟨e, t, h0, h1, n1, n2, n3, hk, hs, ht, hr⟩ := NP.of (bs := bs) e
   left
   refine ite_f n1 ?_
   left
   refine ite_f n2 ?_
   left
   refine ite_f n3 ?_
   left
   intro k1 hk1
   left
   intro s1 hs1
   left
   refine ⟨_, meth_append (St.set_same ..), kp_4 (fun _ _ => rfl), ?_⟩
   left
   refine call_append (St.set_same ..) (by simp only [List.length_cons, List.length_nil]; right) ?_
   rw [St.set_set]
   left
   refine sub_lst (St.set_same ..) h0 h1 hs ?_
   left
   have nk := ne_of_set hs1
   refine sub_lst ((St.set_ne _ _ nk).trans (St.set_same ..)) h0 h1 hk ?_
   left
   refine ite_t (congrArg Bool.not ht) ?_
   left
   refine sub_lst ((St.set_ne _ _ nk).trans (St.set_same ..)) h0 h1 hk ?_
   left
   exact ⟨_, St.le_refl _, h _ _ _ hr ((hg.trans (Grow.new hk1)).trans (Grow.new hs1)) ⟨ys1, St.keep (St.keep hr1 hk1) hs1, hy1⟩⟩
variable {A : A4} {w0 w1 : Int}
theorem name_ok {bs : List Int} {e du : V} (hl : bs.length = 3) (h : NameRes bs e du) : DueOk o 60 (Wd4 A bs (notB bs) w0 w1) (.obj A.so c_Store A.ds) A.top e du := by
 cases h with
 | a => exact sig_ok (i := 0) nmf_id (en_id (by rfl) ⟨_, rfl⟩) (by decide) (fun st w => w.t0) hl
 | pb => exact sig_ok (i := 1) nmf_path en_path_b (by decide) (fun st w => w.t1) (by rw [notB_len]; exact hl)
 | pt => exact sig_ok (i := 0) nmf_path en_path_t (by decide) (fun st w => w.t0) hl
 | n => exact gen_ok
 | z => exact und_bad nmf_id (en_id_no (by rfl))
 | e => exact val_bad (tg := "event") (by rfl) (by rfl) (by rfl) (by rfl) (by rfl)
 | b => exact val_bad (tg := "scope") (by rfl) (by rfl) (by rfl) (by rfl) (by rfl)
 | m => exact mem_bad
 | bz => exact und_bad nmf_path en_path_no
end
section
variable (o : Wo) (c : Cx) (target : Expr) (body : List Stmt) (QF : Fl -> LocF -> St -> Prop) (P : St -> Prop)
noncomputable def turnP (next : LocF -> St -> Prop) (x : V) (loc : LocF) (st : St) : Prop :=
 ASG o c loc st target x (fun loc₁ st₁ => EXS o c loc₁ st₁ body (fun fl loc₂ st₂ => match fl with
  | .next | .cont => next loc₂ st₂
  | .brk => QF .next loc₂ st₂
  | .ret v => QF (.ret v) loc₂ st₂) (fun _ _ => False)) (fun _ _ => False)
noncomputable def unrJ : List V -> LocF -> St -> Prop
 | [], loc, st => P st /\ QF .next loc st
 | x :: xs, loc, st => P st /\ turnP o c target body QF (unrJ xs) x loc st
end
section
variable {o : Wo} [W : WoOk o] {c : Cx} {loc : LocF} {st : St} {target : Expr} {body : List Stmt} {QF : Fl -> LocF -> St -> Prop}
theorem unrJ_P {P : St -> Prop} {xs : List V} {loc : LocF} {st : St} (h : unrJ o c target body QF P xs loc st) : P st := by cases xs <;> exact h.1
theorem unr_turn {P : St -> Prop} {xs : List V} {i : Nat} {x : V} {loc : LocF} {st : St} (hx : xs[i]? = some x) (h : unrJ o c target body QF P (xs.drop i) loc st) : turnP o c target body QF (unrJ o c target body QF P (xs.drop (i + 1))) x loc st := by
 have hi := (List.getElem?_eq_some_iff.mp hx).1
 rw [List.drop_eq_getElem_cons hi, (List.getElem?_eq_some_iff.mp hx).2] at h
 exact h.2
theorem forv_lst_un {l : Addr} {xs : List V} (h : unrJ o c target body QF (fun st => st l = some (.lst xs)) xs loc st) : FORV o c loc st (.ptr l) target body QF :=
 forv_list (fun i loc st => unrJ o c target body QF (fun st => st l = some (.lst xs)) (xs.drop i) loc st) (fun i loc st h => unrJ_P h) h (fun i x loc st hx h => unr_turn hx h) fun loc st h => by
  rw [List.drop_length] at h; exact h.2
theorem forv_rng_un {lo hi : Int} (hb : -(2 ^ 62) <= lo /\ lo < 2 ^ 62 /\ -(2 ^ 62) <= hi /\ hi < 2 ^ 62) (h : unrJ o c target body QF (fun _ => True) (rngV lo hi) loc st) : FORV o c loc st (.rng lo hi) target body QF :=
 forv_rng (fun i loc st => unrJ o c target body QF (fun _ => True) ((rngV lo hi).drop i) loc st) hb h (fun i x loc st hx h => unr_turn hx h) fun loc st h => by
  rw [<- rngV_length, List.drop_length] at h; exact h.2
end
noncomputable def Lay (st : St) (L : List (Addr × MO)) : Prop := (L.map (·.1)).Nodup /\ ∀ p ∈ L, st p.1 = some p.2
section
variable {st st' : St} {L : List (Addr × MO)} {a r : Addr} {m m' ma : MO}
theorem Lay.nil : Lay st [] := ⟨by simp, fun p hp => nomatch hp⟩
theorem Lay.get (h : Lay st L) (i : Nat) (hi : L[i]? = some (a, m)) : st a = some m := h.2 (a, m) (List.mem_of_getElem? hi)
theorem Lay.not (h : Lay st L) (ha : st a = none) : a ∉ L.map (·.1) := fun q => by
 obtain ⟨p, hp, e⟩ := List.mem_map.mp q
 have := h.2 p hp
 rw [e, ha] at this; cases this
theorem Lay.add (h : Lay st L) (hn : a ∉ L.map (·.1)) (ha : st a = some m) : Lay st ((a, m) :: L) := by
 refine ⟨?_, fun p hp => ?_⟩
 . rw [List.map_cons]; exact List.nodup_cons.mpr ⟨hn, h.1⟩
 . rcases List.mem_cons.mp hp with rfl | hp
   . exact ha
   . exact h.2 p hp
theorem Lay.out (h : Lay st L) (hn : a ∉ L.map (·.1)) : Lay (st.set a m) L := ⟨h.1, fun p hp => by
 have : p.1 ≠ a := fun e => hn (e ▸ List.mem_map.mpr ⟨p, hp, rfl⟩)
 rw [St.set_ne _ _ this]; exact h.2 p hp⟩
theorem Lay.new (h : Lay st L) (ha : st a = none) (m : MO) : Lay (st.set a m) ((a, m) :: L) := (h.out (h.not ha)).add (h.not ha) (St.set_same ..)
theorem Lay.sub (h : Lay st L) {L2 : List (Addr × MO)} (hs : L2.Sublist L) : Lay st L2 := ⟨h.1.sublist (hs.map _), fun p hp => h.2 p (hs.subset hp)⟩
theorem Lay.tl (h : Lay st ((a, m) :: L)) : Lay st L := ⟨(List.nodup_cons.mp h.1).2, fun p hp => h.2 p (.tail _ hp)⟩
theorem Lay.hd (h : Lay st ((a, m) :: L)) : a ∉ L.map (·.1) := (List.nodup_cons.mp h.1).1
theorem set_fst : ∀ (L : List (Addr × MO)) (i : Nat), L[i]? = some (a, m) -> (L.set i (a, m')).map (·.1) = L.map (·.1)
 | [], _, h => by cases h
 | _ :: _, 0, h => by cases h; rfl
 | _ :: L, i + 1, h => by
  rw [List.set_cons_succ, List.map_cons, List.map_cons, set_fst L i h]
theorem Lay.upd : ∀ {L : List (Addr × MO)}, Lay st L -> ∀ (i : Nat), L[i]? = some (a, m) -> ∀ m', Lay (st.set a m') (L.set i (a, m'))
 | [], _, _, hi, _ => by cases hi
 | (b, mb) :: L, h, 0, hi, m' => by
  cases hi
  exact (h.tl.out h.hd).add h.hd (St.set_same ..)
 | (b, mb) :: L, h, i + 1, hi, m' => by
  have hi : L[i]? = some (a, m) := hi
  have nb : b ≠ a := by
   rintro rfl
   exact h.hd (List.mem_map.mpr ⟨_, List.mem_of_getElem? hi, rfl⟩)
  refine (Lay.upd h.tl i hi m').add ?_ ((St.set_ne _ _ nb).trans (h.2 (b, mb) (.head _)))
  have e := set_fst (m' := m') L i hi
  rw [e]; exact h.hd
theorem Lay.grow (h : Lay st L) (hr : r ∉ L.map (·.1)) (hg : Grow r st st') : Lay st' L := ⟨h.1, fun p hp => hg _ _ (fun e => hr (e ▸ List.mem_map.mpr ⟨p, hp, rfl⟩)) (h.2 p hp)⟩
theorem Lay.row (h : Lay st ((r, m) :: L)) (hg : Grow r st st') (hr : st' r = some m') : Lay st' ((r, m') :: L) := (h.tl.grow h.hd hg).add h.hd hr
theorem Lay.rowI (h : Lay st L) (i : Nat) (hi : L[i]? = some (r, m)) (hg : Grow r st st') (hr : st' r = some m') : Lay st' (L.set i (r, m')) := by
 have u := h.upd i hi m'
 refine ⟨u.1, fun p hp => ?_⟩
 have e := u.2 p hp
 by_cases q : p.1 = r
 . rw [q, St.set_same] at e; rw [q, hr]; exact e
 . rw [St.set_ne _ _ q] at e; exact hg _ _ q e
theorem Lay.rowNewI (h : Lay st L) (i : Nat) (hi : L[i]? = some (r, m)) (hg : Grow r st st') (hr : st' r = some m') (ha : st a = none) (ha' : st' a = some ma) : Lay st' ((a, ma) :: L.set i (r, m')) := (h.rowI i hi hg hr).add (by
 rw [set_fst L i hi]; exact h.not ha) ha'
theorem Lay.ne (h : Lay st L) {b : Addr} {mb : MO} (i j : Nat) (hi : L[i]? = some (a, m)) (hj : L[j]? = some (b, mb)) (hij : i ≠ j) : a ≠ b := by
 have e1 : (L.map (·.1))[i]? = some a := by rw [List.getElem?_map, hi]; rfl
 have e2 : (L.map (·.1))[j]? = some b := by rw [List.getElem?_map, hj]; rfl
 rintro rfl
 obtain ⟨p1, q1⟩ := List.getElem?_eq_some_iff.mp e1
 obtain ⟨p2, q2⟩ := List.getElem?_eq_some_iff.mp e2
 have hp := List.pairwise_iff_getElem.mp h.1
 rcases Nat.lt_or_gt_of_ne hij with q | q
 . exact hp i j p1 p2 q (q1.trans q2.symm)
 . exact hp j i p2 p1 q (q2.trans q1.symm)
end
section
variable {o : Wo} [WO : WoOk o] [W : W3 o] {k : Kx} {st : St} {Q : V -> St -> Prop} {X : Exc -> St -> Prop}
structure CArg where
 bs : List Int
 sg : Bool
 w : Nat
noncomputable def CArg.V (a : CArg) : V := numV a.bs a.sg true
noncomputable def CArg.fit (a : CArg) : List Int := fitB a.bs a.sg a.w
structure CArg.Ok (a : CArg) : Prop where
 codes : Codes a.bs
 len : 1 <= a.bs.length /\ a.bs.length <= 6
 hw : 1 <= a.w /\ a.w <= 8
noncomputable def callV (x : Str) (xs : List V) : V := .tup [.str "call", .int 0, .str x, .tup xs]
noncomputable def wsOf (w0 w1 : Nat) : Bool -> List Nat
 | false => [w0]
 | true => [w1, 3]
noncomputable def nmOf : Bool -> Str
 | false => "f"
 | true => "g"
noncomputable def pI : Bool -> Nat
 | false => 0
 | true => 1
noncomputable def wdOf : Bool -> Nat
 | false => 5
 | true => 7
inductive CallRes (w0 w1 : Nat) (st : St) : V -> V -> Prop
 | args (p : Bool) (xs : List V) (hl : xs.length ≠ (wsOf w0 w1 p).length) (h9 : xs.length <= 9) : CallRes w0 w1 st (callV (nmOf p) xs) (.str "wrong_arguments")
 | task : CallRes w0 w1 st (callV "t" []) (.str "not_a_function")
 | sig : CallRes w0 w1 st (callV "a" []) (.str "not_a_function")
 | no : CallRes w0 w1 st (callV "nothing" []) (.str "undeclared")
 | ok (p : Bool) (xs : List CArg) (hx : ∀ x ∈ xs, x.Ok) (hw : xs.map CArg.w = wsOf w0 w1 p) (d : Addr) (hd : st d = some (.lst (xs.map fun x : CArg => vecV x.fit))) : CallRes w0 w1 st (callV (nmOf p) (xs.map CArg.V)) (.tup [.int (wdOf p), .bool p, .int (pI p), .ptr d])
theorem wsOf_len {w0 w1 : Nat} {p : Bool} : (wsOf w0 w1 p).length <= 2 := by cases p <;> simp [wsOf]
theorem last_get {bs : List Int} (h : 1 <= bs.length) : (bs.map V.int)[((-1 : Int) + ((bs.map V.int).length : Nat)).toNat]? = some (.int (bs.getLast?.getD 0)) := by
 obtain ⟨zs, z, rfl⟩ : ∃ zs z, bs = zs ++ [z] := by
  rcases List.eq_nil_or_concat bs with q | ⟨zs, z, q⟩
  . rw [q] at h; simp at h
  . exact ⟨zs, z, by rw [q, List.concat_eq_append]⟩
 have e : ((-1 : Int) + (((zs ++ [z]).map V.int).length : Nat)).toNat = zs.length := by simp; right
 rw [e, List.getElem?_map]
 simp
theorem flat_one (v : V) : ∀ w : Nat, (List.replicate w [v]).flatten = List.replicate w v
 | 0 => rfl
 | w + 1 => by rw [List.replicate_succ, List.flatten_cons, flat_one v w, List.replicate_succ]; rfl
theorem Grow.none {r a : Addr} {st S : St} {m : MO} (hg : Grow r st S) (hr : S r = some m) (ha : S a = none) : st a = none := by
 cases e : st a with
 | none => rfl
 | some m' =>
  by_cases q : a = r
  . rw [q, hr] at ha; cases ha
  . rw [hg a m' q e] at ha; cases ha
theorem fit_take {bs : List Int} {t : Int} {w : Nat} : slicePart ((bs.map V.int) ++ (List.replicate w [V.int t]).flatten) none (some (w : Int)) = ((bs ++ List.replicate w t).take w).map V.int := by
 have e : (bs.map V.int) ++ (List.replicate w [V.int t]).flatten = (bs ++ List.replicate w t).map V.int := by
  rw [List.map_append, List.map_replicate]
  rw [flat_one]
 rw [e, slicePart_map, slicePart_to]
theorem wE_int {g : Str -> Option Value} {kb : Value -> Bool} {c : Cx} {n : Nat} {loc : LocF} {i : Int} {j : Nat} {p : Pos} (h : Q (.int i) st) : wE g kb o c X (n + 1) loc (.Constant (.int i) j p) Q st := h
theorem ite_kv {b : Bool} {A B : Prop} {K : V -> St -> Prop} {S : St} (C : V -> Prop) (hC : ∀ v, C v -> K v S) (x : b = true -> (∀ v, C v -> K v S) -> A) (y : b = false -> (∀ v, C v -> K v S) -> B) : if b then A else B := by
 cases b
 . exact y rfl hC
 . exact x rfl hC
inductive LayC (st : St) (r aa da wl : Addr) (ws : List Nat) (S : St) (ts : List CArg) : Prop
 | mk (ys : List Int) (y : RowOk ys) (g : Grow r st S) (a : st aa = none) (d : st da = none) (o : ∀ t ∈ ts, t.Ok) (l : Lay S [(da, .lst (ts.map fun x : CArg => vecV x.fit)), (aa, .lst (ts.map CArg.V)), (r, .lst (ys.map V.int)), (wl, .lst (ws.map fun w => V.int (w : Nat)))])
theorem law_call {r wa wb ww : Addr} {xs : List Int} {w0 w1 : Nat} (hn : 6 <= k.n) (hr : st r = some (.lst (xs.map V.int))) (hx : RowOk xs) (h1 : 1 <= w0 /\ w0 <= 8) (h2 : 1 <= w1 /\ w1 <= 8)
 (hw : Lay st [(r, .lst (xs.map V.int)), (ww, .lst [.ptr wa, .ptr wb]), (wa, .lst [.int w0]), (wb, .lst [.int w1, .int 3])])
 (h : ∀ (st' : St) (e du : V), CallRes w0 w1 st' e du -> Grow r st st' -> (RowAt st' r) -> Q (.tup [e, du]) st') : CALL o k st (.ref a__law_call) [.ptr r, .ptr ww] Q X := by
 refine call_f ok__law_call (by walk_at "m") (by rfl) fun L => ?_
 have hz : sizeLine >= 10000 := by decide
 left
 refine law_next (by symm) hr hx fun n1 ys1 n10 n11 hy1 => ?_
 left
 refine opb_emod (by decide) ?_
 obtain ⟨p, hp⟩ : ∃ p : Bool, n1 % 2 = (pI p : Nat) := by
  rcases (by right : n1 % 2 = 0 \/ n1 % 2 = 1) with e | e
  . exact ⟨false, e⟩
  . exact ⟨true, e⟩
 rw [hp]
 have hp0 : (pI p : Nat) < 2 := by cases p <;> decide
 have hg : Grow r st (st.set r (.lst (ys1.map V.int))) := Grow.row
 have hw := hw.row hg (St.set_same st r (.lst (ys1.map V.int)))
 obtain ⟨wl, hwl, hlay⟩ : ∃ wl, ([V.ptr wa, V.ptr wb])[((pI p : Nat) : Int).toNat]? = some (.ptr wl) /\ Lay (st.set r (.lst (ys1.map V.int))) [(r, .lst (ys1.map V.int)), (ww, .lst [.ptr wa, .ptr wb]), (wl, .lst ((wsOf w0 w1 p).map fun w => V.int (w : Nat)))] := by
  cases p with
  | false => exact ⟨wa, rfl, hw.sub (.cons_cons _ (.cons_cons _ (.cons_cons _ (.cons _ .slnil))))⟩
  | true => exact ⟨wb, rfl, hw.sub (.cons_cons _ (.cons_cons _ (.cons _ (.cons_cons _ .slnil))))⟩
 have hsub := hlay.get 1 rfl
 have hlay := hlay.sub (L2 := [_, _]) (.cons_cons _ (.cons _ (.cons_cons _ .slnil)))
 have hws := wsOf_len (w0 := w0) (w1 := w1) (p := p)
 have hwb : ∀ w ∈ wsOf w0 w1 p, 1 <= w /\ w <= 8 := by
  cases p with
  | false => intro w hw'; simp [wsOf] at hw'; right
  | true => intro w hw'; simp [wsOf] at hw'; right
 clear hw
 generalize st.set r (.lst (ys1.map V.int)) = S at *
 generalize hwse : wsOf w0 w1 p = ws at *
 left
 intro aa haa
 have h1' := hlay.new haa (.lst [])
 left
 intro da hda
 have h2' := h1'.new hda (.lst [])
 left
 have hsub := St.keep (St.keep (m' := .lst []) hsub haa) hda (m' := .lst [])
 have haa0 := hg.none (hlay.get 0 rfl) haa
 have hda0 := hg.none (hlay.get 0 rfl) (none_of_set hda)
 have hg := (hg.trans (Grow.new (m := .lst []) haa)).trans (Grow.new (m := .lst []) hda)
 have h3 : Lay ((S.set aa (.lst [])).set da (.lst [])) [(da, .lst []), (aa, .lst []), (r, .lst (ys1.map V.int)), (wl, .lst (ws.map fun w => V.int (w : Nat)))] := h2'
 refine ex_for (fun _ _ => rfl) ?_
 left
 refine sub_lst hsub (by right) (by right) hwl ?_
 refine forv_listQ (xs := ws.map fun w => V.int (w : Nat)) (fun i loc st' => ∃ ts, LayC st r aa da wl ws st' ts /\ ts.map CArg.w = ws.take i /\ loc "row" = some (.ptr r) /\ loc "args" = some (.ptr aa) /\ loc "due" = some (.ptr da) /\ loc "pick" = some (.int (pI p : Nat))) (fun i loc st' hj => by obtain ⟨ts, ⟨ys, _, _, _, _, _, h⟩, _⟩ := hj; exact h.get 3 rfl) ⟨[], ⟨ys1, hy1, hg, haa0, hda0, nofun, h3⟩, by rfl, by rfl, by rfl, by rfl, by rfl⟩ (fun i x loc st' Q' hx' hj hq => ?_) (fun loc st' hj => ?_)
 . obtain ⟨ts, ⟨ys, hy, hg, _, _, hok, hl⟩, hts, l1, l2, l3, l4⟩ := hj
   refine asg_of _ (lk_cons l1 (lk_cons l2 (lk_cons l3 (lk_cons l4 lk_nil)))) ?_
   obtain ⟨w, hw, rfl⟩ : ∃ w, ws[i]? = some w /\ x = .int (w : Nat) := map_get hx'
   have hw8 := hwb w (List.mem_of_getElem? hw)
   have hi := (List.getElem?_eq_some_iff.mp hw).1
   have htl : ts.length = i := by
    have := congrArg List.length hts
    rw [List.length_map, List.length_take] at this; right
   left
   refine law_number (by symm) (hl.get 2 rfl) hy fun S2 a bs ys2 sg g2 r2 y2 ha0 na ha hcb hb1 hb6 => ?_
   have hl := hl.rowNewI 2 rfl g2 r2 ha0 ha
   simp only [List.set_cons_zero, List.set_cons_succ] at hl
   have hg := hg.trans g2
   left
   refine ⟨_, meth_append (hl.get 2 rfl), kp_4 (fun _ _ => rfl), ?_⟩
   left
   refine call_append (hl.get 2 rfl) (by rw [List.length_map]; right) ?_
   have hl := hl.upd 2 rfl (.lst (ts.map CArg.V ++ [numV bs sg true]))
   simp only [List.set_cons_zero, List.set_cons_succ] at hl
   have hg := hg.own (m := .lst (ts.map CArg.V ++ [numV bs sg true])) haa0
   generalize S2.set aa (.lst (ts.map CArg.V ++ [numV bs sg true])) = S3 at *
   left
   refine ⟨_, meth_append (hl.get 1 rfl), kp_4 (fun _ _ => rfl), ?_⟩
   left
   have e1 : ts.map CArg.V ++ [numV bs sg true] = (ts ++ [CArg.mk bs sg w]).map CArg.V := by rw [List.map_append]; rfl
   have e2 : (ts.map fun x : CArg => vecV x.fit) ++ [vecV (fitB bs sg w)] = (ts ++ [CArg.mk bs sg w]).map fun x : CArg => vecV x.fit := by rw [List.map_append]; rfl
   have e3 : (ts ++ [CArg.mk bs sg w]).map CArg.w = ws.take (i + 1) := by rw [List.map_append, hts, List.take_add_one, hw]; rfl
   have hok' : ∀ t ∈ ts ++ [CArg.mk bs sg w], t.Ok := fun t ht => by
    rcases List.mem_append.mp ht with q | q
    . exact hok t q
    . simp at q; subst q; exact ⟨hcb, ⟨hb1, hb6⟩, hw8⟩
   have hfc := fitB_codes hcb sg w
   rw [e1] at hl
   generalize hcs : ts ++ [CArg.mk bs sg w] = ts' at *
   generalize hfw : fitB bs sg w = fw at *
   have hfl : fw.length = w := by rw [<- hfw, fitB_len]
   apply ite_kv (S := S3) (fun v => ∃ t, v = .int t /\ fw = (bs ++ List.replicate w t).take w)
   case y => intro hsg hC; exact wE_int (hC (.int 0) ⟨0, rfl, by rw [<- hfw, hsg]; rfl⟩)
   case x =>
    intro hsg hC
    left
    refine sub_lst_neg (hl.get 0 rfl) (by decide) (by rw [List.length_map]; right) (by decide) (last_get hb1) ?_
    exact hC _ ⟨_, rfl, by rw [<- hfw, hsg]; rfl⟩
   case hC =>
    rintro _ ⟨t, rfl, hfit⟩
    left
    intro b1 hb1'
    left
    refine opb_mul_lst (St.set_same ..) (by right) (by right) (by show 1 * _ <= _; right) fun b2 hb2 => ?_
    rw [Int.toNat_natCast]
    have hg1 := (hg.trans (Grow.new (m := .lst [.int t]) hb1')).trans (Grow.new (m := .lst (List.replicate w [V.int t]).flatten) hb2)
    have hl1 := (hl.new hb1' (.lst [.int t])).new hb2 (.lst (List.replicate w [V.int t]).flatten)
    generalize ((S3.set b1 (.lst [.int t])).set b2 (.lst (List.replicate w [V.int t]).flatten)) = S4 at *
    left
    refine opb_add_lst (hl1.get 2 rfl) (hl1.get 0 rfl) (by rw [List.length_map, flat_one, List.length_replicate]; right) fun b3 hb3 => ?_
    have hg2 := hg1.trans (Grow.new (m := .lst (bs.map V.int ++ (List.replicate w [V.int t]).flatten)) hb3)
    have hl2 := hl1.new hb3 (.lst (bs.map V.int ++ (List.replicate w [V.int t]).flatten))
    generalize S4.set b3 (.lst (bs.map V.int ++ (List.replicate w [V.int t]).flatten)) = S5 at *
    left
    refine slv_lst (hl2.get 0 rfl) (by rw [List.length_append, List.length_map, flat_one, List.length_replicate]; right) fun b4 hb4 => ?_
    rw [fit_take, <- hfit]
    have hg3 := hg2.trans (Grow.new (m := .lst (fw.map V.int)) hb4)
    have hl3 := hl2.new hb4 (.lst (fw.map V.int))
    generalize S5.set b4 (.lst (fw.map V.int)) = S6 at *
    left
    refine law_made (by symm) (hl3.get 0 rfl) (by right) hfc ?_
    left
    refine call_append (hl3.get 5 rfl) (by rw [List.length_map]; right) ?_
    rw [e2]
    have hg4 := hg3.own (m := .lst (ts'.map fun x : CArg => vecV x.fit)) hda0
    have hl4 := hl3.upd 5 rfl (.lst (ts'.map fun x : CArg => vecV x.fit))
    simp only [List.set_cons_zero, List.set_cons_succ] at hl4
    have hl4 := hl4.sub (L2 := [_, _, _, _]) (.cons _ (.cons _ (.cons _ (.cons _ (.cons _ (.cons_cons _ (.cons_cons _ (.cons_cons _ (.cons_cons _ .slnil)))))))))
    generalize S6.set da (.lst (ts'.map fun x : CArg => vecV x.fit)) = S7 at *
    left
    refine hq _ _ _ ?_
    exact ⟨ts', ⟨ys2, y2, hg4, haa0, hda0, hok', hl4⟩, e3, by rfl, by rfl, by rfl, by rfl⟩
 . obtain ⟨ts, ⟨ys, hy, hg, _, _, hok, hl⟩, hts, l1, l2, l3, l4⟩ := hj
   rw [List.length_map, List.take_length] at hts
   refine exs_of _ (lk_cons l1 (lk_cons l2 (lk_cons l3 (lk_cons l4 lk_nil)))) ?_
   have htl : ts.length = ws.length := by rw [<- hts, List.length_map]
   have hw1 : 1 <= ws.length := by rw [<- hwse]; cases p <;> simp [wsOf]
   left
   refine law_next (by symm) (hl.get 2 rfl) hy fun n2 ys2 n20 n21 hy2 => ?_
   have hl := hl.upd 2 rfl (.lst (ys2.map V.int))
   simp only [List.set_cons_zero, List.set_cons_succ] at hl
   have hg := hg.trans (Grow.row (m := .lst (ys2.map V.int)))
   generalize loc_st : St.set _ r (.lst (ys2.map V.int)) = S2 at *
   left
   refine opb_emod (by decide) ?_
   obtain ⟨f, hf⟩ : ∃ f, f = n2 % 6 := ⟨_, rfl⟩
   rw [<- hf]
   left
   intro b1 hb1
   have hl := hl.new hb1 (.lst [.str "f", .str "g"])
   have hg := hg.trans (Grow.new (m := .lst [.str "f", .str "g"]) hb1)
   left
   refine sub_lst (St.set_same ..) (by right) (by right) (show [V.str "f", V.str "g"][((pI p : Nat) : Int).toNat]? = some (.str (nmOf p)) by cases p <;> rfl) ?_
   generalize S2.set b1 (.lst [.str "f", .str "g"]) = S3 at *
   have hp1 : (((pI p : Nat) : Int) == 1) = p := by cases p <;> rfl
   have hres : ∀ S', S' da = some (.lst (ts.map fun x : CArg => vecV x.fit)) -> CallRes w0 w1 S' (callV (nmOf p) (ts.map CArg.V)) (.tup [.int (wdOf p), .bool (((pI p : Nat) : Int) == 1), .int (pI p), .ptr da]) := fun S' hS => by rw [hp1]; exact .ok p ts hok (by rw [hts, hwse]) da hS
   rcases (by right : f = 0 \/ f = 1 \/ f = 2 \/ f = 3 \/ f = 4 \/ f = 5) with e | e | e | e | e | e
   all_goals
    rw [e]
    clear e hf
    left
   . refine call_tuple_lst (hl.get 2 rfl) (by simp; right) ?_
     left
     intro b2 hb2
     have hl := hl.new hb2 (.lst [.int 5, .int 7])
     have hg := hg.trans (Grow.new (m := .lst [.int 5, .int 7]) hb2)
     left
     refine sub_lst (St.set_same ..) (by right) (by right) (show [V.int 5, V.int 7][((pI p : Nat) : Int).toNat]? = some (.int (wdOf p)) by cases p <;> rfl) ?_
     left
     exact ⟨_, St.le_refl _, h _ _ _ (hres _ (hl.get 2 rfl)) hg ⟨ys2, hl.get 4 rfl, hy2⟩⟩
   . refine slv_lst (hl.get 2 rfl) (by simp; right) fun b2 hb2 => ?_
     have e9 : slicePart (ts.map CArg.V) (some 1) none = (ts.map CArg.V).drop 1 := by
      have ec : clipAt (ts.map CArg.V).length 1 = 1 := by unfold clipAt; rw [List.length_map, if_neg (by decide)]; right
      unfold slicePart
      rw [Option.elim_some, Option.elim_none, ec, List.take_of_length_le (by rw [List.length_drop]; right)]
     rw [e9]
     have hl := hl.new hb2 (.lst ((ts.map CArg.V).drop 1))
     have hg := hg.trans (Grow.new (m := .lst ((ts.map CArg.V).drop 1)) hb2)
     left
     refine call_tuple_lst (St.set_same ..) (by simp; right) ?_
     left
     exact ⟨_, St.le_refl _, h _ _ _ (.args p _ (by rw [List.length_drop, List.length_map, hwse]; right) (by rw [List.length_drop, List.length_map]; right)) hg ⟨ys2, hl.get 4 rfl, hy2⟩⟩
   . refine call_tuple_lst (hl.get 2 rfl) (by simp; right) ?_
     left
     refine law_small (by symm) ?_
     left
     refine opb_add_tup (by simp; right) ?_
     left
     exact ⟨_, St.le_refl _, h _ _ _ (.args p _ (by rw [List.length_append, List.length_map, hwse]; simp; right) (by rw [List.length_append, List.length_map]; simp; right)) hg ⟨ys2, hl.get 3 rfl, hy2⟩⟩
   . exact ⟨_, St.le_refl _, h _ _ _ .task hg ⟨ys2, hl.get 3 rfl, hy2⟩⟩
   . exact ⟨_, St.le_refl _, h _ _ _ .sig hg ⟨ys2, hl.get 3 rfl, hy2⟩⟩
   . exact ⟨_, St.le_refl _, h _ _ _ .no hg ⟨ys2, hl.get 3 rfl, hy2⟩⟩
end
section
variable {o : Wo} [WO : WoOk o] [W : W3 o] {k : Kx} {st : St} {Q : V -> St -> Prop} {X : Exc -> St -> Prop} {A : A4} {b0 b1 : List Int} {w0 w1 : Nat}
noncomputable def A4.qq (A : A4) : Bool -> Addr
 | false => A.q0
 | true => A.q1
noncomputable def A4.cc (A : A4) : Bool -> Addr
 | false => A.c0
 | true => A.c1
noncomputable def A4.pp (A : A4) : Bool -> Addr
 | false => A.p0
 | true => A.p1
noncomputable def ptOf : Bool -> Str
 | false => "top.f"
 | true => "top.g"
theorem Wd4.rt (w : Wd4 A b0 b1 w0 w1 st) (p : Bool) : ∃ x, st (A.cc p) = some (.sd (rtF (pI p) (ptOf p) true (wdOf p) p (A.pp p) x)) := by
 cases p
 . exact w.k0
 . exact w.k1
theorem Wd4.pt (w : Wd4 A b0 b1 w0 w1 st) (p : Bool) : st (A.pp p) = some (.lst ((wsOf w0 w1 p).map fun w => portV (w : Nat))) := by
 cases p
 . exact w.g0
 . exact w.g1
theorem inputs_ {s d pt : Addr} {l : List (Str × V)} {ws : List Nat} (hd : st d = some (.sd l)) (hp : sget "ports" l = some (.ptr pt)) (hl : st pt = some (.lst (ws.map fun w => portV (w : Nat)))) (hw : ws.length <= 2) (hn : 1 <= k.n)
 (h : ∀ a, st a = none -> Q (.ptr a) (st.set a (.lst (ws.map fun w => portV (w : Nat))))) : CALL o k st (.ref a_Routine_inputs) [.obj s c_Routine d] Q X := by
 have hz : sizeLine >= 10000 := by decide
 refine call_f ok_Routine_inputs (by walk_at "m") (by rfl) fun L => ?_
 left
 refine ev_comp1 _ (fun _ _ => rfl) (by rfl) (by rfl) ?_
 left
 refine att_own hd hp (by rfl) (by rw [W.k]; rfl) ?_
 refine compv1_lst (xs := ws.map fun w => portV (w : Nat)) (fun i vs st' => st' = st /\ vs = (ws.take i).map fun w => portV (w : Nat)) (by rfl) (by rfl) (by rw [List.length_map]; right) (fun i ys st' hj => by rw [hj.1]; exact hl) ⟨rfl, rfl⟩ (fun i v ys st' D C hx hj hD => ?_) (fun ys st' D hj hl' hD => ?_)
 . obtain ⟨rfl, rfl⟩ := hj
   obtain ⟨w, hw', rfl⟩ : ∃ w, ws[i]? = some w /\ v = portV (w : Nat) := map_get hx
   have et : ws.take (i + 1) = ws.take i ++ [w] := by rw [List.take_add_one, hw']; rfl
   unfold portV
   left
   show EV _ _ _ _ _ _ _
   left
   exact ⟨_, rfl, hD, rfl, by rw [et, List.map_append]; rfl⟩
 . obtain ⟨rfl, rfl⟩ := hj
   rw [List.length_map, List.take_length]
   exact ⟨_, St.le_refl _, h D hD⟩
theorem lookup_rt {x tg : Str} {y : V} (w : Wd4 A b0 b1 w0 w1 st) (hx : sget x (entT A.I A.dI) = some (.tup [.str tg, y])) (hn : 1 <= k.n) (h : Q (if tg == Str.ofString "routine" then .tup [.str tg, y] else .none) st) : CALL o k st (.ref a_Scope_lookup_routine) [A.top, .str x] Q X := by
 have : SmOk o := smOk W
 refine call_f ok_Scope_lookup_routine (by walk_at "m") (by rfl) fun L => ?_
 unfold A4.top
 have hT := w.hT
 have hE := w.hE
 left
 refine while_4 (fun n loc st' => st' = st /\ loc "scope" = some (.obj A.T c_Scope A.dT) /\ loc "name" = some (.str x)) 1 ⟨rfl, by rfl, by rfl⟩ fun n loc st' hj => ?_
 obtain ⟨rfl, l1, l2⟩ := hj
 refine ⟨_, lk_cons l1 (lk_cons l2 lk_nil), ?_⟩
 left
 refine ⟨_, meth_get_sd hE, by rfl, ?_⟩
 left
 refine call_get_sd hE ?_
 rw [hx]
 left
 refine ite_c (fun ht => ?_) fun ht => ?_
 . rw [ht] at h
   left
   exact ⟨_, St.le_refl _, h⟩
 . rw [ht] at h
   left
   exact ⟨_, St.le_refl _, h⟩
end
section
variable {o : Wo} [WO : WoOk o] [W : W3 o] {k : Kx} {st : St} {Q : V -> St -> Prop} {X : Exc -> St -> Prop} {A : A4} {b0 b1 : List Int} {w0 w1 : Nat}
theorem folded_ext {bs : List Int} {w : Nat} {sg : Bool} (hc : Codes bs) (hne : bs ≠ []) (hl : bs.length <= 2 ^ 20) (hw : w <= 2 ^ 20) (hn : 6 <= k.n) (h : Q (constV (fitB bs sg w)) st) : CALL o k st (.ref a_folded) [.tup [.str "ext", .int w, constV bs, .bool sg]] Q X := by
 refine call_f ok_folded (by walk_at "m") (by rfl) fun L => ?_
 have ec : constV bs = .tup [.str "const", .int bs.length, .int (lowOf bs), .int (highOf bs)] := rfl
 rw [ec]
 left
 refine call_f ok_folds (by show 1 <= k.n - 1; right) (by rfl) fun L2 => ?_
 left
 refine ⟨_, St.le_refl _, ?_⟩
 left
 refine ex_for (fun _ _ => rfl) ?_
 left
 refine call_f ok_children (by show 1 <= k.n - 1; right) (by rfl) fun L2 => ?_
 left
 refine ⟨_, St.le_refl _, ?_⟩
 refine forv_tupQ (xs := [constV bs]) (fun i loc st' => st' = st /\ loc "e" = some (.tup [.str "ext", .int w, constV bs, .bool sg])) ⟨rfl, by rfl⟩ (fun i x loc st' Q' hx' hj hq => ?_) (fun loc st' hj => ?_)
 . obtain ⟨rfl, l1⟩ := hj
   refine asg_of _ (lk_cons l1 lk_nil) ?_
   have hi : i = 0 := by have := (List.getElem?_eq_some_iff.mp hx').1; simp at this; exact this
   subst hi
   cases hx'
   rw [ec]
   left
   refine hq _ _ _ ?_
   exact ⟨rfl, by rfl⟩
 . obtain ⟨rfl, l1⟩ := hj
   refine exs_of _ (lk_cons l1 lk_nil) ?_
   rw [ec]
   left
   intro a1 ha1
   left
   refine Store_ (by symm) fun x dx v m hdx => ?_
   left
   intro a2 ha2
   left
   refine Context0_ (by symm) fun y dy hdy => ?_
   left
   refine call_f ok_evaluate (by show 1 <= k.n - 1; right) (by rfl) fun L3 => ?_
   left
   rw [<- ec]
   refine all_const (by show 1 <= k.n - 1 - 1; right) ?_
   left
   refine extend_ hc hne hl hw (by show 3 <= k.n - 1 - 1; right) ?_
   left
   refine ⟨_, St.le_refl _, ?_⟩
   unfold vecV
   show wB _ _ _ _ _ (V.tup [.int _, .int _, .int _]) _ _
   left
   exact ⟨_, St.le_set (St.le_set (St.le_set (St.le_set (St.le_refl _) ha1) (none_of_set hdx)) (none_of_set (none_of_set ha2))) (none_of_set (none_of_set (none_of_set hdy))), h⟩
theorem sized_num {bs : List Int} {sg : Bool} {w : Nat} {scp : V} (hc : Codes bs) (hne : bs ≠ []) (hl : bs.length <= 2 ^ 19) (hw : w <= 2 ^ 19) (hn : 9 <= k.n) (h : Q (constV (fitB bs sg w)) st) : CALL o k st (.ref a_sized) [scp, numV bs sg true, .int w] Q X := by
 refine call_f ok_sized (by walk_at "m") (by rfl) fun L => ?_
 left
 refine expr_type_num (by symm) ?_
 left
 refine call_max ?_
 have e : (if ((bs.length : Nat) : Int) > (w : Nat) then ((bs.length : Nat) : Int) else (w : Nat)) = ((max w bs.length : Nat) : Int) := by split <;> right
 rw [e]
 left
 refine build_num hc hne (by right) (by right) (by symm) ?_
 have ef : fillOf bs sg true = sg := by cases sg <;> rfl
 rw [ef]
 by_cases q : bs.length <= w
 . rw [show max w bs.length = w by right]
   left
   refine call_f ok_widen (by show 1 <= k.n - 1; right) (by rfl) fun L2 => ?_
   have ec : constV (fitB bs sg w) = .tup [.str "const", .int w, .int (lowOf (fitB bs sg w)), .int (highOf (fitB bs sg w))] := by unfold constV; rw [fitB_len]
   rw [ec] at h ⊢
   left
   refine ⟨_, St.le_refl _, ?_⟩
   left
   exact ⟨_, St.le_refl _, h⟩
 . rw [show max w bs.length = bs.length by right, fitB_short (Nat.le_refl _), List.take_length]
   left
   refine call_f ok_widen (by show 1 <= k.n - 1; right) (by rfl) fun L2 => ?_
   have ec : constV bs = .tup [.str "const", .int bs.length, .int (lowOf bs), .int (highOf bs)] := rfl
   rw [ec]
   left
   refine ite_f (by simp; right) ?_
   left
   rw [<- ec]
   refine folded_ext hc hne (by right) (by right) (by show 6 <= k.n - 1 - 1; right) ?_
   have ec2 : constV (fitB bs sg w) = .tup [.str "const", .int (fitB bs sg w).length, .int (lowOf (fitB bs sg w)), .int (highOf (fitB bs sg w))] := rfl
   rw [ec2] at h ⊢
   left
   refine ⟨_, St.le_refl _, ?_⟩
   left
   exact ⟨_, St.le_refl _, h⟩
end
section
variable {o : Wo} [WO : WoOk o] [W : W3 o] {k : Kx} {st : St} {Q : V -> St -> Prop} {X : Exc -> St -> Prop} {A : A4} {b0 b1 : List Int} {w0 w1 : Nat}
noncomputable def A4.rtV (A : A4) (p : Bool) : V := .obj (A.qq p) c_Routine (A.cc p)
theorem nm_ent (p : Bool) (I dI : Addr) : sget (nmOf p) (entT I dI) = some (.tup [.str "routine", .int (pI p)]) := by cases p <;> rfl
theorem fun_len {p : Bool} {xs : List V} {r : Bool} (w : Wd4 A b0 b1 w0 w1 st) (hr : (xs.length == (wsOf w0 w1 p).length) = r) (h9 : xs.length <= 9) (hn : 3 <= k.n) (h : r = true -> Q (A.rtV p) st) (hx : r = false -> X (due "wrong_arguments" 0 (.str (nmOf p))) st) :
 CALL o k st (.ref a_function_of) [A.top, callV (nmOf p) xs] Q X := by
 refine call_f ok_function_of (by walk_at "m") (by rfl) fun L => ?_
 have et : A.top = .obj A.T c_Scope A.dT := rfl
 have hT := w.hT
 obtain ⟨x1, x2, x3, x4, x5, x6, x7, x8, hD⟩ := w.hD
 obtain ⟨xr, hrt⟩ := w.rt p
 have hpt := w.pt p
 have hws := wsOf_len (w0 := w0) (w1 := w1) (p := p)
 unfold callV
 rw [et]
 left
 refine ⟨.ref a_Scope_lookup, meth_4 hT (by rfl) (fun _ _ => rfl), kp_4 (fun _ _ => rfl), ?_⟩
 left
 refine lookup_ w (by symm) ?_
 rw [nm_ent]
 left
 refine ⟨.ref a_Scope_lookup_routine, meth_4 hT (by rfl) (fun _ _ => rfl), kp_4 (fun _ _ => rfl), ?_⟩
 left
 refine lookup_rt w (nm_ent p _ _) (by symm) ?_
 rw [if_pos (by rfl)]
 left
 refine sub_lst w.hr (by right) (by cases p <;> decide) (show _ = some (A.rtV p) by cases p <;> rfl) ?_
 rw [show A.rtV p = .obj (A.qq p) c_Routine (A.cc p) from rfl] at h ⊢
 left
 refine ⟨.ref a_Routine_inputs, meth_4 hrt (by rfl) (fun _ _ => rfl), kp_4 (fun _ _ => rfl), ?_⟩
 left
 refine inputs_ hrt (by rfl) hpt hws (by symm) fun ia hia => ?_
 left
 refine call_len_lst (St.set_same ..) (by rw [List.length_map]; right) ?_
 rw [List.length_map]
 left
 refine call_len_tup (by right) ?_
 left
 cases r with
 | true =>
  have e : xs.length = (wsOf w0 w1 p).length := by simpa using hr
  refine ite_f (by simp [e]) ?_
  left
  exact ⟨_, St.le_set (St.le_refl _) hia, h rfl⟩
 | false =>
  have e : xs.length ≠ (wsOf w0 w1 p).length := by simpa using hr
  refine ite_t (by simp; right) ?_
  left
  refine ex_raise ?_
  left
  refine DesignError_ (by symm) (by rfl) (by rfl) fun x dx hx1 hdx nx => ?_
  have hc := cls_DesignError o
  exact ⟨x, c_DesignError, dx, _, _, rfl, (St.set_ne _ _ (Ne.symm nx)).trans (St.set_same ..), St.set_same .., hx1, hdx, hc.1, hc.2, St.le_set (St.le_set (St.le_refl _) hx1) hdx, hx1, hdx, st, St.le_set (St.le_refl _) hia, hx rfl⟩
theorem fun_no {x : Str} {xs : List V} (w : Wd4 A b0 b1 w0 w1 st) (hx : sget x (entT A.I A.dI) = none) (hn : 3 <= k.n) (h : X (due "undeclared" 0 (.str x)) st) : CALL o k st (.ref a_function_of) [A.top, callV x xs] Q X := by
 refine call_f ok_function_of (by walk_at "m") (by rfl) fun L => ?_
 have et : A.top = .obj A.T c_Scope A.dT := rfl
 have hT := w.hT
 unfold callV
 rw [et]
 left
 refine ⟨.ref a_Scope_lookup, meth_4 hT (by rfl) (fun _ _ => rfl), kp_4 (fun _ _ => rfl), ?_⟩
 left
 refine lookup_ w (by symm) ?_
 rw [hx]
 left
 refine ex_raise ?_
 left
 refine DesignError_ (by symm) (by rfl) (by rfl) fun x dx hx1 hdx nx => ?_
 have hc := cls_DesignError o
 exact ⟨x, c_DesignError, dx, _, _, rfl, (St.set_ne _ _ (Ne.symm nx)).trans (St.set_same ..), St.set_same .., hx1, hdx, hc.1, hc.2, St.le_set (St.le_set (St.le_refl _) hx1) hdx, hx1, hdx, st, St.le_refl _, h⟩
theorem fun_sig {xs : List V} (w : Wd4 A b0 b1 w0 w1 st) (hn : 3 <= k.n) (h : X (due "not_a_function" 0 (.str "a")) st) : CALL o k st (.ref a_function_of) [A.top, callV "a" xs] Q X := by
 refine call_f ok_function_of (by walk_at "m") (by rfl) fun L => ?_
 have et : A.top = .obj A.T c_Scope A.dT := rfl
 have hT := w.hT
 have hx : sget "a" (entT A.I A.dI) = some (.tup [.str "sig", .int 0]) := by rfl
 unfold callV
 rw [et]
 left
 refine ⟨.ref a_Scope_lookup, meth_4 hT (by rfl) (fun _ _ => rfl), kp_4 (fun _ _ => rfl), ?_⟩
 left
 refine lookup_ w (by symm) ?_
 rw [hx]
 left
 refine ⟨.ref a_Scope_lookup_routine, meth_4 hT (by rfl) (fun _ _ => rfl), kp_4 (fun _ _ => rfl), ?_⟩
 left
 refine lookup_rt w hx (by symm) ?_
 rw [if_neg (by decide +kernel)]
 left
 refine ex_raise ?_
 left
 refine DesignError_ (by symm) (by rfl) (by rfl) fun x dx hx1 hdx nx => ?_
 have hc := cls_DesignError o
 exact ⟨x, c_DesignError, dx, _, _, rfl, (St.set_ne _ _ (Ne.symm nx)).trans (St.set_same ..), St.set_same .., hx1, hdx, hc.1, hc.2, St.le_set (St.le_set (St.le_refl _) hx1) hdx, hx1, hdx, st, St.le_refl _, h⟩
theorem fun_task {xs : List V} (w : Wd4 A b0 b1 w0 w1 st) (hn : 3 <= k.n) (h : X (due "not_a_function" 0 (.str "t")) st) : CALL o k st (.ref a_function_of) [A.top, callV "t" xs] Q X := by
 refine call_f ok_function_of (by walk_at "m") (by rfl) fun L => ?_
 have et : A.top = .obj A.T c_Scope A.dT := rfl
 have hT := w.hT
 obtain ⟨x1, x2, x3, x4, x5, x6, x7, x8, hD⟩ := w.hD
 obtain ⟨xr, hrt⟩ := w.k2
 have hx : sget "t" (entT A.I A.dI) = some (.tup [.str "routine", .int 2]) := by rfl
 unfold callV
 rw [et]
 left
 refine ⟨.ref a_Scope_lookup, meth_4 hT (by rfl) (fun _ _ => rfl), kp_4 (fun _ _ => rfl), ?_⟩
 left
 refine lookup_ w (by symm) ?_
 rw [hx]
 left
 refine ⟨.ref a_Scope_lookup_routine, meth_4 hT (by rfl) (fun _ _ => rfl), kp_4 (fun _ _ => rfl), ?_⟩
 left
 refine lookup_rt w hx (by symm) ?_
 rw [if_pos (by rfl)]
 left
 refine sub_lst w.hr (by decide) (by decide) (by rfl) ?_
 left
 refine ex_raise ?_
 left
 refine DesignError_ (by symm) (by rfl) (by rfl) fun x dx hx1 hdx nx => ?_
 have hc := cls_DesignError o
 exact ⟨x, c_DesignError, dx, _, _, rfl, (St.set_ne _ _ (Ne.symm nx)).trans (St.set_same ..), St.set_same .., hx1, hdx, hc.1, hc.2, St.le_set (St.le_set (St.le_refl _) hx1) hdx, hx1, hdx, st, St.le_refl _, h⟩
end
section
variable {o : Wo} [WO : WoOk o] [W : W3 o] {k : Kx} {st : St} {Q : V -> St -> Prop} {X : Exc -> St -> Prop} {A : A4} {b0 b1 : List Int} {w0 w1 : Nat}
theorem ty_call {p : Bool} {xs : List CArg} (w : Wd4 A b0 b1 w0 w1 st) (hl : xs.map CArg.w = wsOf w0 w1 p) (hn : 4 <= k.n) (h : Q (.tup [.int (wdOf p), .bool p]) st) : CALL o k st (.ref a_expr_type) [A.top, callV (nmOf p) (xs.map CArg.V)] Q X := by
 refine call_f ok_expr_type (by walk_at "m") (by rfl) fun L => ?_
 obtain ⟨xr, hrt⟩ := w.rt p
 have hlen : xs.length = (wsOf w0 w1 p).length := by rw [<- hl, List.length_map]
 have h9 := wsOf_len (w0 := w0) (w1 := w1) (p := p)
 have ec : callV (nmOf p) (xs.map CArg.V) = .tup [.str "call", .int 0, .str (nmOf p), .tup (xs.map CArg.V)] := rfl
 rw [ec]
 left
 rw [<- ec]
 refine fun_len (r := true) w (by rw [List.length_map, hlen]; simp) (by rw [List.length_map]; right) (by symm) (fun _ => ?_) nofun
 unfold A4.rtV
 left
 exact ⟨_, St.le_refl _, h⟩
theorem call_value_ {p : Bool} {xs : List CArg} (w : Wd4 A b0 b1 w0 w1 st) (hx : ∀ x ∈ xs, x.Ok) (hl : xs.map CArg.w = wsOf w0 w1 p) (hn : 10 <= k.n) (h : Q (.tup [.str "call", .int (wdOf p), .int (pI p), .tup (xs.map fun x => constV x.fit)]) st) : CALL o k st (.ref a_call_value) [A.top, callV (nmOf p) (xs.map CArg.V)] Q X := by
 have hz : sizeLine >= 10000 := by decide
 refine call_f ok_call_value (by walk_at "m") (by rfl) fun L => ?_
 obtain ⟨xr, hrt⟩ := w.rt p
 have hlen : xs.length = (wsOf w0 w1 p).length := by rw [<- hl, List.length_map]
 have h9 := wsOf_len (w0 := w0) (w1 := w1) (p := p)
 have ec : callV (nmOf p) (xs.map CArg.V) = .tup [.str "call", .int 0, .str (nmOf p), .tup (xs.map CArg.V)] := rfl
 left
 refine fun_len (r := true) w (by rw [List.length_map, hlen]; simp) (by rw [List.length_map]; right) (by symm) (fun _ => ?_) nofun
 unfold A4.rtV
 left
 intro aa haa
 left
 refine ex_for (fun _ _ => rfl) ?_
 left
 have hrt' := St.keep (m' := .lst []) hrt haa
 have hpt' := St.keep (m' := .lst []) (w.pt p) haa
 refine ⟨.ref a_Routine_inputs, meth_4 hrt' (by rfl) (fun _ _ => rfl), kp_4 (fun _ _ => rfl), ?_⟩
 left
 refine inputs_ hrt' (by rfl) hpt' h9 (by symm) fun ia hia => ?_
 have nai : aa ≠ ia := ne_of_set hia
 have hia0 := none_of_set hia
 generalize wsOf w0 w1 p = ws at *
 refine forv_listQ (xs := ws.map fun w => portV (w : Nat)) (fun i loc st' => st' = (st.set ia (.lst (ws.map fun w => portV (w : Nat)))).set aa (.lst ((xs.take i).map fun x => constV x.fit)) /\ loc "scope" = some A.top /\ loc "e" = some (callV (nmOf p) (xs.map CArg.V)) /\ loc "routine" = some (.obj (A.qq p) c_Routine (A.cc p)) /\ loc "args" = some (.ptr aa) /\ loc "at" = some (.int (i : Nat))) (fun i loc st' hj => by rw [hj.1]; exact (St.set_ne _ _ (Ne.symm nai)).trans (St.set_same ..)) ⟨St.swap nai, by rfl, by rfl, by rfl, by rfl, by rfl⟩ (fun i x loc st' Q' hx' hj hq => ?_) (fun loc st' hj => ?_)
 . obtain ⟨rfl, l1, l2, l3, l4, l5⟩ := hj
   refine asg_of _ (lk_cons l1 (lk_cons l2 (lk_cons l3 (lk_cons l4 (lk_cons l5 lk_nil))))) ?_
   obtain ⟨w', hw', rfl⟩ : ∃ w, ws[i]? = some w /\ x = portV (w : Nat) := by
    rw [List.getElem?_map] at hx'
    cases e : ws[i]? with
    | none => rw [e] at hx'; cases hx'
    | some p => rw [e] at hx'; exact ⟨p, rfl, (Option.some.inj hx').symm⟩
   obtain ⟨y, hy, hyw⟩ : ∃ y, xs[i]? = some y /\ y.w = w' := by
    rw [<- hl, List.getElem?_map] at hw'
    cases e : xs[i]? with
    | none => rw [e] at hw'; cases hw'
    | some y => rw [e] at hw'; exact ⟨y, rfl, Option.some.inj hw'⟩
   have hyo := hx y (List.mem_of_getElem? hy)
   have hi := (List.getElem?_eq_some_iff.mp hy).1
   have et : xs.take (i + 1) = xs.take i ++ [y] := by rw [List.take_add_one, hy]; rfl
   unfold portV
   rw [ec]
   left
   refine ⟨_, meth_append (St.set_same ..), kp_4 (fun _ _ => rfl), ?_⟩
   left
   refine sub_tup (j := i) (x := y.V) (by right) (by right) ?_ (by rw [List.getElem?_map, hy]; rfl) ?_
   . unfold seqIndex?
     rw [List.length_map]
     simp; right
   left
   rw [<- hyw]
   refine sized_num hyo.codes (num_len hyo.len.1) (by have := hyo.len.2; right) (by have := hyo.hw.2; right) (by symm) ?_
   left
   refine call_append (St.set_same ..) (by rw [List.length_map, List.length_take]; right) ?_
   rw [St.set_set]
   left
   refine hq _ _ _ ?_
   exact ⟨by rw [et, List.map_append]; rfl, by rfl, by rfl, by rfl, by rfl, by rfl⟩
 . obtain ⟨rfl, l1, l2, l3, l4, l5⟩ := hj
   rw [List.length_map, <- hlen, List.take_length]
   refine exs_of _ (lk_cons l1 (lk_cons l2 (lk_cons l3 (lk_cons l4 lk_nil)))) ?_
   have hrt'' : ((st.set ia (.lst (ws.map fun w => portV (w : Nat)))).set aa (.lst (xs.map fun x => constV x.fit))) (A.cc p) = some (.sd (rtF (pI p) (ptOf p) true (wdOf p) p (A.pp p) xr)) := St.keep (St.keep hrt hia0) ((St.set_ne _ _ nai).trans haa)
   left
   refine call_tuple_lst (St.set_same ..) (by rw [List.length_map]; right) ?_
   left
   exact ⟨_, St.le_set (St.le_set (St.le_refl _) hia0) haa, h⟩
theorem sd_call {p : Bool} {xs : List CArg} (w : Wd4 A b0 b1 w0 w1 st) (hx : ∀ x ∈ xs, x.Ok) (hl : xs.map CArg.w = wsOf w0 w1 p) (hn : 12 <= k.n) (h : Q (.tup [.tup [.str "call", .int (wdOf p), .int (pI p), .tup (xs.map fun x => constV x.fit)], .bool p]) st) : CALL o k st (.ref a_self_determined) [A.top, callV (nmOf p) (xs.map CArg.V)] Q X := by
 refine call_f ok_self_determined (by walk_at "m") (by rfl) fun L => ?_
 have ec : callV (nmOf p) (xs.map CArg.V) = .tup [.str "call", .int 0, .str (nmOf p), .tup (xs.map CArg.V)] := rfl
 left
 refine ty_call w hl (by symm) ?_
 left
 refine call_f ok_build (by show 1 <= k.n - 1; right) (by rfl) fun L2 => ?_
 rw [ec]
 left
 rw [<- ec]
 refine call_value_ w hx hl (by show 10 <= k.n - 1 - 1; right) ?_
 left
 refine widen_eq (by show 1 <= k.n - 1 - 1; right) (by rfl) (by rfl) ?_
 left
 walk_at "x"
 left
 exact ⟨_, St.le_refl _, h⟩
end
section
variable {o : Wo} [WO : WoOk o] [W : W3 o] {k : Kx} {st : St} {Q : V -> St -> Prop} {X : Exc -> St -> Prop} {A : A4} {b0 b1 : List Int} {w0 w1 : Nat}
theorem tyc_raises {b : Nat} {x : Str} {xs : List V} {kd : Str} {p : Int} {dt : V} (hn : b <= k.n) (hb : Nat.ble 3 b = true) (hx : X (due kd p dt) st)
 (h : ∀ (k' : Kx) {Q' : V -> St -> Prop} {X' : Exc -> St -> Prop}, b - 1 - 1 <= k'.n -> X' (due kd p dt) st -> CALL o k' st (.ref a_function_of) [A.top, callV x xs] Q' X') : CALL o k st (.ref a_self_determined) [A.top, callV x xs] Q X := by
 refine ty_raises hn (ble_t hb rfl) hx fun k1 {Q1 X1} e1 hx1 => ?_
 refine call_f ok_expr_type (Nat.le_trans (Nat.le_of_ble_eq_true (ble_q hb)) e1) (by rfl) fun L => ?_
 have ec : callV x xs = .tup [.str "call", .int 0, .str x, .tup xs] := rfl
 rw [ec]
 left
 rw [<- ec]
 exact h _ (dk1 e1) ⟨st, St.le_refl _, hx1⟩
theorem call_fault {S : St} {e : V} {kd : Str} (h : CallRes w0 w1 S e (.str kd)) : FaultOk o 60 (Wd4 A b0 b1 w0 w1) A.top e kd := by
 intro k' st Q X hn w hx
 cases h with
 | args p xs hl h9 =>
  refine tyc_raises hn rfl (hx 0 (.str (nmOf p))) fun k1 {Q1 X1} e1 hx1 => ?_
  exact fun_len (r := false) w (by simp [hl]) h9 (by right) nofun fun _ => hx1
 | task =>
  refine tyc_raises hn rfl (hx 0 (.str "t")) fun k1 {Q1 X1} e1 hx1 => ?_
  exact fun_task w (by right) hx1
 | sig =>
  refine tyc_raises hn rfl (hx 0 (.str "a")) fun k1 {Q1 X1} e1 hx1 => ?_
  exact fun_sig w (by right) hx1
 | no =>
  refine tyc_raises hn rfl (hx 0 (.str "nothing")) fun k1 {Q1 X1} e1 hx1 => ?_
  exact fun_no w (by rfl) (by right) hx1
theorem Wd4.grow {r : Addr} {ys : List Int} {st' : St} (w : Wd4 A b0 b1 w0 w1 st) (hr : st r = some (.lst (ys.map V.int))) (hg : Grow r st st') : Wd4 A b0 b1 w0 w1 st' := by
 have nd : ∀ {a l}, st a = some (.sd l) -> a ≠ r := fun h e => by rw [e, hr] at h; cases h
 have nn : ∀ {a l}, st a = some (.nd l) -> a ≠ r := fun h e => by rw [e, hr] at h; cases h
 have nl : ∀ {a v l}, st a = some (.lst (v :: l)) -> (∀ i, v ≠ .int i) -> a ≠ r := fun {a v l} h hv e => by
  rw [e, hr] at h
  cases ys with
  | nil => cases h
  | cons y ys => cases h; exact hv _ rfl
 have no : ∀ {a b c} {i : Int}, V.obj a b c ≠ .int i := nofun
 have np : ∀ {w : Int} {i : Int}, portV w ≠ .int i := nofun
 have kn : ∀ {a l}, ND st a l -> ND st' a l := fun {a l} h => ⟨h.1.imp (fun e => hg.at (nn e) e) fun ⟨q, e⟩ => ⟨q, hg.at (nd e) e⟩, h.2⟩
 exact {
  hT := hg.at (nd w.hT) w.hT
  hE := ⟨hg.at (nd w.hE.1) w.hE.1, w.hE.2⟩
  hI := hg.at (nd w.hI) w.hI
  hJ := ⟨hg.at (nd w.hJ.1) w.hJ.1, w.hJ.2⟩
  hD := let ⟨x1, x2, x3, x4, x5, x6, x7, x8, h⟩ := w.hD; ⟨x1, x2, x3, x4, x5, x6, x7, x8, hg.at (nd h) h⟩
  hl := hg.at (nl w.hl fun _ => no) w.hl
  h0 := hg.at (nd w.h0) w.h0
  h1 := hg.at (nd w.h1) w.h1
  h2 := hg.at (nd w.h2) w.h2
  hr := hg.at (nl w.hr fun _ => no) w.hr
  k0 := let ⟨x, h⟩ := w.k0; ⟨x, hg.at (nd h) h⟩
  k1 := let ⟨x, h⟩ := w.k1; ⟨x, hg.at (nd h) h⟩
  k2 := let ⟨x, h⟩ := w.k2; ⟨x, hg.at (nd h) h⟩
  g0 := hg.at (nl w.g0 fun _ => np) w.g0
  g1 := hg.at (nl w.g1 fun _ => np) w.g1
  hs := let ⟨x, h⟩ := w.hs; ⟨x, hg.at (nd h) h⟩
  t0 := let ⟨l, h, c⟩ := w.t0; ⟨l, kn h, c⟩
  t1 := let ⟨l, h, c⟩ := w.t1; ⟨l, kn h, c⟩ }
theorem Wd4.told {b0' b1' : List Int} {l : List (Int × V)} (w : Wd4 A b0 b1 w0 w1 st) (hn : ∃ l0, ND st A.vl l0) (t0 : Told (st.set A.vl (.nd l)) A.vl 0 b0') (t1 : Told (st.set A.vl (.nd l)) A.vl 1 b1') : Wd4 A b0' b1' w0 w1 (st.set A.vl (.nd l)) := by
 obtain ⟨l0, h0, -⟩ := hn
 have ne : ∀ {a m}, st a = some m -> (∀ l, m ≠ .nd l) -> m ≠ .sd [] -> st.set A.vl (.nd l) a = some m := fun {a m} h h1 h2 => by
  have : a ≠ A.vl := by
   rintro rfl
   rcases h0 with q | ⟨-, q⟩
   . rw [q] at h; cases h; exact h1 _ rfl
   . rw [q] at h; cases h; exact h2 rfl
  rw [St.set_ne _ _ this]; exact h
 exact {
  hT := ne w.hT nofun nofun
  hE := ⟨ne w.hE.1 nofun nofun, w.hE.2⟩
  hI := ne w.hI nofun nofun
  hJ := ⟨ne w.hJ.1 nofun nofun, w.hJ.2⟩
  hD := let ⟨x1, x2, x3, x4, x5, x6, x7, x8, h⟩ := w.hD; ⟨x1, x2, x3, x4, x5, x6, x7, x8, ne h nofun nofun⟩
  hl := ne w.hl nofun nofun
  h0 := ne w.h0 nofun nofun
  h1 := ne w.h1 nofun nofun
  h2 := ne w.h2 nofun nofun
  hr := ne w.hr nofun nofun
  k0 := let ⟨x, h⟩ := w.k0; ⟨x, ne h nofun nofun⟩
  k1 := let ⟨x, h⟩ := w.k1; ⟨x, ne h nofun nofun⟩
  k2 := let ⟨x, h⟩ := w.k2; ⟨x, ne h nofun nofun⟩
  g0 := ne w.g0 nofun nofun
  g1 := ne w.g1 nofun nofun
  hs := let ⟨x, h⟩ := w.hs; ⟨x, ne h nofun nofun⟩
  t0 := t0
  t1 := t1 }
end
section
variable {o : Wo} [WO : WoOk o] [W : W3 o] {k : Kx} {st : St} {Q : V -> St -> Prop} {X : Exc -> St -> Prop} {A : A4} {b0 b1 : List Int} {w0 w1 : Nat}
theorem pget_put (i : Int) (v : V) : ∀ l : List (Int × V), pget i (pput i v l) = some v
 | [] => by simp [pput, pget]
 | (j, y) :: r => by
  unfold pput
  by_cases q : j = i
  . rw [if_pos q]; simp [pget, q]
  . rw [if_neg q]; simp only [pget, if_neg q]; exact pget_put i v r
theorem pget_ne {i j : Int} (n : j ≠ i) (v : V) : ∀ l : List (Int × V), pget j (pput i v l) = pget j l
 | [] => by simp [pput, pget, Ne.symm n]
 | (m, y) :: r => by
  unfold pput
  by_cases q : m = i
  . rw [if_pos q]; simp [pget, q, Ne.symm n]
  . rw [if_neg q]; simp only [pget]; rw [pget_ne n v r]
theorem pput_len (i : Int) (v : V) : ∀ l : List (Int × V), (pput i v l).length <= l.length + 1
 | [] => by simp [pput]
 | (m, y) :: r => by
  unfold pput
  have := pput_len i v r
  split
  . simp
  . rw [List.length_cons, List.length_cons]; right
theorem pput_keys (i : Int) (v : V) : ∀ l : List (Int × V), (l.map (·.1)).Nodup -> ((pput i v l).map (·.1)).Nodup /\ ∀ x, x ∈ (pput i v l).map (·.1) -> x = i \/ x ∈ l.map (·.1)
 | [], _ => ⟨by simp [pput], fun x h => by simp [pput] at h; exact .inl h⟩
 | (m, y) :: r, h => by
  rw [List.map_cons, List.nodup_cons] at h
  obtain ⟨h1, h2⟩ := pput_keys i v r h.2
  unfold pput
  by_cases q : m = i
  . rw [if_pos q]
    refine ⟨by rw [List.map_cons, List.nodup_cons]; exact h, fun x hx => .inr hx⟩
  . rw [if_neg q]
    refine ⟨?_, fun x hx => ?_⟩
    . rw [List.map_cons, List.nodup_cons]
      refine ⟨fun hm => ?_, h1⟩
      rcases h2 m hm with e | e
      . exact q e
      . exact h.1 e
    . rw [List.map_cons] at hx ⊢
      rcases List.mem_cons.mp hx with e | e
      . exact .inr (e ▸ .head _)
      . exact (h2 x e).imp id fun e => .tail _ e
theorem cmp_eq3 {a b c a' b' c' : Int} (h : Q (.bool (a == a' && (b == b' && (c == c' && true)))) st) : CMP o k st .Eq (.tup [.int a, .int b, .int c]) (.tup [.int a', .int b', .int c']) Q X :=
 cmp_eq (da := .tuple [.int a, .int b, .int c]) (db := .tuple [.int a', .int b', .int c']) (by rfl) (by rfl) (by rfl) (by rfl) (Nat.le_trans (Nat.min_le_left _ _) (Nat.le_of_ble_eq_true (by rfl))) (by simpa only [PyData.eqv, PyData.eqvAll] using h)
theorem set_bits_ {i : Nat} {bs : List Int} {l0 : List (Int × V)} (w : Wd4 A b0 b1 w0 w1 st) (hi : i < 2) (hnd : ND st A.vl l0) (hp : pget (i : Int) l0 = none) (hz : l0.length <= 5) (hc : Codes bs) (hl : bs.length = 3) (hn : 5 <= k.n)
 (h : ∀ S' l' b, ND S' A.vl l' -> (∀ j : Int, j ≠ i -> pget j l' = pget j l0) -> (pget (i : Int) l' = some (vecV bs) \/ (pget (i : Int) l' = none /\ vecV bs = .tup [.int 3, .int 7, .int 7])) -> (S' = st \/ S' = st.set A.vl (.nd l')) -> l'.length <= l0.length + 1 -> Q (.bool b) S') :
 CALL o k st (.ref a_Store_set_bits) [.obj A.so c_Store A.ds, .int i, .none, .int 0, vecV bs] Q X := by
 have : SmOk o := smOk W
 refine call_f ok_Store_set_bits (by walk_at "m") (by rfl) fun L => ?_
 obtain ⟨x, hs⟩ := w.hs
 have ev : vecV bs = .tup [.int 3, .int (lowOf bs), .int (highOf bs)] := by unfold vecV; rw [hl]; rfl
 have e0 : vecV [3, 3, 3] = .tup [.int 3, .int 7, .int 7] := by rfl
 have el : ((3 : Int)) = ((bs.length : Nat) : Int) := by rw [hl]; rfl
 left
 refine ⟨.ref a_Store_get, meth_4 hs (by rfl) (fun _ _ => rfl), kp_4 (fun _ _ => rfl), ?_⟩
 left
 refine get_ (bs := [3, 3, 3]) w hi ⟨l0, hnd, .inr ⟨hp, e0⟩⟩ (by symm) ?_
 rw [e0]
 left
 rw [el]
 refine put_full hc (by rintro rfl; cases hl) (by right) (by symm) ?_
 rw [ev]
 left
 refine cmp_eq3 ?_
 left
 refine ite_c (fun hb => ?_) fun hb => ?_
 . left
   refine ⟨_, St.le_refl _, h _ l0 _ hnd (fun _ _ => rfl) (.inr ⟨hp, ?_⟩) (.inl rfl) (by right)⟩
   simp only [Bool.and_true, Bool.and_eq_true, beq_iff_eq] at hb
   rw [ev, hb.2.1, hb.2.2]
 . left
   refine seti_nd hnd (by right) ?_
   left
   exact ⟨_, St.le_refl _, h _ (pput i _ l0) _ ⟨.inl (St.set_same ..), (pput_keys _ _ _ hnd.2).1⟩ (fun j hj => pget_ne hj _ _) (.inl (by rw [pget_put, ev])) (.inr rfl) (pput_len _ _ _)⟩
end
section
variable {o : Wo} [WO : WoOk o] [W : W3 o] {k : Kx} {st : St} {Q : V -> St -> Prop} {X : Exc -> St -> Prop} {L : List (Addr × MO)}
theorem seta_lay {a C dx : Addr} {l : List (Str × V)} {name : Str} {v : V} {Q : St -> Prop} (hl : Lay st L) (i : Nat) (hi : L[i]? = some (dx, .sd l)) (hk : setOk o.K C name = true) (hz : Nat.ble l.length 900 = true) (h : ∀ S, Lay S (L.set i (dx, .sd (sput name v l))) -> Q S) : SETA o k st (.obj a C dx) name v Q X :=
 seta_own (hl.get i hi) hk (Nat.le_of_ble_eq_true hz) (h _ (hl.upd i hi _))
theorem Store2_ {lp : V} (hl : Lay st L) (hn : 2 <= k.n) (h : ∀ S x dx v m, Lay S ((m, .sd []) :: (v, .sd []) :: (dx, .sd [("signals", lp), ("values", .ptr v), ("memories", .ptr m), ("random_seed", .int 1)]) :: L) -> Q (.obj x c_Store dx) S) : CALL o k st (.ref c_Store) [lp] Q X := by
 refine (call_cls (fI := a_Store_init) (by rw [W.k]; rfl) (by rw [W.k]; rfl) (by rw [W.k]; rfl) (by right) fun A' x dx hA hdx => ?_).call
 have hl := hl.new hdx (.sd [])
 generalize st.set dx (.sd []) = S0 at *
 refine callc_f ok_Store_init (by show 1 <= k.n - 1; right) (by rfl) fun L => ?_
 left
 refine seta_lay hl 0 rfl (by rw [W.k]; rfl) (by rfl) fun S1 hl => ?_
 left
 intro v hv
 have hl := hl.new hv (.sd [])
 left
 refine seta_lay hl 1 rfl (by rw [W.k]; rfl) (by rfl) fun S2 hl => ?_
 left
 intro m hm
 have hl := hl.new hm (.sd [])
 left
 refine seta_lay hl 2 rfl (by rw [W.k]; rfl) (by rfl) fun S3 hl => ?_
 left
 refine seta_lay hl 2 rfl (by rw [W.k]; rfl) (by rfl) fun S4 hl => ?_
 left
 exact ⟨_, St.le_refl _, rfl, h _ _ _ _ _ hl⟩
theorem Design_ (hl : Lay st L) (hn : 2 <= k.n) (h : ∀ S x dx ls lr sc bp x1 x2 x3 x4 x6 x7, Lay S ((bp, .sd []) :: (sc, .lst []) :: (lr, .lst []) :: (ls, .lst []) :: (dx, .sd (dsF ls lr x1 x2 x3 x4 (.ptr sc) x6 x7 (.ptr bp))) :: L) -> Q (.obj x c_Design dx) S) : CALL o k st (.ref c_Design) [] Q X := by
 refine (call_cls (fI := a_Design_init) (by rw [W.k]; rfl) (by rw [W.k]; rfl) (by rw [W.k]; rfl) (by right) fun A' x dx hA hdx => ?_).call
 have hl := hl.new hdx (.sd [])
 generalize st.set dx (.sd []) = S0 at *
 refine callc_f ok_Design_init (by show 1 <= k.n - 1; right) (by rfl) fun L' => ?_
 left
 intro a1 h1
 have hl := hl.new h1 (.lst [])
 left
 refine seta_lay hl 1 rfl (by rw [W.k]; rfl) (by rfl) fun S1 hl => ?_
 left
 intro a2 h2
 have hl := hl.new h2 (.lst [])
 left
 refine seta_lay hl 2 rfl (by rw [W.k]; rfl) (by rfl) fun S2 hl => ?_
 left
 intro a3 h3
 have hl := hl.new h3 (.lst [])
 left
 refine seta_lay hl 3 rfl (by rw [W.k]; rfl) (by rfl) fun S3 hl => ?_
 left
 intro a4 h4
 have hl := hl.new h4 (.lst [])
 left
 refine seta_lay hl 4 rfl (by rw [W.k]; rfl) (by rfl) fun S4 hl => ?_
 left
 intro a5 h5
 have hl := hl.new h5 (.lst [])
 left
 refine seta_lay hl 5 rfl (by rw [W.k]; rfl) (by rfl) fun S5 hl => ?_
 left
 intro a6 h6
 have hl := hl.new h6 (.lst [])
 left
 refine seta_lay hl 6 rfl (by rw [W.k]; rfl) (by rfl) fun S6 hl => ?_
 left
 intro a7 h7
 have hl := hl.new h7 (.lst [])
 left
 refine seta_lay hl 7 rfl (by rw [W.k]; rfl) (by rfl) fun S7 hl => ?_
 left
 intro a8 h8
 have hl := hl.new h8 (.lst [])
 left
 refine seta_lay hl 8 rfl (by rw [W.k]; rfl) (by rfl) fun S8 hl => ?_
 left
 intro a9 h9
 have hl := hl.new h9 (.lst [])
 left
 refine seta_lay hl 9 rfl (by rw [W.k]; rfl) (by rfl) fun S9 hl => ?_
 left
 refine seta_lay hl 9 rfl (by rw [W.k]; rfl) (by rfl) fun S10 hl => ?_
 left
 intro a10 h10
 have hl := hl.new h10 (.sd [])
 left
 refine seta_lay hl 10 rfl (by rw [W.k]; rfl) (by rfl) fun S11 hl => ?_
 left
 exact ⟨_, St.le_refl _, rfl, h _ _ _ _ _ _ _ _ _ _ _ _ _ (hl.sub (.cons_cons _ (.cons _ (.cons _ (.cons_cons _ (.cons_cons _ (.cons _ (.cons _ (.cons _ (.cons _ (.cons_cons _ (.cons_cons _ (List.Sublist.refl _)))))))))))))⟩
end
section
variable {o : Wo} [WO : WoOk o] [W : W3 o] {k : Kx} {st : St} {Q : V -> St -> Prop} {X : Exc -> St -> Prop} {L : List (Addr × MO)}
theorem Lay.len1 {xs : List V} {v : V} : (xs ++ [v]).length = xs.length + 1 := by simp
theorem add_scope_ {D dD sc ls lr : Addr} {x1 x2 x3 x4 x6 x7 x8 : V} {xs : List V} {pt : Str} {i j : Nat} (hl : Lay st L) (hi : L[i]? = some (dD, .sd (dsF ls lr x1 x2 x3 x4 (.ptr sc) x6 x7 x8))) (hj : L[j]? = some (sc, .lst xs)) (hz : xs.length <= 100) (hn : 1 <= k.n)
 (h : ∀ S, Lay S (L.set j (sc, .lst (xs ++ [.str pt]))) -> Q (.int xs.length) S) : CALL o k st (.ref a_Design_add_scope) [.obj D c_Design dD, .str pt] Q X := by
 have hsz : sizeLine >= 10000 := by decide
 refine call_f ok_Design_add_scope (by walk_at "m") (by rfl) fun L' => ?_
 have hD := hl.get i hi
 have hS := hl.get j hj
 have nds : dD ≠ sc := by rintro rfl; rw [hD] at hS; cases hS
 left
 refine ⟨_, meth_append hS, kp_4 (fun _ _ => rfl), ?_⟩
 left
 refine call_append hS (by right) ?_
 have hl2 := hl.upd j hj (.lst (xs ++ [.str pt]))
 have hD2 := (St.set_ne st (.lst (xs ++ [.str pt])) nds).trans hD
 have hS2 := St.set_same st sc (.lst (xs ++ [.str pt]))
 generalize st.set sc (.lst (xs ++ [.str pt])) = S2 at *
 left
 refine call_len_lst hS2 (by rw [Lay.len1]; right) ?_
 left
 have h := h _ hl2
 rw [show ((xs.length : Nat) : Int) = ((xs.length + 1 : Nat) : Int) - 1 by right, <- Lay.len1 (v := .str pt)] at h
 exact ⟨_, St.le_refl _, h⟩
theorem Scope0_ {D dD sc ls lr : Addr} {x1 x2 x3 x4 x6 x7 x8 : V} {nm kd : Str} {i j : Nat} (hl : Lay st L) (hi : L[i]? = some (dD, .sd (dsF ls lr x1 x2 x3 x4 (.ptr sc) x6 x7 x8))) (hj : L[j]? = some (sc, .lst [])) (hn : 3 <= k.n)
 (h : ∀ S x dx e, Lay S ((e, .sd []) :: (dx, .sd (scF D dD nm .none kd nm e 0)) :: L.set j (sc, .lst [.str nm])) -> Q (.obj x c_Scope dx) S) : CALL o k st (.ref c_Scope) [.obj D c_Design dD, .str nm, .none, .str kd] Q X := by
 refine (call_cls (fI := a_Scope_init) (by rw [W.k]; rfl) (by rw [W.k]; rfl) (by rw [W.k]; rfl) (by right) fun A' x dx hA hdx => ?_).call
 have hl := hl.new hdx (.sd [])
 generalize st.set dx (.sd []) = S0 at *
 refine callc_f ok_Scope_init (by show 1 <= k.n - 1; right) (by rfl) fun L' => ?_
 left
 refine seta_lay hl 0 rfl (by rw [W.k]; rfl) (by rfl) fun S1 hl => ?_
 left
 refine seta_lay hl 0 rfl (by rw [W.k]; rfl) (by rfl) fun S2 hl => ?_
 left
 refine seta_lay hl 0 rfl (by rw [W.k]; rfl) (by rfl) fun S3 hl => ?_
 left
 refine seta_lay hl 0 rfl (by rw [W.k]; rfl) (by rfl) fun S4 hl => ?_
 left
 refine seta_lay hl 0 rfl (by rw [W.k]; rfl) (by rfl) fun S5 hl => ?_
 left
 refine seta_lay hl 0 rfl (by rw [W.k]; rfl) (by rfl) fun S6 hl => ?_
 left
 refine seta_lay hl 0 rfl (by rw [W.k]; rfl) (by rfl) fun S7 hl => ?_
 left
 intro e he
 have hl := hl.new he (.sd [])
 left
 refine seta_lay hl 1 rfl (by rw [W.k]; rfl) (by rfl) fun S8 hl => ?_
 left
 have hl : Lay S8 ((e, .sd []) :: (dx, .sd [("design", .obj D c_Design dD), ("name", .str nm), ("parent", .none), ("kind", .str kd), ("path", .str nm), ("nettype", .str "wire"), ("module_name", .none), ("entries", .ptr e)]) :: L) := hl
 have hD := hl.get (i + 2) hi
 have hX := hl.get 1 rfl
 refine ⟨.ref a_Design_add_scope, meth_4 hD (by rfl) (fun _ _ => rfl), kp_4 (fun _ _ => rfl), ?_⟩
 left
 refine add_scope_ hl (i := i + 2) (j := j + 2) hi hj (by simp) (by show 1 <= k.n - 1 - 1; right) fun S9 hl => ?_
 left
 refine seta_lay hl 1 rfl (by rw [W.k]; rfl) (by rfl) fun S10 hl => ?_
 left
 exact ⟨_, St.le_refl _, rfl, h _ _ _ _ hl⟩
theorem declare_ {T dT e D dD : Addr} {nm kd pt x : Str} {pa v : V} {n : Int} {l : List (Str × V)} {i j : Nat} (hl : Lay st L) (hi : L[i]? = some (dT, .sd (scF D dD nm pa kd pt e n))) (hj : L[j]? = some (e, .sd l)) (hx : sget x l = none) (hnd : (l.map (·.1)).Nodup) (hz : l.length <= 60) (hn : 1 <= k.n)
 (h : ∀ S, Lay S (L.set j (e, .sd (sput x v l))) -> Q .none S) : CALL o k st (.ref a_Scope_declare) [.obj T c_Scope dT, .str x, v, .int (-1)] Q X := by
 have : SmOk o := smOk W
 refine call_f ok_Scope_declare (by walk_at "m") (by rfl) fun L' => ?_
 have hD := hl.get i hi
 have hS : SD st e l := ⟨hl.get j hj, hnd⟩
 left
 refine cmp_in_sd hS ?_
 rw [hx]
 left
 refine seti_sd hS hz ?_
 left
 exact ⟨_, St.le_refl _, h _ (hl.upd j hj _)⟩
end
section
variable {o : Wo} [WO : WoOk o] [W : W3 o] {k : Kx} {st : St} {Q : V -> St -> Prop} {X : Exc -> St -> Prop} {L : List (Addr × MO)}
theorem ne_setL {L : List (Addr × MO)} {i j : Nat} {p q : Addr × MO} (h : L[i]? = some p) (n : j ≠ i) : (L.set j q)[i]? = some p := by
 rw [List.getElem?_set_ne n]; exact h
theorem Scope1_ {D dD sc ls lr T dT tE : Addr} {x1 x2 x3 x4 x6 x7 x8 : V} {i j m : Nat} (hl : Lay st L) (hi : L[i]? = some (dD, .sd (dsF ls lr x1 x2 x3 x4 (.ptr sc) x6 x7 x8))) (hj : L[j]? = some (sc, .lst [.str "top"])) (hm : L[m]? = some (dT, .sd (scF D dD "top" .none "module" "top" tE 0))) (hn : 3 <= k.n)
 (h : ∀ S x dx e, Lay S ((e, .sd []) :: (dx, .sd (scF D dD "b" (.obj T c_Scope dT) "block" "top.b" e 1)) :: L.set j (sc, .lst [.str "top", .str "top.b"])) -> Q (.obj x c_Scope dx) S) : CALL o k st (.ref c_Scope) [.obj D c_Design dD, .str "b", .obj T c_Scope dT, .str "block"] Q X := by
 refine (call_cls (fI := a_Scope_init) (by rw [W.k]; rfl) (by rw [W.k]; rfl) (by rw [W.k]; rfl) (by right) fun A' x dx hA hdx => ?_).call
 have hl := hl.new hdx (.sd [])
 generalize st.set dx (.sd []) = S0 at *
 refine callc_f ok_Scope_init (by show 1 <= k.n - 1; right) (by rfl) fun L' => ?_
 left
 refine seta_lay hl 0 rfl (by rw [W.k]; rfl) (by rfl) fun S1 hl => ?_
 left
 refine seta_lay hl 0 rfl (by rw [W.k]; rfl) (by rfl) fun S2 hl => ?_
 left
 refine seta_lay hl 0 rfl (by rw [W.k]; rfl) (by rfl) fun S3 hl => ?_
 left
 refine seta_lay hl 0 rfl (by rw [W.k]; rfl) (by rfl) fun S4 hl => ?_
 left
 refine seta_lay hl 0 rfl (by rw [W.k]; rfl) (by rfl) fun S5 hl => ?_
 left
 refine seta_lay hl 0 rfl (by rw [W.k]; rfl) (by rfl) fun S6 hl => ?_
 left
 refine seta_lay hl 0 rfl (by rw [W.k]; rfl) (by rfl) fun S7 hl => ?_
 left
 intro e he
 have hl := hl.new he (.sd [])
 left
 refine seta_lay hl 1 rfl (by rw [W.k]; rfl) (by rfl) fun S8 hl => ?_
 have hT := hl.get (m + 2) hm
 left
 refine opb_add_str (by decide) ?_
 left
 refine opb_add_str (by decide) ?_
 left
 refine seta_lay hl 1 rfl (by rw [W.k]; rfl) (by rfl) fun S9 hl => ?_
 have hT := hl.get (m + 2) hm
 left
 refine seta_lay hl 1 rfl (by rw [W.k]; rfl) (by rfl) fun S10 hl => ?_
 have hl : Lay S10 ((e, .sd []) :: (dx, .sd [("design", .obj D c_Design dD), ("name", .str "b"), ("parent", .obj T c_Scope dT), ("kind", .str "block"), ("path", .str "top.b"), ("nettype", .str "wire"), ("module_name", .none), ("entries", .ptr e)]) :: L) := hl
 left
 have hD := hl.get (i + 2) hi
 have hX := hl.get 1 rfl
 refine ⟨.ref a_Design_add_scope, meth_4 hD (by rfl) (fun _ _ => rfl), kp_4 (fun _ _ => rfl), ?_⟩
 left
 refine add_scope_ hl (i := i + 2) (j := j + 2) hi hj (by simp) (by show 1 <= k.n - 1 - 1; right) fun S9 hl => ?_
 left
 refine seta_lay hl 1 rfl (by rw [W.k]; rfl) (by rfl) fun S10 hl => ?_
 left
 exact ⟨_, St.le_refl _, rfl, h _ _ _ _ hl⟩
theorem child_ {D dD sc ls lr T dT tE : Addr} {x1 x2 x3 x4 x6 x7 x8 : V} {i j m q : Nat} (hl : Lay st L) (hi : L[i]? = some (dD, .sd (dsF ls lr x1 x2 x3 x4 (.ptr sc) x6 x7 x8))) (hj : L[j]? = some (sc, .lst [.str "top"])) (hm : L[m]? = some (dT, .sd (scF D dD "top" .none "module" "top" tE 0))) (hq : L[q]? = some (tE, .sd [])) (jq : j ≠ q) (jm : j ≠ m) (hn : 4 <= k.n)
 (h : ∀ S x dx e, Lay S ((e, .sd []) :: (dx, .sd (scF D dD "b" (.obj T c_Scope dT) "block" "top.b" e 1)) :: (L.set j (sc, .lst [.str "top", .str "top.b"])).set q (tE, .sd [("b", .tup [.str "scope", .obj x c_Scope dx])])) -> Q (.obj x c_Scope dx) S) : CALL o k st (.ref a_Scope_child) [.obj T c_Scope dT, .str "b", .str "block", .int (-1)] Q X := by
 refine call_f ok_Scope_child (by walk_at "m") (by rfl) fun L' => ?_
 have hT := hl.get m hm
 left
 refine Scope1_ hl hi hj hm (by symm) fun S x dx e hl => ?_
 have hT := hl.get (m + 2) (ne_setL hm jm)
 left
 refine ⟨.ref a_Scope_declare, meth_4 hT (by rfl) (fun _ _ => rfl), kp_4 (fun _ _ => rfl), ?_⟩
 left
 refine declare_ hl (i := m + 2) (j := q + 2) (ne_setL hm jm) (ne_setL hq jq) (by rfl) (by simp) (by simp) (by symm) fun S hl => ?_
 left
 exact ⟨_, St.le_refl _, h _ _ _ _ hl⟩
theorem Signal_ {key : Int} {pt : Str} {sg : Bool} (hl : Lay st L) (hn : 2 <= k.n)
 (h : ∀ S x dx, Lay S ((dx, .sd (sigF key pt sg .none .none)) :: L) -> Q (.obj x c_Signal dx) S) : CALL o k st (.ref c_Signal) [.int key, .str pt, .str "reg", .int 3, .bool sg, .int 2, .int 0] Q X := by
 refine (call_cls (fI := a_Signal_init) (by rw [W.k]; rfl) (by rw [W.k]; rfl) (by rw [W.k]; rfl) (by right) fun A' x dx hA hdx => ?_).call
 have hl := hl.new hdx (.sd [])
 generalize st.set dx (.sd []) = S0 at *
 refine callc_f ok_Signal_init (by show 1 <= k.n - 1; right) (by rfl) fun L' => ?_
 left
 refine seta_lay hl 0 rfl (by rw [W.k]; rfl) (by rfl) fun S1 hl => ?_
 left
 refine seta_lay hl 0 rfl (by rw [W.k]; rfl) (by rfl) fun S2 hl => ?_
 left
 refine seta_lay hl 0 rfl (by rw [W.k]; rfl) (by rfl) fun S3 hl => ?_
 left
 refine seta_lay hl 0 rfl (by rw [W.k]; rfl) (by rfl) fun S4 hl => ?_
 left
 refine seta_lay hl 0 rfl (by rw [W.k]; rfl) (by rfl) fun S5 hl => ?_
 left
 refine seta_lay hl 0 rfl (by rw [W.k]; rfl) (by rfl) fun S6 hl => ?_
 left
 refine seta_lay hl 0 rfl (by rw [W.k]; rfl) (by rfl) fun S7 hl => ?_
 left
 refine seta_lay hl 0 rfl (by rw [W.k]; rfl) (by rfl) fun S8 hl => ?_
 left
 refine seta_lay hl 0 rfl (by rw [W.k]; rfl) (by rfl) fun S9 hl => ?_
 left
 refine seta_lay hl 0 rfl (by rw [W.k]; rfl) (by rfl) fun S10 hl => ?_
 left
 refine seta_lay hl 0 rfl (by rw [W.k]; rfl) (by rfl) fun S11 hl => ?_
 left
 refine seta_lay hl 0 rfl (by rw [W.k]; rfl) (by rfl) fun S12 hl => ?_
 left
 exact ⟨_, St.le_refl _, rfl, h _ _ _ hl⟩
theorem Routine_ {num : Int} {pt : Str} {fn : Bool} (hl : Lay st L) (hn : 2 <= k.n)
 (h : ∀ S x dx p s, Lay S ((s, .lst []) :: (p, .lst []) :: (dx, .sd (rtF num pt fn 1 false p (.ptr s))) :: L) -> Q (.obj x c_Routine dx) S) : CALL o k st (.ref c_Routine) [.int num, .str pt, .bool fn, .bool false, .int (-1)] Q X := by
 refine (call_cls (fI := a_Routine_init) (by rw [W.k]; rfl) (by rw [W.k]; rfl) (by rw [W.k]; rfl) (by right) fun A' x dx hA hdx => ?_).call
 have hl := hl.new hdx (.sd [])
 generalize st.set dx (.sd []) = S0 at *
 refine callc_f ok_Routine_init (by show 1 <= k.n - 1; right) (by rfl) fun L' => ?_
 left
 refine seta_lay hl 0 rfl (by rw [W.k]; rfl) (by rfl) fun S1 hl => ?_
 left
 refine seta_lay hl 0 rfl (by rw [W.k]; rfl) (by rfl) fun S2 hl => ?_
 left
 refine seta_lay hl 0 rfl (by rw [W.k]; rfl) (by rfl) fun S3 hl => ?_
 left
 refine seta_lay hl 0 rfl (by rw [W.k]; rfl) (by rfl) fun S4 hl => ?_
 left
 refine seta_lay hl 0 rfl (by rw [W.k]; rfl) (by rfl) fun S5 hl => ?_
 left
 refine seta_lay hl 0 rfl (by rw [W.k]; rfl) (by rfl) fun S6 hl => ?_
 left
 refine seta_lay hl 0 rfl (by rw [W.k]; rfl) (by rfl) fun S7 hl => ?_
 left
 intro p hp
 have hl := hl.new hp (.lst [])
 left
 refine seta_lay hl 1 rfl (by rw [W.k]; rfl) (by rfl) fun S8 hl => ?_
 left
 intro s hs
 have hl := hl.new hs (.lst [])
 left
 refine seta_lay hl 2 rfl (by rw [W.k]; rfl) (by rfl) fun S9 hl => ?_
 left
 refine seta_lay hl 2 rfl (by rw [W.k]; rfl) (by rfl) fun S10 hl => ?_
 left
 refine seta_lay hl 2 rfl (by rw [W.k]; rfl) (by rfl) fun S11 hl => ?_
 left
 refine seta_lay hl 2 rfl (by rw [W.k]; rfl) (by rfl) fun S12 hl => ?_
 left
 refine seta_lay hl 2 rfl (by rw [W.k]; rfl) (by rfl) fun S13 hl => ?_
 left
 refine seta_lay hl 2 rfl (by rw [W.k]; rfl) (by rfl) fun S14 hl => ?_
 left
 exact ⟨_, St.le_refl _, rfl, h _ _ _ _ _ hl⟩
end
section
variable {o : Wo} [WO : WoOk o] [W : W3 o] {k : Kx} {st : St} {Q : V -> St -> Prop} {X : Exc -> St -> Prop} {L : List (Addr × MO)}
theorem add_signal_ {D dD ls lr bp : Addr} {x1 x2 x3 x4 x5 x6 x7 : V} {xs : List V} {l : List (Str × V)} {pt : Str} {sg : Bool} {i j m : Nat} (hl : Lay st L) (hi : L[i]? = some (dD, .sd (dsF ls lr x1 x2 x3 x4 x5 x6 x7 (.ptr bp)))) (hj : L[j]? = some (ls, .lst xs)) (hm : L[m]? = some (bp, .sd l)) (jm : j ≠ m) (ji : j ≠ i) (hz : xs.length <= 50) (hnd : (l.map (·.1)).Nodup) (hz2 : l.length <= 50) (hn : 3 <= k.n)
 (h : ∀ S x d, Lay S ((d, .sd (sigF xs.length pt sg .none .none)) :: (L.set j (ls, .lst (xs ++ [.obj x c_Signal d]))).set m (bp, .sd (sput pt (.int xs.length) l))) -> Q (.obj x c_Signal d) S) : CALL o k st (.ref a_Design_add_signal) [.obj D c_Design dD, .str pt, .str "reg", .int 3, .bool sg, .int 2, .int 0, .int (-1)] Q X := by
 have : SmOk o := smOk W
 have hsz : sizeLine >= 10000 := by decide
 refine call_f ok_Design_add_signal (by walk_at "m") (by rfl) fun L' => ?_
 have hD := hl.get i hi
 left
 refine call_len_lst (hl.get j hj) (by right) ?_
 left
 refine Signal_ hl (by symm) fun S x d hl => ?_
 left
 refine seta_lay hl 0 rfl (by rw [W.k]; rfl) (by rfl) fun S1 hl => ?_
 have hl : Lay S1 ((d, .sd (sigF xs.length pt sg .none .none)) :: L) := hl
 have hD := hl.get (i + 1) hi
 left
 refine ⟨_, meth_append (hl.get (j + 1) hj), kp_4 (fun _ _ => rfl), ?_⟩
 left
 refine call_append (hl.get (j + 1) hj) (by right) ?_
 have hl := hl.upd (j + 1) hj (.lst (xs ++ [.obj x c_Signal d]))
 generalize S1.set ls (.lst (xs ++ [.obj x c_Signal d])) = S2 at *
 rw [List.set_cons_succ] at hl
 have hD := hl.get (i + 1) (ne_setL hi ji)
 have hd := hl.get 0 rfl
 left
 refine seti_sd ⟨hl.get (m + 1) (ne_setL hm jm), hnd⟩ (by right) ?_
 have hl := hl.upd (m + 1) (ne_setL hm jm) (.sd (sput pt (.int xs.length) l))
 generalize S2.set bp (.sd (sput pt (.int xs.length) l)) = S3 at *
 left
 exact ⟨_, St.le_refl _, h _ _ _ hl⟩
theorem add_routine_ {D dD ls lr : Addr} {x1 x2 x3 x4 x5 x6 x7 x8 : V} {xs : List V} {pt : Str} {fn : Bool} {i j : Nat} (hl : Lay st L) (hi : L[i]? = some (dD, .sd (dsF ls lr x1 x2 x3 x4 x5 x6 x7 x8))) (hj : L[j]? = some (lr, .lst xs)) (hz : xs.length <= 50) (hn : 3 <= k.n)
 (h : ∀ S x d p s, Lay S ((s, .lst []) :: (p, .lst []) :: (d, .sd (rtF xs.length pt fn 1 false p (.ptr s))) :: L.set j (lr, .lst (xs ++ [.obj x c_Routine d]))) -> Q (.obj x c_Routine d) S) : CALL o k st (.ref a_Design_add_routine) [.obj D c_Design dD, .str pt, .bool fn, .bool false, .int (-1)] Q X := by
 have hsz : sizeLine >= 10000 := by decide
 refine call_f ok_Design_add_routine (by walk_at "m") (by rfl) fun L' => ?_
 have hD := hl.get i hi
 left
 refine call_len_lst (hl.get j hj) (by right) ?_
 left
 refine Routine_ hl (by symm) fun S x d p s hl => ?_
 have hD := hl.get (i + 3) hi
 left
 refine ⟨_, meth_append (hl.get (j + 3) hj), kp_4 (fun _ _ => rfl), ?_⟩
 left
 refine call_append (hl.get (j + 3) hj) (by right) ?_
 left
 exact ⟨_, St.le_refl _, h _ _ _ _ _ (hl.upd (j + 3) hj (.lst (xs ++ [.obj x c_Routine d])))⟩
end
section
variable {o : Wo} [WO : WoOk o] [W : W3 o] {k : Kx} {st : St} {Q : V -> St -> Prop} {X : Exc -> St -> Prop} {L : List (Addr × MO)}
theorem Lay.updNew {r a : Addr} {m : MO} (h : Lay st L) (i : Nat) (hi : L[i]? = some (r, m)) (m' : MO) (ha : st a = none) (ma : MO) : Lay ((st.set r m').set a ma) ((a, ma) :: L.set i (r, m')) :=
 (h.upd i hi m').new (by
  have : a ≠ r := by rintro rfl; rw [h.get i hi] at ha; cases ha
  rw [St.set_ne _ _ this]; exact ha) ma
noncomputable def lawC (o : Wo) (k : Kx) (L : Addr) : Cx := ⟨k.deep (callEnvC fd_law L a_law), callEnvC fd_law L a_law⟩
theorem law_a {sp : Addr} {xs : List Int} {L : Addr} {loc : LocF} {QF : Fl -> LocF -> St -> Prop} (hn : 10 <= k.n) (l0 : loc "script" = some (.ptr sp)) (hs : KL o sp xs) (hx : xs.length <= 63)
 (h : ∀ loc' S r D dD T dT I dI kd ba ww wa wb (ys bs : List Int) (w0 w1 : Nat) bp sc lr ls eT eI x1 x2 x3 x4 x6 x7, RowOk ys -> bs.length = 3 -> Codes bs -> 0 <= kd /\ kd < 4 -> 1 <= w0 /\ w0 <= 8 -> 1 <= w1 /\ w1 <= 8 ->
  loc' "row" = some (.ptr r) -> loc' "design" = some (.obj D c_Design dD) -> loc' "scope" = some (.obj T c_Scope dT) -> loc' "inner" = some (.obj I c_Scope dI) ->
  loc' "kind" = some (.int kd) -> loc' "bits" = some (.ptr ba) -> loc' "widths" = some (.ptr ww) ->
  Lay S [(ww, .lst [.ptr wa, .ptr wb]), (wb, .lst [.int w1, .int 3]), (wa, .lst [.int w0]), (ba, .lst (bs.map V.int)), (eI, .sd []), (dI, .sd (scF D dD "b" (.obj T c_Scope dT) "block" "top.b" eI 1)), (eT, .sd [("b", .tup [.str "scope", .obj I c_Scope dI])]), (dT, .sd (scF D dD "top" .none "module" "top" eT 0)), (bp, .sd []), (sc, .lst [.str "top", .str "top.b"]), (lr, .lst []), (ls, .lst []), (dD, .sd (dsF ls lr x1 x2 x3 x4 (.ptr sc) x6 x7 (.ptr bp))), (r, .lst (ys.map V.int))] ->
  EXS o (lawC o k L) loc' S (body_law.drop 7) QF X) : EXS o (lawC o k L) loc st body_law QF X := by
 unfold lawC at *
 refine exs_of _ (lk_cons l0 lk_nil) ?_
 refine exs_4 7 ?_
 left
 refine law_row (by symm) hs hx fun r ys hr hy => ?_
 have hl := (Lay.nil (st := st)).new hr (.lst (ys.map V.int))
 generalize st.set r (.lst (ys.map V.int)) = S at *
 left
 refine Design_ hl (by symm) fun S1 D dD ls lr sc bp x1 x2 x3 x4 x6 x7 hl => ?_
 left
 refine Scope0_ hl (i := 4) (j := 1) (by rfl) (by rfl) (by symm) fun S2 T dT eT hl => ?_
 simp only [List.set_cons_zero, List.set_cons_succ] at hl
 have hT := hl.get 1 rfl
 left
 refine ⟨.ref a_Scope_child, meth_4 hT (by rfl) (fun _ _ => rfl), kp_4 (fun _ _ => rfl), ?_⟩
 left
 refine child_ hl (i := 6) (j := 3) (m := 1) (q := 0) (by rfl) (by rfl) (by rfl) (by rfl) (by decide) (by decide) (by symm) fun S3 I dI eI hl => ?_
 simp only [List.set_cons_zero, List.set_cons_succ] at hl
 clear hT
 left
 refine law_next (by symm) (hl.get 9 rfl) hy fun n1 ys1 n10 n11 hy1 => ?_
 have hl := hl.upd 9 rfl (.lst (ys1.map V.int))
 simp only [List.set_cons_zero, List.set_cons_succ] at hl
 generalize S3.set r (.lst (ys1.map V.int)) = S4 at *
 left
 refine opb_emod (by decide) ?_
 obtain ⟨kd, hkd⟩ : ∃ kd, kd = n1 % 4 := ⟨_, rfl⟩
 rw [<- hkd]
 left
 refine law_bits (wide := 3) (by symm) (hl.get 9 rfl) hy1 (by decide) fun ba bs ys2 hba hy2 hbl hcb => ?_
 have hl := hl.updNew 9 rfl (.lst (ys2.map V.int)) hba (.lst (bs.map V.int))
 simp only [List.set_cons_zero, List.set_cons_succ] at hl
 generalize (S4.set r (.lst (ys2.map V.int))).set ba (.lst (bs.map V.int)) = S5 at *
 left
 refine law_next (by symm) (hl.get 10 rfl) hy2 fun n2 ys3 n20 n21 hy3 => ?_
 have hl := hl.upd 10 rfl (.lst (ys3.map V.int))
 simp only [List.set_cons_zero, List.set_cons_succ] at hl
 generalize S5.set r (.lst (ys3.map V.int)) = S6 at *
 left
 refine opb_emod (by decide) ?_
 obtain ⟨w0, hw0⟩ : ∃ w0 : Nat, 1 + n2 % 8 = w0 := ⟨(1 + n2 % 8).toNat, by right⟩
 left
 intro wa hwa
 have hl := hl.new hwa (.lst [.int (1 + n2 % 8)])
 generalize S6.set wa (.lst [.int (1 + n2 % 8)]) = S7 at *
 rw [hw0] at hl
 left
 refine law_next (by symm) (hl.get 11 rfl) hy3 fun n3 ys4 n30 n31 hy4 => ?_
 have hl := hl.upd 11 rfl (.lst (ys4.map V.int))
 simp only [List.set_cons_zero, List.set_cons_succ] at hl
 generalize S7.set r (.lst (ys4.map V.int)) = S8 at *
 left
 refine opb_emod (by decide) ?_
 obtain ⟨w1, hw1⟩ : ∃ w1 : Nat, 1 + n3 % 8 = w1 := ⟨(1 + n3 % 8).toNat, by right⟩
 left
 intro wb hwb
 have hl := hl.new hwb (.lst [.int (1 + n3 % 8), .int 3])
 generalize S8.set wb (.lst [.int (1 + n3 % 8), .int 3]) = S9 at *
 rw [hw1] at hl
 left
 intro ww hww
 have hl := hl.new hww (.lst [.ptr wa, .ptr wb])
 generalize S9.set ww (.lst [.ptr wa, .ptr wb]) = S10 at *
 left
 exact h _ S10 r D dD T dT I dI kd ba ww wa wb ys4 bs w0 w1 bp sc lr ls eT eI x1 x2 x3 x4 x6 x7 hy4 hbl hcb (by right) (by right) (by right) (by rfl) (by rfl) (by rfl) (by rfl) (by rfl) (by rfl) (by rfl) hl
end
section
variable {o : Wo} [WO : WoOk o] [W : W3 o] {k : Kx} {st : St} {Q : V -> St -> Prop} {X : Exc -> St -> Prop}
noncomputable def entA (I dI : Addr) : List (Str × V) := [("b", .tup [.str "scope", .obj I c_Scope dI]), ("a", .tup [.str "sig", .int 0])]
theorem law_b1 {L : Addr} {loc : LocF} {QF : Fl -> LocF -> St -> Prop} {S : St} {r D dD T dT I dI : Addr} {kd : Int} {ba ww wa wb : Addr} {ys bs : List Int} {w0 w1 : Nat} {bp sc lr ls eT eI : Addr} {x1 x2 x3 x4 x6 x7 : V} (hn : 10 <= k.n)
 (l1 : loc "row" = some (.ptr r)) (l2 : loc "design" = some (.obj D c_Design dD)) (l3 : loc "scope" = some (.obj T c_Scope dT)) (l4 : loc "inner" = some (.obj I c_Scope dI))
 (l5 : loc "kind" = some (.int kd)) (l6 : loc "bits" = some (.ptr ba)) (l7 : loc "widths" = some (.ptr ww))
 (hl : Lay S [(ww, .lst [.ptr wa, .ptr wb]), (wb, .lst [.int w1, .int 3]), (wa, .lst [.int w0]), (ba, .lst (bs.map V.int)), (eI, .sd []), (dI, .sd (scF D dD "b" (.obj T c_Scope dT) "block" "top.b" eI 1)), (eT, .sd [("b", .tup [.str "scope", .obj I c_Scope dI])]), (dT, .sd (scF D dD "top" .none "module" "top" eT 0)), (bp, .sd []), (sc, .lst [.str "top", .str "top.b"]), (lr, .lst []), (ls, .lst []), (dD, .sd (dsF ls lr x1 x2 x3 x4 (.ptr sc) x6 x7 (.ptr bp))), (r, .lst (ys.map V.int))])
 (h : ∀ loc' S' s0 d0 s1 d1, loc' "row" = some (.ptr r) -> loc' "design" = some (.obj D c_Design dD) -> loc' "scope" = some (.obj T c_Scope dT) ->
  loc' "kind" = some (.int kd) -> loc' "bits" = some (.ptr ba) -> loc' "widths" = some (.ptr ww) ->
  Lay S' [(d1, .sd (sigF 1 "top.b.a" false .none .none)), (d0, .sd (sigF 0 "top.a" true .none .none)), (ww, .lst [.ptr wa, .ptr wb]), (wb, .lst [.int w1, .int 3]), (wa, .lst [.int w0]), (ba, .lst (bs.map V.int)), (eI, .sd entI), (dI, .sd (scF D dD "b" (.obj T c_Scope dT) "block" "top.b" eI 1)), (eT, .sd (entA I dI)), (dT, .sd (scF D dD "top" .none "module" "top" eT 0)), (bp, .sd [("top.a", .int 0), ("top.b.a", .int 1)]), (sc, .lst [.str "top", .str "top.b"]), (lr, .lst []), (ls, .lst [.obj s0 c_Signal d0, .obj s1 c_Signal d1]), (dD, .sd (dsF ls lr x1 x2 x3 x4 (.ptr sc) x6 x7 (.ptr bp))), (r, .lst (ys.map V.int))] ->
  EXS o (lawC o k L) loc' S' (body_law.drop 8) QF X) : EXS o (lawC o k L) loc S (body_law.drop 7) QF X := by
 unfold lawC at *
 refine exs_of _ (lk_cons l1 (lk_cons l2 (lk_cons l3 (lk_cons l4 (lk_cons l5 (lk_cons l6 (lk_cons l7 lk_nil))))))) ?_
 refine exs_4 1 ?_
 left
 refine ex_for (fun _ _ => rfl) ?_
 left
 intro tl htl
 have hl := hl.new htl (.lst [.tup [.str "a", .obj T c_Scope dT, .bool true], .tup [.str "b.a", .obj I c_Scope dI, .bool false]])
 generalize S.set tl (.lst [.tup [.str "a", .obj T c_Scope dT, .bool true], .tup [.str "b.a", .obj I c_Scope dI, .bool false]]) = S1 at *
 refine forv_lst_un (xs := [.tup [.str "a", .obj T c_Scope dT, .bool true], .tup [.str "b.a", .obj I c_Scope dI, .bool false]]) ⟨hl.get 0 rfl, ?_⟩
 unfold turnP
 have hD := hl.get 13 rfl
 left
 refine ⟨.ref a_Design_add_signal, meth_4 hD (by rfl) (fun _ _ => rfl), kp_4 (fun _ _ => rfl), ?_⟩
 left
 refine opb_add_str (by decide) ?_
 left
 refine add_signal_ (pt := "top.a") hl (i := 13) (j := 12) (m := 9) (by rfl) (by rfl) (by rfl) (by decide) (by decide) (by simp) (by simp) (by simp) (by symm) fun S2 s0 d0 hl => ?_
 simp only [List.set_cons_zero, List.set_cons_succ] at hl
 have hT := hl.get 9 rfl
 have hd0 := hl.get 0 rfl
 clear hD
 left
 refine ⟨.ref a_Scope_declare, meth_4 hT (by rfl) (fun _ _ => rfl), kp_4 (fun _ _ => rfl), ?_⟩
 left
 refine declare_ hl (i := 9) (j := 8) (by rfl) (by rfl) (by rfl) (by simp) (by simp) (by symm) fun S3 hl => ?_
 simp only [List.set_cons_zero, List.set_cons_succ] at hl
 clear hT hd0
 left
 refine ⟨hl.get 1 rfl, ?_⟩
 unfold turnP
 have hD := hl.get 14 rfl
 left
 refine ⟨.ref a_Design_add_signal, meth_4 hD (by rfl) (fun _ _ => rfl), kp_4 (fun _ _ => rfl), ?_⟩
 left
 refine opb_add_str (by decide) ?_
 left
 refine add_signal_ (pt := "top.b.a") hl (i := 14) (j := 13) (m := 10) (by rfl) (by rfl) (by rfl) (by decide) (by decide) (by simp) (by decide +kernel) (by simp [sput]) (by symm) fun S4 s1 d1 hl => ?_
 simp only [List.set_cons_zero, List.set_cons_succ] at hl
 have hI := hl.get 8 rfl
 have hd1 := hl.get 0 rfl
 clear hD
 left
 refine ⟨.ref a_Scope_declare, meth_4 hI (by rfl) (fun _ _ => rfl), kp_4 (fun _ _ => rfl), ?_⟩
 left
 refine declare_ hl (i := 8) (j := 7) (by rfl) (by rfl) (by rfl) (by simp) (by simp) (by symm) fun S5 hl => ?_
 simp only [List.set_cons_zero, List.set_cons_succ] at hl
 clear hI hd1
 left
 refine ⟨hl.get 2 rfl, ?_⟩
 exact h _ S5 s0 d0 s1 d1 (by rfl) (by rfl) (by rfl) (by rfl) (by rfl) (by rfl) (hl.sub (.cons_cons _ (.cons_cons _ (.cons _ (List.Sublist.refl _)))))
end
section
variable {o : Wo} [WO : WoOk o] [W : W3 o] {k : Kx} {st : St} {Q : V -> St -> Prop} {X : Exc -> St -> Prop}
noncomputable def entB (I dI : Addr) : List (Str × V) := [("b", .tup [.str "scope", .obj I c_Scope dI]), ("a", .tup [.str "sig", .int 0]), ("m", .tup [.str "sig", .int 2]), ("e", .tup [.str "event", .int 2]), ("n", .tup [.str "genvar", .int (-3)])]
theorem law_b2 {L : Addr} {loc : LocF} {QF : Fl -> LocF -> St -> Prop} {S : St} {r D dD T dT I dI : Addr} {kd : Int} {ba ww wa wb : Addr} {ys bs : List Int} {w0 w1 : Nat} {bp sc lr ls eT eI : Addr} {x1 x2 x3 x4 x6 x7 : V} {s0 d0 s1 d1 : Addr} (hn : 10 <= k.n)
 (l1 : loc "row" = some (.ptr r)) (l2 : loc "design" = some (.obj D c_Design dD)) (l3 : loc "scope" = some (.obj T c_Scope dT))
 (l5 : loc "kind" = some (.int kd)) (l6 : loc "bits" = some (.ptr ba)) (l7 : loc "widths" = some (.ptr ww))
 (hl : Lay S [(d1, .sd (sigF 1 "top.b.a" false .none .none)), (d0, .sd (sigF 0 "top.a" true .none .none)), (ww, .lst [.ptr wa, .ptr wb]), (wb, .lst [.int w1, .int 3]), (wa, .lst [.int w0]), (ba, .lst (bs.map V.int)), (eI, .sd entI), (dI, .sd (scF D dD "b" (.obj T c_Scope dT) "block" "top.b" eI 1)), (eT, .sd (entA I dI)), (dT, .sd (scF D dD "top" .none "module" "top" eT 0)), (bp, .sd [("top.a", .int 0), ("top.b.a", .int 1)]), (sc, .lst [.str "top", .str "top.b"]), (lr, .lst []), (ls, .lst [.obj s0 c_Signal d0, .obj s1 c_Signal d1]), (dD, .sd (dsF ls lr x1 x2 x3 x4 (.ptr sc) x6 x7 (.ptr bp))), (r, .lst (ys.map V.int))])
 (h : ∀ loc' S' s2 d2, loc' "row" = some (.ptr r) -> loc' "design" = some (.obj D c_Design dD) -> loc' "scope" = some (.obj T c_Scope dT) ->
  loc' "kind" = some (.int kd) -> loc' "bits" = some (.ptr ba) -> loc' "widths" = some (.ptr ww) ->
  Lay S' [(d2, .sd (sigF 2 "top.m" false (.int 0) (.int 3))), (d1, .sd (sigF 1 "top.b.a" false .none .none)), (d0, .sd (sigF 0 "top.a" true .none .none)), (ww, .lst [.ptr wa, .ptr wb]), (wb, .lst [.int w1, .int 3]), (wa, .lst [.int w0]), (ba, .lst (bs.map V.int)), (eI, .sd entI), (dI, .sd (scF D dD "b" (.obj T c_Scope dT) "block" "top.b" eI 1)), (eT, .sd (entB I dI)), (dT, .sd (scF D dD "top" .none "module" "top" eT 0)), (lr, .lst []), (ls, .lst [.obj s0 c_Signal d0, .obj s1 c_Signal d1, .obj s2 c_Signal d2]), (dD, .sd (dsF ls lr x1 x2 x3 x4 (.ptr sc) x6 x7 (.ptr bp))), (r, .lst (ys.map V.int))] ->
  EXS o (lawC o k L) loc' S' (body_law.drop 14) QF X) : EXS o (lawC o k L) loc S (body_law.drop 8) QF X := by
 unfold lawC at *
 refine exs_of _ (lk_cons l1 (lk_cons l2 (lk_cons l3 (lk_cons l5 (lk_cons l6 (lk_cons l7 lk_nil)))))) ?_
 refine exs_4 6 ?_
 have hD := hl.get 14 rfl
 left
 refine ⟨.ref a_Design_add_signal, meth_4 hD (by rfl) (fun _ _ => rfl), kp_4 (fun _ _ => rfl), ?_⟩
 left
 refine add_signal_ (pt := "top.m") hl (i := 14) (j := 13) (m := 10) (by rfl) (by rfl) (by rfl) (by decide) (by decide) (by simp) (by decide +kernel) (by simp) (by symm) fun S1 s2 d2 hl => ?_
 simp only [List.set_cons_zero, List.set_cons_succ] at hl
 clear hD
 left
 refine seta_lay hl 0 rfl (by rw [W.k]; rfl) (by rfl) fun S2 hl => ?_
 left
 refine seta_lay hl 0 rfl (by rw [W.k]; rfl) (by rfl) fun S3 hl => ?_
 have hd := hl.get 0 rfl
 have hT := hl.get 10 rfl
 left
 refine ⟨.ref a_Scope_declare, meth_4 hT (by rfl) (fun _ _ => rfl), kp_4 (fun _ _ => rfl), ?_⟩
 left
 refine declare_ hl (i := 10) (j := 9) (by rfl) (by rfl) (by rfl) (by show (["b", "a"] : List Str).Nodup; decide +kernel) (by show 2 <= 60; decide) (by symm) fun S4 hl => ?_
 simp only [List.set_cons_zero, List.set_cons_succ] at hl
 have hd := hl.get 0 rfl
 have hT := hl.get 10 rfl
 left
 refine ⟨.ref a_Scope_declare, meth_4 hT (by rfl) (fun _ _ => rfl), kp_4 (fun _ _ => rfl), ?_⟩
 left
 refine declare_ hl (i := 10) (j := 9) (by rfl) (by rfl) (by rfl) (by show (["b", "a", "m"] : List Str).Nodup; decide +kernel) (by show 3 <= 60; decide) (by symm) fun S5 hl => ?_
 simp only [List.set_cons_zero, List.set_cons_succ] at hl
 have hT := hl.get 10 rfl
 left
 refine ⟨.ref a_Scope_declare, meth_4 hT (by rfl) (fun _ _ => rfl), kp_4 (fun _ _ => rfl), ?_⟩
 left
 refine declare_ hl (i := 10) (j := 9) (by rfl) (by rfl) (by rfl) (by show (["b", "a", "m", "e"] : List Str).Nodup; decide +kernel) (by show 4 <= 60; decide) (by symm) fun S6 hl => ?_
 simp only [List.set_cons_zero, List.set_cons_succ] at hl
 left
 exact h _ S6 s2 d2 (by rfl) (by rfl) (by rfl) (by rfl) (by rfl) (by rfl) (hl.sub (.cons_cons _ (.cons_cons _ (.cons_cons _ (.cons_cons _ (.cons_cons _ (.cons_cons _ (.cons_cons _ (.cons_cons _ (.cons_cons _ (.cons_cons _ (.cons_cons _ (.cons _ (.cons _ (List.Sublist.refl _)))))))))))))))
end
section
variable {o : Wo} [WO : WoOk o] [W : W3 o] {k : Kx} {st : St} {Q : V -> St -> Prop} {X : Exc -> St -> Prop}
noncomputable def entF (I dI : Addr) : List (Str × V) := [("b", .tup [.str "scope", .obj I c_Scope dI]), ("a", .tup [.str "sig", .int 0]), ("m", .tup [.str "sig", .int 2]), ("e", .tup [.str "event", .int 2]), ("n", .tup [.str "genvar", .int (-3)]), ("f", .tup [.str "routine", .int 0])]
noncomputable def entG (I dI : Addr) : List (Str × V) := [("b", .tup [.str "scope", .obj I c_Scope dI]), ("a", .tup [.str "sig", .int 0]), ("m", .tup [.str "sig", .int 2]), ("e", .tup [.str "event", .int 2]), ("n", .tup [.str "genvar", .int (-3)]), ("f", .tup [.str "routine", .int 0]), ("g", .tup [.str "routine", .int 1])]
theorem law_b3 {L : Addr} {loc : LocF} {QF : Fl -> LocF -> St -> Prop} {S : St} {r D dD T dT I dI : Addr} {kd : Int} {ba ww wa wb : Addr} {w0 w1 : Nat} {m0 m1 m2 mb mI md ml mr : MO} {sc lr ls eT eI : Addr} {x1 x2 x3 x4 x6 x7 x8 : V} {d0 d1 d2 : Addr} (hn : 10 <= k.n)
 (l1 : loc "row" = some (.ptr r)) (l2 : loc "design" = some (.obj D c_Design dD)) (l3 : loc "scope" = some (.obj T c_Scope dT))
 (l5 : loc "kind" = some (.int kd)) (l6 : loc "bits" = some (.ptr ba)) (l7 : loc "widths" = some (.ptr ww))
 (hl : Lay S [(d2, m2), (d1, m1), (d0, m0), (ww, .lst [.ptr wa, .ptr wb]), (wb, .lst [.int w1, .int 3]), (wa, .lst [.int w0]), (ba, mb), (eI, mI), (dI, md), (eT, .sd (entB I dI)), (dT, .sd (scF D dD "top" .none "module" "top" eT 0)), (lr, .lst []), (ls, ml), (dD, .sd (dsF ls lr x1 x2 x3 x4 (.ptr sc) x6 x7 x8)), (r, mr)])
 (h : ∀ loc' S' q0 c0 q1 c1 p0 p1 y0 y1, loc' "row" = some (.ptr r) -> loc' "design" = some (.obj D c_Design dD) -> loc' "scope" = some (.obj T c_Scope dT) ->
  loc' "kind" = some (.int kd) -> loc' "bits" = some (.ptr ba) -> loc' "widths" = some (.ptr ww) ->
  Lay S' [(p1, .lst [portV w1, portV 3]), (c1, .sd (rtF 1 "top.g" true 7 true p1 y1)), (p0, .lst [portV w0]), (c0, .sd (rtF 0 "top.f" true 5 false p0 y0)), (d2, m2), (d1, m1), (d0, m0), (ww, .lst [.ptr wa, .ptr wb]), (wb, .lst [.int w1, .int 3]), (wa, .lst [.int w0]), (ba, mb), (eI, mI), (dI, md), (eT, .sd (entG I dI)), (dT, .sd (scF D dD "top" .none "module" "top" eT 0)), (lr, .lst [.obj q0 c_Routine c0, .obj q1 c_Routine c1]), (ls, ml), (dD, .sd (dsF ls lr x1 x2 x3 x4 (.ptr sc) x6 x7 x8)), (r, mr)] ->
  EXS o (lawC o k L) loc' S' (body_law.drop 15) QF X) : EXS o (lawC o k L) loc S (body_law.drop 14) QF X := by
 unfold lawC at *
 have hz : sizeLine >= 10000 := by decide
 refine exs_of _ (lk_cons l1 (lk_cons l2 (lk_cons l3 (lk_cons l5 (lk_cons l6 (lk_cons l7 lk_nil)))))) ?_
 refine exs_4 1 ?_
 left
 refine ex_for (fun _ _ => rfl) ?_
 left
 refine call_rng1 ?_
 refine forv_rng_un (by decide) ?_
 rw [show rngV 0 2 = [.int 0, .int 1] by rfl]
 refine ⟨trivial, ?_⟩
 unfold turnP
 have hD := hl.get 13 rfl
 left
 refine ⟨.ref a_Design_add_routine, meth_4 hD (by rfl) (fun _ _ => rfl), kp_4 (fun _ _ => rfl), ?_⟩
 left
 refine sub_str (n := 102) (by decide) (by rfl) ?_
 unfold chV
 left
 refine opb_add_str (by decide) ?_
 left
 refine add_routine_ (pt := "top.f") hl (i := 13) (j := 11) (by rfl) (by rfl) (by simp) (by symm) fun S1 q0 c0 p s hl => ?_
 simp only [List.set_cons_zero, List.set_cons_succ] at hl
 clear hD
 left
 intro q hq
 have hl := hl.new hq (.lst [.int 5, .int 7])
 generalize S1.set q (.lst [.int 5, .int 7]) = S2 at *
 left
 refine sub_lst (hl.get 0 rfl) (by decide) (by decide) (by rfl) ?_
 left
 refine seta_lay hl 3 rfl (by rw [W.k]; rfl) (by rfl) fun S3 hl => ?_
 left
 refine seta_lay hl 3 rfl (by rw [W.k]; rfl) (by rfl) fun S4 hl => ?_
 left
 refine ex_assign (fun _ => rfl) (fun _ => rfl) (fun _ => rfl) ?_
 refine ev_comp _ (fun _ _ => rfl) (by rfl) (by rfl) ?_
 left
 refine sub_lst (hl.get 7 rfl) (by decide) (by decide) (by rfl) ?_
 refine compv_map (zs := [w0]) (fun (w : Nat) => V.int w) (fun (w : Nat) => portV w) (L := [portV w0]) (by rfl) (by rfl) (by rfl) (by show _ <= sizeLine; simp; right) (hl.get 9 rfl) (fun b ys D C hb hD => ?_) (fun p0 hD => ?_)
 . left
   exact ⟨rfl, rfl⟩
 have hl := hl.new hD (.lst [portV w0])
 generalize S4.set p0 (.lst [portV w0]) = S5 at *
 left
 refine seta_lay hl 4 rfl (by rw [W.k]; rfl) (by rfl) fun S6 hl => ?_
 have hl := hl.sub (L2 := [(p0, .lst [portV w0]), (c0, .sd (rtF 0 "top.f" true 5 false p0 (.ptr s))), _, _, _, _, _, _, _, _, _, _, _, _, _, _, _]) (.cons_cons _ (.cons _ (.cons _ (.cons _ (.cons_cons _ (List.Sublist.refl _))))))
 have hT := hl.get 12 rfl
 have hc0 := hl.get 1 rfl
 left
 refine ⟨.ref a_Scope_declare, meth_4 hT (by rfl) (fun _ _ => rfl), kp_4 (fun _ _ => rfl), ?_⟩
 left
 refine sub_str (n := 102) (by decide) (by rfl) ?_
 unfold chV
 left
 refine declare_ hl (i := 12) (j := 11) (by rfl) (by rfl) (by rfl) (by show (["b", "a", "m", "e", "n"] : List Str).Nodup; decide +kernel) (by show 5 <= 60; decide) (by symm) fun S7 hl => ?_
 have hl : Lay S7 [(p0, .lst [portV w0]), (c0, .sd (rtF 0 "top.f" true 5 false p0 (.ptr s))), (d2, m2), (d1, m1), (d0, m0), (ww, .lst [.ptr wa, .ptr wb]), (wb, .lst [.int w1, .int 3]), (wa, .lst [.int w0]), (ba, mb), (eI, mI), (dI, md), (eT, .sd (entF I dI)), (dT, .sd (scF D dD "top" .none "module" "top" eT 0)), (lr, .lst [.obj q0 c_Routine c0]), (ls, ml), (dD, .sd (dsF ls lr x1 x2 x3 x4 (.ptr sc) x6 x7 x8)), (r, mr)] := hl
 clear hT hc0
 left
 refine ⟨trivial, ?_⟩
 unfold turnP
 have hD := hl.get 15 rfl
 left
 refine ⟨.ref a_Design_add_routine, meth_4 hD (by rfl) (fun _ _ => rfl), kp_4 (fun _ _ => rfl), ?_⟩
 left
 refine sub_str (n := 103) (by decide) (by rfl) ?_
 unfold chV
 left
 refine opb_add_str (by decide) ?_
 left
 refine add_routine_ (pt := "top.g") hl (i := 15) (j := 13) (by rfl) (by rfl) (by simp) (by symm) fun S8 q1 c1 p' s' hl => ?_
 simp only [List.set_cons_zero, List.set_cons_succ] at hl
 clear hD
 left
 intro q' hq'
 have hl := hl.new hq' (.lst [.int 5, .int 7])
 generalize S8.set q' (.lst [.int 5, .int 7]) = S9 at *
 left
 refine sub_lst (hl.get 0 rfl) (by decide) (by decide) (by rfl) ?_
 left
 refine seta_lay hl 3 rfl (by rw [W.k]; rfl) (by rfl) fun S10 hl => ?_
 left
 refine seta_lay hl 3 rfl (by rw [W.k]; rfl) (by rfl) fun S11 hl => ?_
 left
 refine ex_assign (fun _ => rfl) (fun _ => rfl) (fun _ => rfl) ?_
 refine ev_comp _ (fun _ _ => rfl) (by rfl) (by rfl) ?_
 left
 refine sub_lst (hl.get 9 rfl) (by decide) (by decide) (by rfl) ?_
 refine compv_map (zs := [w1, 3]) (fun (w : Nat) => V.int w) (fun (w : Nat) => portV w) (L := [portV w1, portV 3]) (by rfl) (by rfl) (by rfl) (by show _ <= sizeLine; simp; right) (hl.get 10 rfl) (fun b ys D C hb hD => ?_) (fun p1 hD => ?_)
 . left
   exact ⟨rfl, rfl⟩
 have hl := hl.new hD (.lst [portV w1, portV 3])
 generalize S11.set p1 (.lst [portV w1, portV 3]) = S12 at *
 left
 refine seta_lay hl 4 rfl (by rw [W.k]; rfl) (by rfl) fun S13 hl => ?_
 have hl := hl.sub (L2 := [(p1, .lst [portV w1, portV 3]), (c1, .sd (rtF 1 "top.g" true 7 true p1 (.ptr s'))), _, _, _, _, _, _, _, _, _, _, _, _, _, _, _, _, _]) (.cons_cons _ (.cons _ (.cons _ (.cons _ (.cons_cons _ (List.Sublist.refl _))))))
 have hT := hl.get 14 rfl
 have hc1 := hl.get 1 rfl
 left
 refine ⟨.ref a_Scope_declare, meth_4 hT (by rfl) (fun _ _ => rfl), kp_4 (fun _ _ => rfl), ?_⟩
 left
 refine sub_str (n := 103) (by decide) (by rfl) ?_
 unfold chV
 left
 refine declare_ hl (i := 14) (j := 13) (by rfl) (by rfl) (by rfl) (by show (["b", "a", "m", "e", "n", "f"] : List Str).Nodup; decide +kernel) (by show 6 <= 60; decide) (by symm) fun S14 hl => ?_
 left
 refine ⟨trivial, ?_⟩
 exact h _ S14 q0 c0 q1 c1 p0 p1 _ _ (by rfl) (by rfl) (by rfl) (by rfl) (by rfl) (by rfl) hl
end
section
variable {o : Wo} [WO : WoOk o] [W : W3 o] {k : Kx} {st : St} {Q : V -> St -> Prop} {X : Exc -> St -> Prop}
theorem Lay.or {S S' : St} {M : List (Addr × MO)} {v : Addr} {m : MO} (h : Lay S M) (n : v ∉ M.map (·.1)) (e : S' = S \/ S' = S.set v m) : Lay S' M := by
 rcases e with rfl | rfl
 . exact h
 . exact h.out n
theorem law_b4 {L : Addr} {loc : LocF} {QF : Fl -> LocF -> St -> Prop} {S : St} {r D dD T dT I dI : Addr} {kd : Int} {ba ww wa wb : Addr} {ys bs : List Int} {w0 w1 : Nat} {sc lr ls eT eI : Addr} {x1 x2 x3 x4 x6 x7 x8 : V} {s0 d0 s1 d1 s2 d2 q0 c0 q1 c1 p0 p1 : Addr} {y0 y1 : V} (hn : 10 <= k.n)
 (hbl : bs.length = 3) (hbc : Codes bs)
 (l1 : loc "row" = some (.ptr r)) (l2 : loc "design" = some (.obj D c_Design dD)) (l3 : loc "scope" = some (.obj T c_Scope dT))
 (l5 : loc "kind" = some (.int kd)) (l6 : loc "bits" = some (.ptr ba)) (l7 : loc "widths" = some (.ptr ww))
 (hl : Lay S [(p1, .lst [portV w1, portV 3]), (c1, .sd (rtF 1 "top.g" true 7 true p1 y1)), (p0, .lst [portV w0]), (c0, .sd (rtF 0 "top.f" true 5 false p0 y0)), (d2, .sd (sigF 2 "top.m" false (.int 0) (.int 3))), (d1, .sd (sigF 1 "top.b.a" false .none .none)), (d0, .sd (sigF 0 "top.a" true .none .none)), (ww, .lst [.ptr wa, .ptr wb]), (wb, .lst [.int w1, .int 3]), (wa, .lst [.int w0]), (ba, .lst (bs.map V.int)), (eI, .sd entI), (dI, .sd (scF D dD "b" (.obj T c_Scope dT) "block" "top.b" eI 1)), (eT, .sd (entG I dI)), (dT, .sd (scF D dD "top" .none "module" "top" eT 0)), (lr, .lst [.obj q0 c_Routine c0, .obj q1 c_Routine c1]), (ls, .lst [.obj s0 c_Signal d0, .obj s1 c_Signal d1, .obj s2 c_Signal d2]), (dD, .sd (dsF ls lr x1 x2 x3 x4 (.ptr sc) x6 x7 x8)), (r, .lst (ys.map V.int))])
 (h : ∀ loc' S' (A : A4), loc' "row" = some (.ptr r) -> loc' "scope" = some A.top ->
  loc' "kind" = some (.int kd) -> loc' "bits" = some (.ptr ba) -> loc' "widths" = some (.ptr ww) -> loc' "store" = some (.obj A.so c_Store A.ds) ->
  Wd4 A bs (notB bs) w0 w1 S' -> Lay S' [(ww, .lst [.ptr wa, .ptr wb]), (wb, .lst [.int w1, .int 3]), (wa, .lst [.int w0]), (ba, .lst (bs.map V.int)), (r, .lst (ys.map V.int))] ->
  EXS o (lawC o k L) loc' S' (body_law.drop 19) QF X) : EXS o (lawC o k L) loc S (body_law.drop 15) QF X := by
 unfold lawC at *
 have hz : sizeLine >= 10000 := by decide
 refine exs_of _ (lk_cons l1 (lk_cons l2 (lk_cons l3 (lk_cons l5 (lk_cons l6 (lk_cons l7 lk_nil)))))) ?_
 refine exs_4 4 ?_
 have hD := hl.get 17 rfl
 have hT := hl.get 14 rfl
 left
 refine ⟨.ref a_Scope_declare, meth_4 hT (by rfl) (fun _ _ => rfl), kp_4 (fun _ _ => rfl), ?_⟩
 left
 refine ev_attr (fun _ => by rfl) ?_
 left
 refine ⟨.ref a_Design_add_routine, meth_4 hD (by rfl) (fun _ _ => rfl), kp_4 (fun _ _ => rfl), ?_⟩
 left
 refine add_routine_ (pt := "top.t") hl (i := 17) (j := 15) (by rfl) (by rfl) (by simp) (by symm) fun S1 q2 c2 p2 s' hl => ?_
 simp only [List.set_cons_zero, List.set_cons_succ] at hl
 have hc := hl.get 2 rfl
 clear hD hT
 left
 refine declare_ hl (i := 17) (j := 16) (by rfl) (by rfl) (by rfl) (by show (["b", "a", "m", "e", "n", "f", "g"] : List Str).Nodup; decide +kernel) (by show 7 <= 60; decide) (by symm) fun S2 hl => ?_
 simp only [List.set_cons_zero, List.set_cons_succ] at hl
 have hD := hl.get 20 rfl
 left
 refine Store2_ hl (by symm) fun S3 so ds vl m hl => ?_
 have hnd : ND S3 vl [] := ⟨.inr ⟨rfl, hl.get 1 rfl⟩, by simp⟩
 have a3 : vecV [3, 3, 3] = .tup [.int 3, .int 7, .int 7] := by rfl
 obtain ⟨A, hA1, ⟨rfl, rfl⟩, rfl, w⟩ : ∃ A : A4, A.top = .obj T c_Scope dT /\ (A.so = so /\ A.ds = ds) /\ A.vl = vl /\ Wd4 A [3, 3, 3] [3, 3, 3] w0 w1 S3 := ⟨⟨T, dT, eT, I, dI, eI, D, dD, ls, lr, s0, d0, s1, d1, s2, d2, q0, c0, q1, c1, q2, c2, p0, p1, p2, so, ds, vl⟩, rfl, ⟨rfl, rfl⟩, rfl, {
  hT := hl.get 20 rfl
  hE := ⟨hl.get 19 rfl, by show (["b", "a", "m", "e", "n", "f", "g", "t"] : List Str).Nodup; decide +kernel⟩
  hI := hl.get 18 rfl
  hJ := ⟨hl.get 17 rfl, by simp [entI]⟩
  hD := ⟨_, _, _, _, _, _, _, _, hl.get 23 rfl⟩
  hl := hl.get 22 rfl
  h0 := hl.get 12 rfl
  h1 := hl.get 11 rfl
  h2 := hl.get 10 rfl
  hr := hl.get 21 rfl
  k0 := ⟨_, hl.get 9 rfl⟩
  k1 := ⟨_, hl.get 7 rfl⟩
  k2 := ⟨_, hl.get 5 rfl⟩
  g0 := hl.get 8 rfl
  g1 := hl.get 6 rfl
  hs := ⟨_, hl.get 2 rfl⟩
  t0 := ⟨[], hnd, .inr ⟨rfl, a3⟩⟩
  t1 := ⟨[], hnd, .inr ⟨rfl, a3⟩⟩ }⟩
 have hl : Lay S3 [(A.vl, .sd []), (ww, .lst [.ptr wa, .ptr wb]), (wb, .lst [.int w1, .int 3]), (wa, .lst [.int w0]), (ba, .lst (bs.map V.int)), (r, .lst (ys.map V.int))] :=
  hl.sub (.cons _ (.cons_cons _ (.cons _ (.cons _ (.cons _ (.cons _ (.cons _ (.cons _ (.cons _ (.cons _ (.cons _ (.cons _ (.cons _ (.cons_cons _ (.cons_cons _ (.cons_cons _ (.cons_cons _ (.cons _ (.cons _ (.cons _ (.cons _ (.cons _ (.cons _ (.cons _ (.cons_cons _ .slnil)))))))))))))))))))))))))
 have hvl := hl.hd
 have hl := hl.tl
 obtain ⟨xm, hs⟩ := w.hs
 clear hD hc
 left
 refine ⟨.ref a_Store_set_bits, meth_4 hs (by rfl) (fun _ _ => rfl), kp_4 (fun _ _ => rfl), ?_⟩
 left
 refine law_made (by symm) (hl.get 3 rfl) (by right) hbc ?_
 left
 refine set_bits_ (i := 0) w (by decide) hnd (by rfl) (by simp) hbc hbl (by symm) fun S4 l' b hnd' ho ht hS hz4 => ?_
 have w4 : Wd4 A bs [3, 3, 3] w0 w1 S4 := by
  rcases hS with rfl | rfl
  . exact { w with t0 := ⟨l', hnd', ht⟩ }
  . exact w.told ⟨_, hnd⟩ ⟨l', hnd', ht⟩ ⟨l', hnd', .inr ⟨ho 1 (by decide), a3⟩⟩
 have hl4 := hl.or hvl hS
 obtain ⟨xm, hs⟩ := w4.hs
 clear w hl
 left
 refine ⟨.ref a_Store_set_bits, meth_4 hs (by rfl) (fun _ _ => rfl), kp_4 (fun _ _ => rfl), ?_⟩
 left
 refine ev_comp _ (fun _ _ => rfl) (by rfl) (by rfl) ?_
 left
 refine compv_map (zs := bs) V.int (fun b => V.int (3 - b)) (L := (notB bs).map V.int) (by simp [notB]) (by rfl) (by rfl) (by right) (hl4.get 3 rfl) (fun b ys D C hb hD => ?_) (fun pb hD => ?_)
 . left
   exact ⟨rfl, rfl⟩
 left
 have hpb := St.set_same S4 pb (.lst ((notB bs).map V.int))
 have w5 := w4.keep (m := .lst ((notB bs).map V.int)) hD
 have hl5 := hl4.out (m := .lst ((notB bs).map V.int)) (hl4.not hD)
 have npb : A.vl ≠ pb := by
  rintro rfl
  rcases hnd'.1 with q | ⟨-, q⟩ <;> rw [hD] at q <;> cases q
 have hnd5 : ND (S4.set pb (.lst ((notB bs).map V.int))) A.vl l' := ⟨hnd'.1.imp (fun q => St.keep q hD) fun ⟨e, q⟩ => ⟨e, St.keep q hD⟩, hnd'.2⟩
 generalize S4.set pb (.lst ((notB bs).map V.int)) = S5 at *
 refine law_made (by symm) hpb (by rw [notB_len]; right) (notB_codes hbc) ?_
 left
 refine set_bits_ (i := 1) w5 (by decide) hnd5 (ho 1 (by decide)) (Nat.le_trans hz4 (by decide)) (notB_codes hbc) (by rw [notB_len]; exact hbl) (by symm) fun S6 l6 b6 hnd6 ho6 ht6 hS6 hl6' => ?_
 have w6 : Wd4 A bs (notB bs) w0 w1 S6 := by
  rcases hS6 with rfl | rfl
  . exact { w5 with t1 := ⟨l6, hnd6, ht6⟩ }
  . exact w5.told ⟨_, hnd5⟩ ⟨l6, hnd6, by rw [ho6 0 (by decide)]; exact ht⟩ ⟨l6, hnd6, ht6⟩
 have hl6 := hl5.or hvl hS6
 left
 exact h _ S6 A (by rfl) (by rw [hA1]; rfl) (by rfl) (by rfl) (by rfl) (by rfl) w6 hl6
end
section
variable {o : Wo} [WO : WoOk o] [W : W3 o] {k : Kx} {st : St} {Q : V -> St -> Prop} {X : Exc -> St -> Prop} {A : A4} {b0 b1 : List Int} {w0 w1 : Nat}
theorem law_end {L : Addr} {loc : LocF} {QF : Fl -> LocF -> St -> Prop} {e du : V} {kd : Int} (hn : 70 <= k.n) (w : Wd4 A b0 b1 w0 w1 st) (l1 : loc "scope" = some A.top) (l2 : loc "e" = some e) (l3 : loc "due" = some du) (l4 : loc "kind" = some (.int kd)) (l5 : loc "store" = some (.obj A.so c_Store A.ds))
 (hd : DueOk o 60 (Wd4 A b0 b1 w0 w1) (.obj A.so c_Store A.ds) A.top e du) (hk : kd < 3) (hv : ∀ x y v, du = .tup [x, y, v] -> ∃ a b c, v = .tup [.int a, .int b, .int c]) (h : ∀ loc' st', QF (.ret (.bool true)) loc' st') : EXS o (lawC o k L) loc st (body_law.drop 20) QF X := by
 unfold lawC at *
 refine exs_of _ (lk_cons l1 (lk_cons l2 (lk_cons l3 (lk_cons l4 (lk_cons l5 lk_nil))))) ?_
 left
 refine ex_try_cmp (fs' := k.fs) (T := "DesignError") (CT := c_DesignError) rfl rfl (by rfl) (mg3 (by rfl)) (by rfl) (by rw [W.k]; rfl) (by rw [W.k]; rfl) (by rfl) (by rfl) (by rfl) (by decide +kernel) (fun _ => rfl) (fun _ => rfl) (fun _ => rfl) ?_
 left
 cases hd with
 | fault kd hf =>
  refine hf _ (by show 60 <= k.n - 1; right) w fun p dt => ?_
  exact ⟨by rw [W.k]; rfl, by rw [W.k]; rfl, kd, by rfl, by rfl, h _ _⟩
 | made m wd sg val hm =>
  refine hm.sd _ (by show 60 <= k.n - 1; right) w ?_
  obtain ⟨tag, rest, rfl⟩ := hm.form
  obtain ⟨a, b, c, rfl⟩ := hv _ _ _ rfl
  left
  refine call_isi_tup ?_
  left
  refine ite_t (by simpa using hk) ?_
  left
  intro a1 ha1
  left
  refine Context0_ (by symm) fun x dx hdx => ?_
  left
  refine hm.ev _ (by show 60 <= k.n - 1; right) ((w.keep ha1).keep hdx) (St.set_same ..) ?_
  left
  refine cmp_eq (da := .tuple [.int wd, .bool sg, .tuple [.int a, .int b, .int c]]) (db := .tuple [.int wd, .bool sg, .tuple [.int a, .int b, .int c]]) (by rfl) (by rfl) (by rfl) (by rfl) (Nat.le_trans (Nat.min_le_left _ _) (Nat.le_of_ble_eq_true (by rfl))) ?_
  rw [show PyData.eqv (.tuple [.int wd, .bool sg, .tuple [.int a, .int b, .int c]]) (.tuple [.int wd, .bool sg, .tuple [.int a, .int b, .int c]]) = true by simp [PyData.eqv, PyData.eqvAll]]
  exact h _ _
end
section
variable {o : Wo} [WO : WoOk o] [W : W3 o] {k : Kx} {st : St} {Q : V -> St -> Prop} {X : Exc -> St -> Prop} {A : A4} {b0 b1 : List Int} {w0 w1 : Nat}
noncomputable def vecD (bs : List Int) : PyData := .tuple [.int bs.length, .int (lowOf bs), .int (highOf bs)]
theorem cmp_vecs {d1 d2 : Addr} {xs : List CArg} (h2 : xs.length <= 2) (a1 : st d1 = some (.lst (xs.map fun x => vecV x.fit))) (a2 : st d2 = some (.lst (xs.map fun x => vecV x.fit))) (h : Q (.bool true) st) : CMP o k st .Eq (.ptr d1) (.ptr d2) Q X := by
 match xs, h2 with
 | [], _ =>
  refine cmp_eq_lst (da := []) (db := []) a1 a2 (by rfl) (by rfl) (by rfl) (by rfl) (Nat.le_of_ble_eq_true (by rfl)) ?_
  exact h
 | [x], _ =>
  refine cmp_eq_lst (da := [vecD x.fit]) (db := [vecD x.fit]) a1 a2 (by rfl) (by rfl) (by rfl) (by rfl) (Nat.le_trans (Nat.min_le_left _ _) (Nat.le_of_ble_eq_true (by rfl))) ?_
  rw [show PyData.eqv (.list [vecD x.fit]) (.list [vecD x.fit]) = true by simp [PyData.eqv, PyData.eqvAll, vecD]]
  exact h
 | [x, y], _ =>
  refine cmp_eq_lst (da := [vecD x.fit, vecD y.fit]) (db := [vecD x.fit, vecD y.fit]) a1 a2 (by rfl) (by rfl) (by rfl) (by rfl) (Nat.le_trans (Nat.min_le_left _ _) (Nat.le_of_ble_eq_true (by rfl))) ?_
  rw [show PyData.eqv (.list [vecD x.fit, vecD y.fit]) (.list [vecD x.fit, vecD y.fit]) = true by simp [PyData.eqv, PyData.eqvAll, vecD]]
  exact h
theorem cmp_ne_bool {p : Bool} (h : Q (.bool false) st) : CMP o k st .NotEq (.bool p) (.bool p) Q X := by
 refine cmp_ne (da := .bool p) (db := .bool p) (by rfl) (by rfl) (by cases p <;> rfl) (by cases p <;> rfl) (Nat.le_of_ble_eq_true (by rfl)) ?_
 rw [show PyData.eqv (.bool p) (.bool p) = true by simp [PyData.eqv]]
 exact h
theorem law_end3 {L : Addr} {loc : LocF} {QF : Fl -> LocF -> St -> Prop} {e du : V} (hn : 70 <= k.n) (w : Wd4 A b0 b1 w0 w1 st) (l1 : loc "scope" = some A.top) (l2 : loc "e" = some e) (l3 : loc "due" = some du) (l4 : loc "kind" = some (.int 3)) (l5 : loc "store" = some (.obj A.so c_Store A.ds))
 (hd : CallRes w0 w1 st e du) (h : ∀ loc' st', QF (.ret (.bool true)) loc' st') : EXS o (lawC o k L) loc st (body_law.drop 20) QF X := by
 unfold lawC at *
 have hz : sizeLine >= 10000 := by decide
 refine exs_of _ (lk_cons l1 (lk_cons l2 (lk_cons l3 (lk_cons l4 (lk_cons l5 lk_nil))))) ?_
 left
 refine ex_try_cmp (fs' := k.fs) (T := "DesignError") (CT := c_DesignError) rfl rfl (by rfl) (mg3 (by rfl)) (by rfl) (by rw [W.k]; rfl) (by rw [W.k]; rfl) (by rfl) (by rfl) (by rfl) (by decide +kernel) (fun _ => rfl) (fun _ => rfl) (fun _ => rfl) ?_
 left
 have flt : ∀ kd, du = .str kd -> FaultOk o 60 (Wd4 A b0 b1 w0 w1) A.top e kd := fun kd q => by subst q; exact call_fault hd
 cases hd with
 | ok p xs hx hw d hst =>
  have h2 : xs.length <= 2 := by
   have := congrArg List.length hw
   rw [List.length_map] at this
   rw [this]; exact wsOf_len
  refine sd_call (o := o) w hx hw (by show 12 <= k.n - 1; right) ?_
  left
  refine call_isi_tup ?_
  left
  refine ite_f (by simp) ?_
  left
  refine cmp_ne_bool ?_
  left
  refine ite_f (by simp) ?_
  left
  refine ev_comp _ (fun _ _ => rfl) (by rfl) (by rfl) ?_
  left
  refine compv_tup (fun i vs st' => (∀ a m, st a = some m -> st' a = some m) /\ vs = (xs.take i).map fun x => vecV x.fit) (by rfl) (by rfl) (by rw [List.length_map]; right) ⟨fun _ _ h => h, rfl⟩ (fun i v ys st' D C hx' hj hD => ?_) (fun ys st' D hj hl' hD => ?_)
  . obtain ⟨hk, rfl⟩ := hj
    obtain ⟨x, hxi, rfl⟩ : ∃ x, xs[i]? = some x /\ v = constV x.fit := map_get hx'
    have et : xs.take (i + 1) = xs.take i ++ [x] := by rw [List.take_add_one, hxi]; rfl
    left
    intro a1 ha1
    have n1 := ne_of_set ha1
    have ha1' := none_of_set ha1
    left
    refine Context0_ (by symm) fun y dy hdy => ?_
    have n2 := ne_of_set (none_of_set hdy)
    have hdy' := none_of_set (none_of_set hdy)
    have n3 := ne_of_set hdy
    left
    refine all_const (by symm) ?_
    refine ⟨(st'.set a1 (.lst [])).set dy (.sd [("store", .obj A.so c_Store A.ds), ("frame", .ptr a1), ("now", .int 0)]), ?_, ?_, fun a m ha => ?_, by rw [et, List.map_append]; rfl⟩
    . rw [St.swap n1, St.swap n2]
    . rw [St.set_ne _ _ n2, St.set_ne _ _ n1]; exact hD
    . have hne : (st'.set a1 (.lst [])) dy = none := by rw [St.set_ne _ _ (Ne.symm n3)]; exact hdy'
      exact St.keep (St.keep (hk a m ha) ha1') hne
  . obtain ⟨hk, rfl⟩ := hj
    rw [List.length_map, List.take_length]
    left
    refine cmp_vecs h2 (St.set_same ..) (St.keep (hk _ _ hst) hD) ?_
    exact h _ _
 | args p xs hl h9 =>
  refine flt _ rfl _ (by show 60 <= k.n - 1; right) w fun p dt => ?_
  exact ⟨by rw [W.k]; rfl, by rw [W.k]; rfl, _, by rfl, by rfl, h _ _⟩
 | task =>
  refine flt _ rfl _ (by show 60 <= k.n - 1; right) w fun p dt => ?_
  exact ⟨by rw [W.k]; rfl, by rw [W.k]; rfl, _, by rfl, by rfl, h _ _⟩
 | sig =>
  refine flt _ rfl _ (by show 60 <= k.n - 1; right) w fun p dt => ?_
  exact ⟨by rw [W.k]; rfl, by rw [W.k]; rfl, _, by rfl, by rfl, h _ _⟩
 | no =>
  refine flt _ rfl _ (by show 60 <= k.n - 1; right) w fun p dt => ?_
  exact ⟨by rw [W.k]; rfl, by rw [W.k]; rfl, _, by rfl, by rfl, h _ _⟩
end
section
variable {o : Wo} [WO : WoOk o] [W : W3 o] {k : Kx} {st : St} {Q : V -> St -> Prop} {X : Exc -> St -> Prop} {A : A4} {w0 w1 : Nat}
theorem join_v {e du : V} (h : JoinRes e du) : ∀ x y v, du = .tup [x, y, v] -> ∃ a b c, v = .tup [.int a, .int b, .int c] := fun x y v q => by
 cases h <;> cases q <;> exact ⟨_, _, _, rfl⟩
theorem name_v {bs : List Int} {e du : V} (h : NameRes bs e du) : ∀ x y v, du = .tup [x, y, v] -> ∃ a b c, v = .tup [.int a, .int b, .int c] := fun x y v q => by
 cases h <;> cases q <;> exact ⟨_, _, _, rfl⟩
theorem law_mid {L : Addr} {loc : LocF} {QF : Fl -> LocF -> St -> Prop} {kd : Int} {r ba ww wa wb : Addr} {ys bs : List Int} (hn : 80 <= k.n) (hkd : 0 <= kd /\ kd < 4) (hy : RowOk ys) (hbl : bs.length = 3) (hbc : Codes bs) (h1 : 1 <= w0 /\ w0 <= 8) (h2 : 1 <= w1 /\ w1 <= 8)
 (l1 : loc "row" = some (.ptr r)) (l2 : loc "scope" = some A.top) (l3 : loc "kind" = some (.int kd)) (l4 : loc "bits" = some (.ptr ba)) (l5 : loc "widths" = some (.ptr ww)) (l6 : loc "store" = some (.obj A.so c_Store A.ds))
 (w : Wd4 A bs (notB bs) w0 w1 st) (hl : Lay st [(ww, .lst [.ptr wa, .ptr wb]), (wb, .lst [.int w1, .int 3]), (wa, .lst [.int w0]), (ba, .lst (bs.map V.int)), (r, .lst (ys.map V.int))])
 (h : ∀ loc' st', QF (.ret (.bool true)) loc' st') : EXS o (lawC o k L) loc st (body_law.drop 19) QF X := by
 have hr := hl.get 4 rfl
 have key : ∀ (kd' : Int), loc "kind" = some (.int kd') -> 0 <= kd' /\ kd' < 4 -> EXS o (lawC o k L) loc st (body_law.drop 19) QF X := fun kd' l3 hk => by
  unfold lawC
  refine exs_of _ (lk_cons l1 (lk_cons l2 (lk_cons l3 (lk_cons l4 (lk_cons l5 (lk_cons l6 lk_nil)))))) ?_
  refine exs_4 1 ?_
  rcases (by right : kd' = 0 \/ kd' = 1 \/ kd' = 2 \/ kd' = 3) with rfl | rfl | rfl | rfl
  . left
    refine law_joined (by symm) hr hy fun S e du hj hg _ => ?_
    left
    show EXS o (lawC o k L) _ _ (body_law.drop 20) QF X
    exact law_end (b0 := bs) (b1 := notB bs) (kd := 0) (by right) (w.grow hr hg) (by rfl) (by rfl) (by rfl) (by rfl) (by rfl) (joined_ok hj) (by decide) (join_v hj) h
  . left
    refine law_text (by symm) hr hy fun S cs hc hlc hg _ => ?_
    left
    show EXS o (lawC o k L) _ _ (body_law.drop 20) QF X
    exact law_end (b0 := bs) (b1 := notB bs) (kd := 1) (by right) (w.grow hr hg) (by rfl) (by rfl) (by rfl) (by rfl) (by rfl) (txt_ok hlc hc) (by decide) (fun x y v q => by cases q; exact ⟨_, _, _, rfl⟩) h
  . left
    refine law_name (by symm) hr hy (hl.get 3 rfl) hbc (by right) (hl.ne 3 4 rfl rfl (by decide)) fun S e du hj hg _ => ?_
    left
    show EXS o (lawC o k L) _ _ (body_law.drop 20) QF X
    exact law_end (b0 := bs) (b1 := notB bs) (kd := 2) (by right) (w.grow hr hg) (by rfl) (by rfl) (by rfl) (by rfl) (by rfl) (name_ok hbl hj) (by decide) (name_v hj) h
  . left
    have hl2 : Lay st [(r, .lst (ys.map V.int)), (ww, .lst [.ptr wa, .ptr wb]), (wa, .lst [.int w0]), (wb, .lst [.int w1, .int 3])] := by
     have a1 : Lay st [(wb, .lst [.int w1, .int 3])] := hl.sub (.cons _ (.cons_cons _ (.cons _ (.cons _ (.cons _ .slnil)))))
     have a2 := a1.add (a := wa) (by simpa using hl.ne 2 1 rfl rfl (by decide)) (hl.get 2 rfl)
     have a3 := a2.add (a := ww) (by simpa using ⟨hl.ne 0 2 rfl rfl (by decide), hl.ne 0 1 rfl rfl (by decide)⟩) (hl.get 0 rfl)
     exact a3.add (a := r) (by simpa using ⟨hl.ne 4 0 rfl rfl (by decide), hl.ne 4 2 rfl rfl (by decide), hl.ne 4 1 rfl rfl (by decide)⟩) hr
    refine law_call (by symm) hr hy h1 h2 hl2 fun S e du hj hg _ => ?_
    left
    show EXS o (lawC o k L) _ _ (body_law.drop 20) QF X
    exact law_end3 (b0 := bs) (b1 := notB bs) (by right) (w.grow hr hg) (by rfl) (by rfl) (by rfl) (by rfl) (by rfl) hj h
 exact key kd l3 hkd
theorem law_ {sp : Addr} {xs : List Int} (hn : 90 <= k.n) (hs : KL o sp xs) (hx : xs.length <= 63) (h : ∀ st', Q (.bool true) st') : CALL o k st (.ref a_law) [.ptr sp] Q X := by
 refine call_f ok_law (by walk_at "m") (by rfl) fun L => ?_
 show EXS o (lawC o k L) _ _ body_law _ _
 refine law_a (by right) (by rfl) hs hx fun loc1 S1 r D dD T dT I dI kd ba ww wa wb ys bs w0 w1 bp sc lr ls eT eI x1 x2 x3 x4 x6 x7 hy hbl hbc hkd h1 h2 m1 m2 m3 m4 m5 m6 m7 hl => ?_
 refine law_b1 (by right) m1 m2 m3 m4 m5 m6 m7 hl fun loc2 S2 s0 d0 s1 d1 m1 m2 m3 m4 m5 m6 hl => ?_
 refine law_b2 (by right) m1 m2 m3 m4 m5 m6 hl fun loc3 S3 s2 d2 m1 m2 m3 m4 m5 m6 hl => ?_
 refine law_b3 (by right) m1 m2 m3 m4 m5 m6 hl fun loc4 S4 q0 c0 q1 c1 p0 p1 y0 y1 m1 m2 m3 m4 m5 m6 hl => ?_
 refine law_b4 (by right) hbl hbc m1 m2 m3 m4 m5 m6 hl fun loc5 S5 A m1 m2 m3 m4 m5 m6 w hl => ?_
 exact law_mid (by right) hkd hy hbl hbc h1 h2 m1 m2 m3 m4 m5 m6 w hl fun loc' st' => ⟨st', St.le_refl _, h _⟩
end
end NN
end
section
open PySem PySem.W PyProof.Rows PySem.Calls
set_option maxRecDepth 100000
set_option linter.all false
set_option maxHeartbeats 400000
namespace NN
theorem ints_R {P : Params} {h : Heap} : ∀ {ns : List Int} {vs : List Value}, WellAll P h vs (ns.map .int) -> ∀ h', VRs h' (ns.map V.int) vs := fun {ns} => by
 induction ns with
 | nil => intro vs h h'; cases h; exact .nil
 | cons n ns ih =>
  intro vs h h'
  cases h with
  | cons a r => cases a; exact .cons (.int _ _) (ih r h')
theorem lookup_app {K X : Frag} {a : Addr} (h : K.lookup a = none) : (K ++ X).lookup a = X.lookup a := by
 rw [List.lookup_append, h]; rfl
theorem join4 {w : World} {s₀ s₁ : Shared} {mg mb : Str -> Option Value} {a sp : Addr} {vs : List Value} {ns : List Int}
 (g1 : s₁.heap.Ns mainGlobals mg) (g2 : s₁.heap.Ns builtinsNs mb) (g3 : ∀ x : Str, x ≠ "__name__" -> mb x = bootBuiltins x) (g4 : s₁.heap.NoLimit) (Y : yf s₀ = ya w) (hmg : mg "law" = some (.ref a))
 (hgens : s₁.gens = #[]) (keeps : ∀ b o, s₀.heap.get? b = some o -> s₁.heap.get? b = some o) (new : s₀.heap.get? sp = none) (hsp : s₁.heap.get? sp = some { cls := .type "list", data := .seq vs.toArray }) (hws : ∀ h', VRs h' (ns.map V.int) vs) (hlen : ns.length <= 63)
 (hfr : ∀ b o, s₁.heap.get? b = some o -> s₀.heap.get? b = none -> frO o = true) {Q : Value -> Shared -> Prop} {E : Value -> Shared -> Prop}
 (hq : ∀ s', s'.gens = #[] -> s'.os = s₁.os -> OldK s₁.heap s'.heap -> Q (.bool true) s') :
 wpAny (model PySem.Challenge.pw_nn0344_04 w) callerA (PySem.call (.ref a) [.ref sp]) Q E s₁ := by
 have y1 : as3.map s₀.heap.get? = (K3 w.params).map fun p => some p.2 := congrArg (·.1) Y
 have y2 : (G3.map fun p => s₀.heap.nsMap mainGlobals p.1) = G3.map fun p => p.2 := congrArg (·.2.1) Y
 have y34 : (s₀.heap.objs.toList.all frO && smO s₀) = true := congrArg (·.2.2) Y
 obtain ⟨y3, y4⟩ := Bool.and_eq_true_iff.mp y34
 obtain ⟨om, hom, hmc⟩ : ∃ om, s₀.heap.get? sysModules = some om /\ om.cls ≠ .type "frame" := by
  unfold smO at y4
  split at y4
  . rename_i ob h; exact ⟨ob, h, by simpa using y4⟩
  . cases y4
 have in0 : (K3 w.params).In s₀.heap := Frag.in_of (as3_ok w.params) y1
 have hg0 : ∀ p ∈ G3, s₀.heap.nsMap mainGlobals p.1 = p.2 := List.map_inj_left.mp y2
 have hmain : s₀.heap.nsMap mainGlobals = mg := by
  have e := g1.eq_nsMap
  rw [e]
  have : (s₀.heap.get? mainGlobals).isSome = true := by
   have := hg0 ("law", some (.ref a_law)) (mem_lookup (by rfl))
   unfold Heap.nsMap at this
   split at this
   . rename_i h; rw [h]; rfl
   . cases this
  obtain ⟨ob, hob⟩ := Option.isSome_iff_exists.mp this
  funext x
  unfold Heap.nsMap
  rw [hob, keeps _ _ hob]
 have hg : ∀ p ∈ G3, mg p.1 = p.2 := fun p hp => by rw [<- hmain]; exact hg0 p hp
 have ea : a = a_law := by
  have := hg ("law", some (.ref a_law)) (mem_lookup (by rfl))
  rw [hmg] at this
  cases this; rfl
 subst ea
 have hKsp : (K3 w.params).lookup sp = none := by
  cases e : (K3 w.params).lookup sp with
  | none => rfl
  | some ob => have := in0 sp ob e; rw [new] at this; cases this
 have hnm : sysModules ≠ sp := fun e => by rw [<- e, hom] at new; cases new
 have hnb : (sysModules == sp) = false := beq_eq_false_iff_ne.mpr hnm
 let o : Wo := ⟨PySem.Challenge.pw_nn0344_04, w, K3 w.params ++ [(sp, listO vs 0), (sysModules, om)], mg, mb⟩
 let W : W3 o := ⟨[(sp, listO vs 0), (sysModules, om)], rfl, (fun p hp => by
  rcases List.mem_cons.mp hp with rfl | hp
  . simp
  . rcases List.mem_cons.mp hp with rfl | hp
    . exact hmc
    . cases hp), ⟨om, by rw [List.lookup_cons, hnb, List.lookup_cons, beq_self_eq_true]⟩, hg⟩
 have WO : WoOk o := woOk W
 have hIn : o.In s₁.heap := by
  refine ⟨fun b ob e => ?_, g1, g2, g3, g4⟩
  by_cases q : (K3 w.params).lookup b = none
  . have e : (K3 w.params ++ [(sp, listO vs 0), (sysModules, om)]).lookup b = some ob := e
    rw [lookup_app q, List.lookup_cons] at e
    cases hb : b == sp with
    | true => rw [hb] at e; cases e; rw [beq_iff_eq.mp hb]; exact hsp
    | false =>
     rw [hb, List.lookup_cons] at e
     cases hb2 : b == sysModules with
     | true => rw [hb2] at e; cases e; rw [beq_iff_eq.mp hb2]; exact keeps _ _ hom
     | false => rw [hb2] at e; cases e
  . obtain ⟨ob', h⟩ := Option.ne_none_iff_exists'.mp q
    have e : (K3 w.params ++ [(sp, listO vs 0), (sysModules, om)]).lookup b = some ob := e
    rw [List.lookup_append, h] at e
    have e : ob' = ob := Option.some.inj e
    subst e
    exact keeps _ _ (in0 b ob' h)
 have hk : KxOk ⟨callerA, [], 100⟩ := ⟨rfl, by decide +kernel, by decide +kernel, rfl⟩
 have hS : SI o ⟨callerA, [], 100⟩ St.nil s₁ := ⟨hk, hIn, (fun _ h => by cases h), (fun b m e => nomatch (show (none : Option MO) = some m from e)), fun _ _ => rfl⟩
 have hKL : KL o sp ns := ⟨vs, 0, by
  show (K3 w.params ++ [(sp, listO vs 0), (sysModules, om)]).lookup sp = _
  rw [lookup_app hKsp, List.lookup_cons, beq_self_eq_true], hws⟩
 have main := @law_ o WO W ⟨callerA, [], 100⟩ St.nil (fun v _ => v = .bool true) (fun _ _ => False) sp ns (by show 90 <= 100; decide) hKL hlen (fun _ => rfl)
 refine wpAny_mono (main s₁ [.ref sp] hS (.cons (.ptr sp) .nil)) (fun v s' ⟨r, st', hr, S, e⟩ => ?_) (fun e s' ⟨_, _, _, _, _, _, _, q⟩ => q.elim)
 subst e
 cases hr
 refine hq s' (S.gens.trans hgens) S.os (OldK.of_keep fun b ob hb => ?_)
 obtain ⟨ob', h1, h2⟩ := S.ext b ob (fun q => q) rfl hb
 rcases h2 with e | ⟨⟨c1, es, n, c2⟩, _⟩
 . rw [h1, e]
 . exfalso
   have hf : frO ob = true := by
    cases e : s₀.heap.get? b with
    | none => exact hfr b ob hb e
    | some ob0 =>
     have : ob0 = ob := Option.some.inj ((keeps _ _ e).symm.trans hb)
     subst this
     have hm := (Heap.get?_some_iff.mp e).1
     exact List.all_eq_true.mp y3 _ (Array.mem_toList_iff.mpr (Array.mem_of_getElem? hm))
   unfold frO at hf
   rw [c2] at hf
   simp [c1] at hf
theorem push_new {h : Heap} {ob o : Obj} {b : Addr} (e : (h.push ob).get? b = some o) (n : h.get? b = none) : o = ob := by
 obtain ⟨e1, e2⟩ := Heap.get?_some_iff.mp e
 by_cases q : b = h.objs.size
 . subst q
   have : (h.push ob).objs[h.objs.size]? = some ob := by cases h; simp [Heap.push]
   rw [this] at e1; exact (Option.some.inj e1).symm
 . have : (h.push ob).objs[b]? = h.objs[b]? := by cases h; simp only [Heap.push, Array.getElem?_push]; rw [if_neg q]
   rw [this] at e1
   have := Heap.get?_some_iff.mpr ⟨e1, e2⟩
   rw [n] at this; cases this
theorem lay_cons {R : WRecords} {cl : Str -> Option Addr} {P : Params} {ord : List DictEntry -> List DictEntry} {x : WData} {xs : List WData} {s s' : Shared} {vs : List Value} (e : layAllW R cl P ord (x :: xs) s = some (vs, s')) :
 ∃ a r, layW R cl P ord x s = some a /\ layAllW R cl P ord xs a.2 = some r /\ vs = a.1 :: r.1 /\ s' = r.2 := by
 unfold layAllW at e
 cases h1 : layW R cl P ord x s with
 | none => rw [h1] at e; cases e
 | some a =>
 rw [h1] at e
 cases h2 : layAllW R cl P ord xs a.2 with
 | none => dsimp only at e; rw [h2] at e; cases e
 | some r => dsimp only at e; rw [h2] at e; cases e; exact ⟨a, r, rfl, h2, rfl, rfl⟩
theorem lay_heap {R : WRecords} {cl : Str -> Option Addr} {P : Params} {ord : List DictEntry -> List DictEntry} : ∀ {ns : List Int} {s s' : Shared} {vs : List Value}, layAllW R cl P ord (ns.map .int) s = some (vs, s') -> s'.heap = s.heap
 | [], s, s', vs, e => by unfold layAllW at e; cases e; rfl
 | n :: ns, s, s', vs, e => by
  obtain ⟨a, r, h1, h2, _, rfl⟩ := lay_cons e
  have h := lay_heap (ns := ns) (vs := r.1) (s' := r.2) h2
  unfold layW at h1
  cases h1
  exact h
theorem lay4 {R : WRecords} {cl : Str -> Option Addr} {P : Params} {ord : List DictEntry -> List DictEntry} {ns : List Int} {s s' : Shared} {vs : List Value} (e : layAllW R cl P ord [.list (ns.map .int)] s = some (vs, s')) :
 ∃ q : List Value × Shared, q.2.heap = s.heap /\ vs = [.ref q.2.heap.objs.size] /\ s' = { q.2 with heap := q.2.heap.push { cls := .type "list", data := .seq q.1.toArray } } := by
 obtain ⟨a, r, h1, h2, rfl, rfl⟩ := lay_cons e
 unfold layAllW at h2
 cases h2
 unfold layW at h1
 cases h3 : layAllW R cl P ord (ns.map .int) s with
 | none => rw [h3] at h1; cases h1
 | some q => rw [h3] at h1; cases h1; exact ⟨q, lay_heap h3, rfl, rfl⟩
theorem post4 {ns : List Int} : PySem.Challenge.rw_nn0344_04.row.claim.post [WData.list (List.map WData.int ns)] (WData.bool true) [WData.list (List.map WData.int ns)] = true := by kernel_rfl
theorem not_v {a : WTm} {e : WCtx} {b : Bool} (h : WTm.value [] a e = some (.bool b)) : WTm.value [] (.not a) e = some (.bool !b) := by
 have : WTm.value [] (.not a) e = (match WTm.value [] a e with
  | some (WData.bool b) => some (WData.bool (!b))
  | _ => none) := rfl
 rw [this, h]
theorem and_v {a c : WTm} {e : WCtx} (h : WTm.value [] a e = some (.bool false)) : WTm.holds [] (.and a c) e = false := by
 have : WTm.value [] (.and a c) e = some (.bool false) := by
  show (match WTm.value [] a e with
  | some (WData.bool false) => some (WData.bool false)
  | some (WData.bool true) => (match WTm.value [] c e with
   | some (WData.bool x) => some (WData.bool x)
   | _ => none)
  | _ => none) = _
  rw [h]
 unfold WTm.holds
 rw [this]
theorem lt_v {a c : WTm} {e : WCtx} {i j : Int} (h1 : WTm.value [] a e = some (.int i)) (h2 : WTm.value [] c e = some (.int j)) : WTm.value [] (.lt a c) e = some (.bool (decide (i < j))) := by
 have : WTm.value [] (.lt a c) e = (match WTm.value [] a e, WTm.value [] c e with
  | some x, some y => (less? x y).map WData.bool
  | _, _ => none) := rfl
 rw [this, h1, h2]; rfl
theorem pre4 {ns : List Int} (h : WTm.holds [] PySem.Challenge.rw_nn0344_04.row.pre { args := [WData.list (List.map WData.int ns)] } = true) : ns.length <= 63 := by
 have h : WTm.holds [] (.and (.not (.lt (.lit (.int (63 : Nat))) (.len (.arg 0)))) (.lit (.bool true))) { args := [WData.list (List.map WData.int ns)] } = true := h
 refine Int.ofNat_le.mp (Int.not_lt.mp fun hc => ?_)
 rw [and_v (not_v (lt_v (i := (63 : Nat)) (j := ns.length) rfl (by show some (WData.int ((List.map WData.int ns).length : Nat)) = _; rw [List.length_map])) |>.trans (by rw [decide_eq_true hc]; rfl))] at h
 cases h
theorem well4 {P : Params} {h : Heap} {a : Addr} {ns : List Int} (x : WellAll P h [.ref a] [WData.list (ns.map .int)]) : ∃ vs : List Value, h.get? a = some { cls := .type "list", data := .seq vs.toArray } /\ ∀ h', VRs h' (ns.map V.int) vs := by
 cases x with
 | cons hw _ =>
 cases hw with
 | list hl hw => exact ⟨_, hl, ints_R hw⟩
theorem walk4 {d : DefRec} {kwd : List (Str × Expr)} (hd : d.name = Str.ofString "law") : WalkX qv looseN (fun _ _ => True) yf ya PySem.Challenge.rw_nn0344_04.row.toRowW d kwd (fun f vs => PySem.call f vs) := by
 intro w s₀ s₁ mg mb G Y a ob pm cd doc dV kV ha hdat hcd hdf hmg hgens args vals as L hpre hlay hrd hwell hsm
 obtain ⟨h1, h2⟩ := pre_splitW hpre
 obtain ⟨x, r, rfl, hx, hr⟩ := hasAllW_cons (e := .list .int) (es := []) h1
 obtain rfl := hasAllW_nil hr
 obtain ⟨xs, rfl, hi⟩ := hasW_list hx
 obtain ⟨ns, rfl⟩ := items_int hi
 have hlen : ns.length <= 63 := pre4 h2
 obtain ⟨ord, hord, hlaid⟩ := L.laid
 obtain ⟨q, eh, rfl, rfl⟩ := lay4 hlaid
 obtain ⟨vs, hl, hw⟩ := well4 hwell
 rw [hd] at hmg
 have hnew : s₀.heap.get? q.2.heap.objs.size = none := by rw [eh]; exact Heap.get?_none_of_le (Nat.le_refl _)
 refine join4 G.T.g G.T.b G.T.builtins G.T.nolimit Y hmg hgens L.keeps hnew hl hw hlen (fun b o hb hn => ?_) (fun s' k1 k2 k3 => ?_)
 . rw [push_new hb (by show q.2.heap.get? b = none; rw [eh]; exact hn)]; rfl
 . exact ⟨.inl ⟨.bool true, .bool true, [], rfl, fun _ => rfl, .bool true, post4, fun _ => ⟨List.nodup_nil, fun _ h => nomatch h⟩⟩, k3, k2, AllBare.of_eq k1⟩
end NN
end
theorem PySem.Challenge.cw_nn0344_04_holds : PySem.Challenge.rw_nn0344_04.Holds :=
  NN.head3 fun d kwd h => NN.walk4 h
